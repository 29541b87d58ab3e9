import PyProof.Rows.All
import Wide.All
import OpenK.AllK
import Wide.FinOn
import HandS.ForMost
import HandS.ForExc
import HandS.Evl
import HandS.Walk
import HandS.Zip
import HandS.Deep
import HandS.DictComp
import HandS.Style
import HandS.IsInst
import KE.Datum
import KE.DatumOrd
import KE.SortData
import HandS.TupAny
import HandS.NoneIn
import HandS.Defaults
import KE.GoesEnum
import KE.GoesMore
import PyProof.EnumMake
import HandS.FltList
import HandS.SetFor
import HandS.SetTxt0
import HandS.Strs
import PyProof.AutoSeq1
import HandS.Steps
import HandS.ExcIs
import HandS.ExcOwn
import HandS.ExcValue
import HandS.TryMany
import KE.KTryMore
import PyProof.ExcBaseAll.LookupError
import HandS.Lambda
import KE.SortUse
import PyProof.Rows.CallKwBuiltin
import PyProof.Rows.CallKw2
import HandS.Dict
import HandS.Small
import PyProof.Rows.TupDisplay
import HandS.HeadHook4
import HandS.ExcInit
import KE.KExcInit
import KE.KExcIs
import HandS.Codes
import PyProof.Rows.NestShow
import PyProof.Rows.ReprR
import HandS.Ends
import HandS.HeadEnd
import HandS.Text
import HandS.StrMore
import PyProof.Rows.StrCut
import PyProof.ListStr
import HandS.Iter
import HandS.Call
import HandS.More
import KE.KEqDict
import KE.KDictSum
import HandS.MakeKwOnly
import PyProof.ExcBaseAll.OverflowError
import PyProof.ExcBaseAll.RuntimeError
import HandS.Words
import HandS.WordsExc
import HandS.Head0
import HandS.Head1
import HandS.Head2
import HandS.HeadHook1
import HandS.HeadHook2
import KE.KStateDown
import PySem.Challenge.RW_offbyon_k87_panels_and_names_as_texts
set_option Elab.async false
set_option linter.all false
set_option maxRecDepth 100000
set_option maxHeartbeats 4000000
/-! Ob1: data with a Lean type over the layer: at_ K H v x: v holds x in the abstract heap H; Pe: a reading gives data by allocating only; walks over data; comprehensions. -/
namespace Ob
open PySem L2
open Evl (Ex)
open PySem.W (Datum Tup)
/-! ### heaps: B, what is frozen, within H, what stands -/
structure Up (B H B2 H2 : Hp) : Prop where
  bb : Ex B B2
  bh : Ex B2 H2
  hh : Ex H H2
  nw : ∀ a, B2 a ≠ none → B a ≠ none ∨ H a = none
theorem Up.refl {B H : Hp} (e : Ex B H) : Up B H B H := ⟨Ex.refl B, e, Ex.refl H, fun _ h => .inl h⟩
theorem Up.trans {B H B1 H1 B2 H2 : Hp} (a : Up B H B1 H1) (b : Up B1 H1 B2 H2) : Up B H B2 H2 :=
  ⟨a.bb.trans b.bb, b.bh, a.hh.trans b.hh, fun x h => by
    rcases b.nw x h with h | h
    · exact a.nw x h
    · refine .inr ?_
      cases q : H x with
      | none => rfl
      | some o =>
        rw [a.hh x o q] at h
        cases h⟩
/-- a new object, frozen -/
theorem Up.new {B H : Hp} {p : Addr} {o : HO} (e : Ex B H) (hp : H p = none) : Up B H (upd B p o) (upd H p o) := by
  have hb : B p = none := Evl.fresh_back e hp
  refine ⟨Ex.new hb, fun a u h => ?_, Ex.new hp, fun a h => ?_⟩
  · by_cases ha : a = p
    · subst ha
      rw [upd_same] at h ⊢
      exact h
    · rw [upd_ne ha] at h ⊢
      exact e a u h
  · by_cases ha : a = p
    · subst ha
      exact .inr hp
    · rw [upd_ne ha] at h
      exact .inl h
theorem Up.then {B H B1 H1 : Hp} {p : Addr} {o : HO} (a : Up B H B1 H1) (hp : H1 p = none) : Up B H (upd B1 p o) (upd H1 p o) := a.trans (Up.new a.bh hp)
/-- an object that is not frozen stays so, and as it was -/
theorem Up.out {B H B2 H2 : Hp} (u : Up B H B2 H2) {a : Addr} {o : HO} (hb : B a = none) (h : H a = some o) : B2 a = none ∧ H2 a = some o := by
  refine ⟨?_, u.hh a o h⟩
  cases q : B2 a with
  | none => rfl
  | some x =>
    rcases u.nw a (by rw [q]; exact fun z => nomatch z) with z | z
    · exact absurd hb z
    · rw [h] at z
      cases z
theorem ex_upd {B H : Hp} {p : Addr} {o : HO} (e : Ex B H) (hb : B p = none) : Ex B (upd H p o) := fun a u h => by
  rw [upd_ne (ne_of_none h hb)]
  exact e a u h
/-- a frozen part may take in an object that stands -/
theorem ex_in {B H : Hp} {p : Addr} {o : HO} (e : Ex B H) (h : H p = some o) : Ex (upd B p o) H := fun a u q => by
  by_cases ha : a = p
  · subst ha
    rw [upd_same] at q
    cases q
    exact h
  · rw [upd_ne ha] at q
    exact e a u q
/-! ### what reads as it did: also behind a lock or an unlock of a dict -/
def plainO : HO → Bool
  | .lst _ => true
  | .tup _ => true
  | .dK _ => true
  | .dT _ => true
  | .ext _ => true
  | _ => false
def ExR (H H' : Hp) : Prop := (∀ a u, plainO u = true → Rd H a u → Rd H' a u) ∧ (∀ a us, H a = some (.tup us) → H' a = some (.tup us)) ∧ ∀ a C dx fs, H a = some (.ins C dx fs) → H' a = some (.ins C dx fs)
theorem ExR.of {H H' : Hp} (e : Ex H H') : ExR H H' := ⟨fun _ _ _ h => Evl.ex_rd e h, fun _ _ h => e _ _ h, fun _ _ _ _ h => e _ _ h⟩
/-- a tuple that stands there as it is reads as a tuple -/
theorem ex_tx {K : PySem.W.Frag} {H H' : Hp} {a : Addr} {xs : List V} (e : Ex H H') (h : H a = some (.tup xs)) : SqT K H' a xs := Evl.st_of (e _ _ h)
theorem exr_l {K : PySem.W.Frag} {H H' : Hp} {a : Addr} {xs : List V} (e : ExR H H') (h : SqL K H a xs) : SqL K H' a xs := h.imp (fun h => e.1 a _ rfl h) id
theorem exr_t {K : PySem.W.Frag} {H H' : Hp} {a : Addr} {xs : List V} (e : ExR H H') (h : SqT K H a xs) : SqT K H' a xs := h.imp (fun h => e.1 a _ rfl h) id
/-! ### data in the heap -/
section
variable {K : PySem.W.Frag} {H H' : Hp}
mutual
theorem dp_monoR (e : ExR H H') : ∀ (d : PyData) (v : V), Dp K H v d → Dp K H' v d
  | .none, _, h => by cases h; exact .non
  | .bool _, _, h => by cases h; exact .bl _
  | .int _, _, h => by cases h; exact .int _
  | .str _, _, h => by cases h; exact .str _
  | .list ds, _, h => by
    cases h with
    | lst a b => exact .lst (exr_l e a) (dpAll_monoR e ds _ b)
  | .tuple ds, _, h => by
    cases h with
    | tup a b => exact .tup (exr_t e a) (dpAll_monoR e ds _ b)
  | .dict _, _, h => by cases h
theorem dpAll_monoR (e : ExR H H') : ∀ (ds : List PyData) (vs : List V), DpAll K H vs ds → DpAll K H' vs ds
  | [], _, h => by cases h; exact .nil
  | d :: ds, _, h => by
    cases h with
    | cons a b => exact .cons (dp_monoR e d _ a) (dpAll_monoR e ds _ b)
end
end
/-! data, each tuple as it stands -/
mutual
inductive Dq (K : PySem.W.Frag) (H : Hp) : V → PyData → Prop
  | non : Dq K H .non .none
  | bl (b : Bool) : Dq K H (.bl b) (.bool b)
  | int (i : Int) : Dq K H (.int i) (.int i)
  | str (x : Str) : Dq K H (.str x) (.str x)
  | lst {a : Addr} {xs : List V} {ds : List PyData} : SqL K H a xs → DqAll K H xs ds → Dq K H (.ref a) (.list ds)
  | tup {a : Addr} {xs : List V} {ds : List PyData} : H a = some (.tup xs) → DqAll K H xs ds → Dq K H (.ref a) (.tuple ds)
inductive DqAll (K : PySem.W.Frag) (H : Hp) : List V → List PyData → Prop
  | nil : DqAll K H [] []
  | cons {v : V} {vs : List V} {d : PyData} {ds : List PyData} : Dq K H v d → DqAll K H vs ds → DqAll K H (v :: vs) (d :: ds)
end
section
variable {K : PySem.W.Frag} {H H' : Hp}
mutual
theorem Dq.dp : ∀ (d : PyData) (v : V), Dq K H v d → Dp K H v d
  | .none, _, h => by cases h; exact .non
  | .bool _, _, h => by cases h; exact .bl _
  | .int _, _, h => by cases h; exact .int _
  | .str _, _, h => by cases h; exact .str _
  | .list ds, _, h => by
    cases h with
    | lst a b => exact .lst a (DqAll.dp ds _ b)
  | .tuple ds, _, h => by
    cases h with
    | tup a b => exact .tup (Evl.st_of a) (DqAll.dp ds _ b)
  | .dict _, _, h => by cases h
theorem DqAll.dp : ∀ (ds : List PyData) (vs : List V), DqAll K H vs ds → DpAll K H vs ds
  | [], _, h => by cases h; exact .nil
  | d :: ds, _, h => by
    cases h with
    | cons a b => exact .cons (Dq.dp d _ a) (DqAll.dp ds _ b)
end
mutual
theorem dq_monoR (e : ExR H H') : ∀ (d : PyData) (v : V), Dq K H v d → Dq K H' v d
  | .none, _, h => by cases h; exact .non
  | .bool _, _, h => by cases h; exact .bl _
  | .int _, _, h => by cases h; exact .int _
  | .str _, _, h => by cases h; exact .str _
  | .list ds, _, h => by
    cases h with
    | lst a b => exact .lst (exr_l e a) (dqAll_monoR e ds _ b)
  | .tuple ds, _, h => by
    cases h with
    | tup a b => exact .tup (e.2.1 _ _ a) (dqAll_monoR e ds _ b)
  | .dict _, _, h => by cases h
theorem dqAll_monoR (e : ExR H H') : ∀ (ds : List PyData) (vs : List V), DqAll K H vs ds → DqAll K H' vs ds
  | [], _, h => by cases h; exact .nil
  | d :: ds, _, h => by
    cases h with
    | cons a b => exact .cons (dq_monoR e d _ a) (dqAll_monoR e ds _ b)
end
theorem dp_mono (e : Ex H H') (d : PyData) (v : V) (h : Dq K H v d) : Dp K H' v d := dp_monoR (ExR.of e) d v (Dq.dp d v h)
end
class Rep (α : Type) where
  at_ : PySem.W.Frag → Hp → V → α → Prop
  monoR : ∀ {K : PySem.W.Frag} {H H' : Hp} {v : V} {x : α}, ExR H H' → at_ K H v x → at_ K H' v x
theorem Rep.mono {α : Type} [Rep α] {K : PySem.W.Frag} {H H' : Hp} {v : V} {x : α} (e : Ex H H') (h : Rep.at_ K H v x) : Rep.at_ K H' v x := Rep.monoR (ExR.of e) h
instance (priority := low) repDatum {α : Type} [DecidableEq α] [Datum α] : Rep α := ⟨fun K H v x => Dq K H v (Datum.toD x), fun e h => dq_monoR e _ _ h⟩
/-- a dict with text keys -/
structure Dic (α : Type) where
  kvs : List (Str × α)
def DicAt {α : Type} [Rep α] (K : PySem.W.Frag) (H : Hp) (ks : List (Key × V)) (d : List (Str × α)) : Prop := Paired (fun (p : Key × V) (q : Str × α) => p.1 = .inr q.1 ∧ Rep.at_ K H p.2 q.2) ks d
instance {α : Type} [Rep α] : Rep (Dic α) := ⟨fun K H v d => ∃ a ks, v = .ref a ∧ Rd H a (.dK ks) ∧ ks.length ≤ 1000000 ∧ DicAt K H ks d.kvs,
  fun e ⟨a, ks, h1, h2, hz, h3⟩ => ⟨a, ks, h1, e.1 a _ rfl h2, hz, Paired.mapP h3 fun _ _ h => ⟨h.1, Rep.monoR e h.2⟩⟩⟩
/-- any value at all -/
structure Any where
  v : V
instance : Rep Any := ⟨fun _ _ v x => v = x.v, fun _ h => h⟩
section
variable {K : PySem.W.Frag} {H H' : Hp} {v : V}
abbrev AtAll {α : Type} [Rep α] (K : PySem.W.Frag) (H : Hp) (vs : List V) (xs : List α) : Prop := Paired (Rep.at_ K H) vs xs
theorem AtAll.monoR {α : Type} [Rep α] (e : ExR H H') {vs : List V} {xs : List α} (h : AtAll K H vs xs) : AtAll K H' vs xs := Paired.mapP h fun _ _ q => Rep.monoR e q
theorem AtAll.mono {α : Type} [Rep α] (e : Ex H H') {vs : List V} {xs : List α} (h : AtAll K H vs xs) : AtAll K H' vs xs := Paired.mapP h fun _ _ q => Rep.mono e q
section
variable {α β : Type} [DecidableEq α] [Datum α] [DecidableEq β] [Datum β]
theorem dqAll_at : ∀ {vs : List V} {xs : List α}, DqAll K H vs (xs.map Datum.toD) → AtAll K H vs xs
  | _, [], h => by
    have h' : DqAll K H _ [] := h
    cases h'
    exact .nil
  | _, x :: xs, h => by
    have h' : DqAll K H _ (Datum.toD x :: xs.map Datum.toD) := h
    cases h' with
    | cons a b => exact .cons a (dqAll_at b)
theorem at_dqAll : ∀ {vs : List V} {xs : List α}, AtAll K H vs xs → DqAll K H vs (xs.map Datum.toD)
  | _, _, .nil => .nil
  | _, _, .cons a b => .cons a (at_dqAll b)
theorem at_int {i : Int} : Rep.at_ K H v i ↔ v = .int i := ⟨fun h => by cases (show Dq K H v (.int i) from h); rfl, fun h => by rw [h]; exact Dq.int i⟩
theorem at_bl {i : Bool} : Rep.at_ K H v i ↔ v = .bl i := ⟨fun h => by cases (show Dq K H v (.bool i) from h); rfl, fun h => by rw [h]; exact Dq.bl i⟩
theorem at_str {i : Str} : Rep.at_ K H v i ↔ v = .str i := ⟨fun h => by cases (show Dq K H v (.str i) from h); rfl, fun h => by rw [h]; exact Dq.str i⟩
theorem at_non {i : Unit} : Rep.at_ K H v i ↔ v = .non := ⟨fun h => by cases (show Dq K H v .none from h); rfl, fun h => by rw [h]; exact Dq.non⟩
theorem at_list {xs : List α} : Rep.at_ K H v xs ↔ ∃ a vs, v = .ref a ∧ SqL K H a vs ∧ AtAll K H vs xs :=
  ⟨fun h => by cases (show Dq K H v (.list (xs.map Datum.toD)) from h) with
    | lst a b => exact ⟨_, _, rfl, a, dqAll_at b⟩, fun ⟨a, vs, e, h1, h2⟩ => by
    rw [e]
    exact Dq.lst h1 (at_dqAll h2)⟩
theorem at_tup {t : Tup α} : Rep.at_ K H v t ↔ ∃ a vs, v = .ref a ∧ H a = some (.tup vs) ∧ AtAll K H vs t.items :=
  ⟨fun h => by cases (show Dq K H v (.tuple (t.items.map Datum.toD)) from h) with
    | tup a b => exact ⟨_, _, rfl, a, dqAll_at b⟩, fun ⟨a, vs, e, h1, h2⟩ => by
    rw [e]
    exact Dq.tup h1 (at_dqAll h2)⟩
theorem at_pair {p : α × β} : Rep.at_ K H v p ↔ ∃ a v1 v2, v = .ref a ∧ H a = some (.tup [v1, v2]) ∧ Rep.at_ K H v1 p.1 ∧ Rep.at_ K H v2 p.2 :=
  ⟨fun h => by cases (show Dq K H v (.tuple [Datum.toD p.1, Datum.toD p.2]) from h) with
    | tup a b =>
      cases b with
      | cons b1 b2 =>
        cases b2 with
        | cons b2 b3 =>
          cases b3
          exact ⟨_, _, _, rfl, a, b1, b2⟩, fun ⟨a, v1, v2, e, h1, h2, h3⟩ => by
    rw [e]
    exact Dq.tup h1 (.cons h2 (.cons h3 .nil))⟩
end
theorem AtAll.length {α : Type} [Rep α] {vs : List V} {xs : List α} (h : AtAll K H vs xs) : vs.length = xs.length := Paired.length h
theorem AtAll.get {α : Type} [Rep α] : ∀ {vs : List V} {xs : List α} {i : Nat} {x : α}, AtAll K H vs xs → xs[i]? = some x → ∃ v, vs[i]? = some v ∧ Rep.at_ K H v x
  | _, _, _, _, .nil, h => by simp at h
  | _, _, 0, x, .cons (a := v) q _, h => by
    simp at h
    subst h
    exact ⟨v, rfl, q⟩
  | _, _, i + 1, x, .cons _ t, h => by
    obtain ⟨v, h1, h2⟩ := AtAll.get (i := i) t (by simpa using h)
    exact ⟨v, by simpa using h1, h2⟩
theorem AtAll.get' {α : Type} [Rep α] : ∀ {vs : List V} {xs : List α} {i : Nat} {v : V}, AtAll K H vs xs → vs[i]? = some v → ∃ x, xs[i]? = some x ∧ Rep.at_ K H v x
  | _, _, _, _, .nil, h => by simp at h
  | _, _, 0, x, .cons (b := y) q _, h => by
    simp at h
    subst h
    exact ⟨y, rfl, q⟩
  | _, _, i + 1, x, .cons _ t, h => by
    obtain ⟨v, h1, h2⟩ := AtAll.get' (i := i) t (by simpa using h)
    exact ⟨v, by simpa using h1, h2⟩
theorem AtAll.append {α : Type} [Rep α] : ∀ {vs ws : List V} {xs ys : List α}, AtAll K H vs xs → AtAll K H ws ys → AtAll K H (vs ++ ws) (xs ++ ys)
  | _, _, _, _, .nil, k => k
  | _, _, _, _, .cons q t, k => .cons q (AtAll.append t k)
theorem AtAll.snoc {α : Type} [Rep α] {vs : List V} {v : V} {xs : List α} {x : α} (h : AtAll K H vs xs) (k : Rep.at_ K H v x) : AtAll K H (vs ++ [v]) (xs ++ [x]) := h.append (.cons k .nil)
theorem AtAll.take {α : Type} [Rep α] : ∀ {vs : List V} {xs : List α} (n : Nat), AtAll K H vs xs → AtAll K H (vs.take n) (xs.take n)
  | _, _, 0, _ => .nil
  | _, _, _ + 1, .nil => .nil
  | _, _, n + 1, .cons q t => .cons q (AtAll.take n t)
theorem AtAll.drop {α : Type} [Rep α] : ∀ {vs : List V} {xs : List α} (n : Nat), AtAll K H vs xs → AtAll K H (vs.drop n) (xs.drop n)
  | _, _, 0, h => h
  | _, _, _ + 1, .nil => .nil
  | _, _, n + 1, .cons _ t => AtAll.drop n t
theorem AtAll.set {α : Type} [Rep α] {v : V} {x : α} (k : Rep.at_ K H v x) : ∀ {vs : List V} {xs : List α} (n : Nat), AtAll K H vs xs → AtAll K H (vs.set n v) (xs.set n x)
  | _, _, _, .nil => .nil
  | _, _, 0, .cons _ t => .cons k t
  | _, _, n + 1, .cons q t => .cons q (AtAll.set k n t)
theorem AtAll.eraseIdx {α : Type} [Rep α] : ∀ {vs : List V} {xs : List α} (n : Nat), AtAll K H vs xs → AtAll K H (vs.eraseIdx n) (xs.eraseIdx n)
  | _, _, _, .nil => .nil
  | _, _, 0, .cons _ t => t
  | _, _, n + 1, .cons q t => .cons q (AtAll.eraseIdx n t)
theorem atAll_strs : ∀ {vs : List V} {xs : List Str}, AtAll K H vs xs → vs = xs.map V.str
  | _, _, .nil => rfl
  | _, _, .cons q t => by
    rw [List.map_cons, ← atAll_strs t, at_str.mp q]
theorem strs_atAll : ∀ (xs : List Str), AtAll K H (xs.map V.str) xs
  | [] => .nil
  | x :: xs => .cons (at_str.mpr rfl) (strs_atAll xs)
theorem atAll_ints : ∀ {vs : List V} {xs : List Int}, AtAll K H vs xs → vs = xs.map V.int
  | _, _, .nil => rfl
  | _, _, .cons q t => by
    rw [List.map_cons, ← atAll_ints t, at_int.mp q]
theorem ints_atAll : ∀ (xs : List Int), AtAll K H (xs.map V.int) xs
  | [] => .nil
  | x :: xs => .cons (at_int.mpr rfl) (ints_atAll xs)
theorem atAll_bls : ∀ {vs : List V} {xs : List Bool}, AtAll K H vs xs → vs = xs.map V.bl
  | _, _, .nil => rfl
  | _, _, .cons q t => by
    rw [List.map_cons, ← atAll_bls t, at_bl.mp q]
end
/-! ### a reading gives data by allocating alone -/
section
variable (K : PySem.W.Frag)
def Pe {α : Type} [Rep α] (te : TE) (σ : L2.St) (B : Hp) (x : α) : Prop := ∀ H, Ex B H → ∀ Q : VK, (∀ v B2 H2, Up B H B2 H2 → Rep.at_ K B2 v x → Q v H2) → te σ H Q
def Pt (tt : TT) (σ : L2.St) (B : Hp) (b : Bool) : Prop := ∀ H, Ex B H → ∀ Q : Bool → Hp → Prop, (∀ B2 H2, Up B H B2 H2 → Q b H2) → tt σ H Q
def Pa (ta : TA) (σ : L2.St) (B : Hp) (R : List V → Hp → Prop) : Prop := ∀ H, Ex B H → ∀ Q : List V → Hp → Prop, (∀ vs B2 H2, Up B H B2 H2 → R vs B2 → Q vs H2) → ta σ H Q
def Po (to : TO) (σ : L2.St) (B : Hp) (o : Option Int) : Prop := ∀ H, Ex B H → ∀ Q : Option Int → Hp → Prop, (∀ B2 H2, Up B H B2 H2 → Q o H2) → to σ H Q
end
section
variable {K : PySem.W.Frag} {σ : L2.St} {B B' H : Hp} {te ta tb : TE} {tt tu : TT}
variable {α β γ : Type} [Rep α] [Rep β] [Rep γ]
theorem Pe.mono {x : α} (h : Pe K te σ B x) (e : Ex B B') : Pe K te σ B' x := fun H a Q q => h H (e.trans a) Q fun v B2 H2 u hv => by
  -- the new part: what the reading froze, joined with B'
  refine q v (fun a => match B2 a with | some o => some o | none => B' a) H2 ⟨fun c o hc => ?_, fun c o hc => ?_, u.hh, fun c hc => ?_⟩ (Rep.mono (fun c o hc => ?_) hv)
  · show (match B2 c with | some o => some o | none => B' c) = some o
    cases z : B2 c with
    | none => exact hc
    | some o' =>
      rcases u.nw c (by rw [z]; exact fun w => nomatch w) with n | n
      · cases zb : B c with
        | none => exact absurd zb n
        | some ob =>
          have h1 := u.bb c ob zb
          have h2 := e c ob zb
          rw [z] at h1
          rw [hc] at h2
          show some o' = some o
          rw [h1, h2]
      · have := a c o hc
        rw [n] at this
        cases this
  · have hc' : (match B2 c with | some o => some o | none => B' c) = some o := hc
    cases z : B2 c with
    | none =>
      rw [z] at hc'
      exact u.hh c o (a c o hc')
    | some o' =>
      rw [z] at hc'
      rw [← hc']
      exact u.bh c o' z
  · have hc' : (match B2 c with | some o => some o | none => B' c) ≠ none := hc
    cases z : B2 c with
    | none =>
      rw [z] at hc'
      exact .inl hc'
    | some o' =>
      rcases u.nw c (by rw [z]; exact fun w => nomatch w) with n | n
      · refine .inl ?_
        cases zb : B c with
        | none => exact absurd zb n
        | some ob =>
          rw [e c ob zb]
          exact fun w => nomatch w
      · exact .inr n
  · show (match B2 c with | some o => some o | none => B' c) = some o
    rw [hc]
theorem Pt.mono {b : Bool} (h : Pt tt σ B b) (e : Ex B B') : Pt tt σ B' b := fun H a Q q => h H (e.trans a) Q fun B2 H2 u =>
  q B' H2 ⟨Ex.refl _, a.trans u.hh, u.hh, fun _ h => .inl h⟩
theorem Pe.is {x y : α} (h : Pe K te σ B x) (e : x = y) : Pe K te σ B y := e ▸ h
theorem Pt.is {x y : Bool} (h : Pt tt σ B x) (e : x = y) : Pt tt σ B y := e ▸ h
/-! names, constants -/
theorem e_var {i : Nat} {v : V} {x : α} (h : σ[i]? = some (some v)) (hv : Rep.at_ K B v x) : Pe K (tVar i) σ B x := fun H e Q q => ⟨v, h, q v B H (Up.refl e) hv⟩
theorem e_int {i : Int} : Pe K (tC (.int i)) σ B i := fun H e Q q => q _ B H (Up.refl e) (at_int.mpr rfl)
theorem e_str {i : Str} : Pe K (tC (.str i)) σ B i := fun H e Q q => q _ B H (Up.refl e) (at_str.mpr rfl)
theorem e_bl {i : Bool} : Pe K (tC (.bl i)) σ B i := fun H e Q q => q _ B H (Up.refl e) (at_bl.mpr rfl)
theorem e_non : Pe K (tC .non) σ B () := fun H e Q q => q _ B H (Up.refl e) (at_non.mpr rfl)
/-! two readings, one behind the other -/
theorem Pe.both {x : α} {y : β} (ha : Pe K ta σ B x) (hb : Pe K tb σ B y) {H : Hp} (e : Ex B H) {Q : V → V → Hp → Prop} (q : ∀ v w B2 H2, Up B H B2 H2 → Rep.at_ K B2 v x → Rep.at_ K B2 w y → Q v w H2) :
    ta σ H fun v H1 => tb σ H1 fun w H2 => Q v w H2 := ha H e _ fun v B1 H1 u1 h1 => (hb.mono u1.bb) H1 u1.bh _ fun w B2 H2 u2 h2 => q v w B2 H2 (u1.trans u2) (Rep.mono u2.bb h1) h2
/-- an operation on data -/
def RD (K : PySem.W.Frag) (r : R2) (x : α) (y : β) (z : γ) : Prop := ∀ B H v w, Ex B H → Rep.at_ K B v x → Rep.at_ K B w y → ∀ Q : VK, (∀ u B2 H2, Up B H B2 H2 → Rep.at_ K B2 u z → Q u H2) → r v w H Q
theorem e_op {r : R2} {x : α} {y : β} {z : γ} (ha : Pe K ta σ B x) (hb : Pe K tb σ B y) (hr : RD K r x y z) : Pe K (tOp r ta tb) σ B z := fun H e Q q =>
  ha.both hb e fun v w B2 H2 u h1 h2 => hr B2 H2 v w u.bh h1 h2 Q fun z B3 H3 u3 h3 => q z B3 H3 (u.trans u3) h3
/-- an operation whose answer is no object -/
theorem rd_val {r : R2} {x : α} {y : β} {z : γ} (c : V) (hc : ∀ B, Rep.at_ K B c z) (h : ∀ B H v w, Ex B H → Rep.at_ K B v x → Rep.at_ K B w y → ∀ Q : VK, Q c H → r v w H Q) : RD K r x y z := fun B H v w e h1 h2 Q q =>
  h B H v w e h1 h2 Q (q c B H (Up.refl e) (hc B))
def RU (K : PySem.W.Frag) (r : V → Hp → VK → Prop) (x : α) (z : γ) : Prop := ∀ B H v, Ex B H → Rep.at_ K B v x → ∀ Q : VK, (∀ u B2 H2, Up B H B2 H2 → Rep.at_ K B2 u z → Q u H2) → r v H Q
theorem e_un {r : V → Hp → VK → Prop} {x : α} {z : γ} (ha : Pe K ta σ B x) (hr : RU K r x z) : Pe K (tUn r ta) σ B z := fun H e Q q =>
  ha H e _ fun v B2 H2 u h1 => hr B2 H2 v u.bh h1 Q fun z B3 H3 u3 h3 => q z B3 H3 (u.trans u3) h3
/-! tests -/
theorem t_test {b : Bool} (h : Pe K te σ B b) : Pt (tTest te) σ B b := fun H e Q q => h H e _ fun v B2 H2 u hv => ⟨b, at_bl.mp hv, q B2 H2 u⟩
theorem t_B {b : Bool} (h : Pe K te σ B b) : Pt (tB te) σ B b := fun H e Q q => h H e _ fun v B2 H2 u hv => ⟨b, at_bl.mp hv, q B2 H2 u⟩
theorem t_not {b : Bool} (h : Pt tt σ B b) : Pt (tNot tt) σ B (!b) := fun H e Q q => h H e _ fun B2 H2 u => q B2 H2 u
theorem t_yes : Pt tYes σ B true := fun H e Q q => q B H (Up.refl e)
theorem t_and {a b : Bool} (h1 : Pt tt σ B a) (h2 : a = true → Pt tu σ B b) : Pt (tAnd tt tu) σ B (a && b) := fun H e Q q => h1 H e _ fun B2 H2 u => by
  cases a with
  | true => exact (h2 rfl).mono u.bb H2 u.bh _ fun B3 H3 u3 => q B3 H3 (u.trans u3)
  | false => exact q B2 H2 u
theorem t_or {a b : Bool} (h1 : Pt tt σ B a) (h2 : a = false → Pt tu σ B b) : Pt (tOr tt tu) σ B (a || b) := fun H e Q q => h1 H e _ fun B2 H2 u => by
  cases a with
  | true => exact q B2 H2 u
  | false => exact (h2 rfl).mono u.bb H2 u.bh _ fun B3 H3 u3 => q B3 H3 (u.trans u3)
theorem e_andV {a b : Bool} (h1 : Pe K ta σ B a) (h2 : a = true → Pe K tb σ B b) : Pe K (tAndV ta tb) σ B (a && b) := fun H e Q q => h1 H e _ fun v B2 H2 u hv => ⟨a, at_bl.mp hv, by
  cases a with
  | true => exact (h2 rfl).mono u.bb H2 u.bh _ fun v B3 H3 u3 h3 => q v B3 H3 (u.trans u3) h3
  | false => exact q _ B2 H2 u (at_bl.mpr rfl)⟩
theorem e_orV {a b : Bool} (h1 : Pe K ta σ B a) (h2 : a = false → Pe K tb σ B b) : Pe K (tOrV ta tb) σ B (a || b) := fun H e Q q => h1 H e _ fun v B2 H2 u hv => ⟨a, at_bl.mp hv, by
  cases a with
  | true => exact q _ B2 H2 u (at_bl.mpr rfl)
  | false => exact (h2 rfl).mono u.bb H2 u.bh _ fun v B3 H3 u3 h3 => q v B3 H3 (u.trans u3) h3⟩
theorem e_notV {a : Bool} (h1 : Pe K ta σ B a) : Pe K (tNotV ta) σ B (!a) := fun H e Q q => h1 H e _ fun v B2 H2 u hv => ⟨a, at_bl.mp hv, q _ B2 H2 u (at_bl.mpr rfl)⟩
theorem e_if {b : Bool} {x : α} (h : Pt tt σ B b) (h1 : b = true → Pe K ta σ B x) (h2 : b = false → Pe K tb σ B x) : Pe K (tIf tt ta tb) σ B x := fun H e Q q => h H e _ fun B2 H2 u => by
  cases b with
  | true => exact (h1 rfl).mono u.bb H2 u.bh _ fun v B3 H3 u3 h3 => q v B3 H3 (u.trans u3) h3
  | false => exact (h2 rfl).mono u.bb H2 u.bh _ fun v B3 H3 u3 h3 => q v B3 H3 (u.trans u3) h3
/-! arguments -/
def RNil : List V → Hp → Prop := fun vs _ => vs = []
def RCons (K : PySem.W.Frag) (x : α) (R : List V → Hp → Prop) : List V → Hp → Prop := fun vs B => ∃ v r, vs = v :: r ∧ Rep.at_ K B v x ∧ R r B
theorem a_nil : Pa tNil σ B RNil := fun H e Q q => q [] B H (Up.refl e) rfl
theorem a_cons {x : α} {R : List V → Hp → Prop} {tr : TA} (h : Pe K te σ B x) (hr : ∀ B', Ex B B' → Pa tr σ B' R) : Pa (tCons te tr) σ B (RCons K x R) := fun H e Q q =>
  h H e _ fun v B1 H1 u1 h1 => hr B1 u1.bb H1 u1.bh _ fun vs B2 H2 u2 h2 => q _ B2 H2 (u1.trans u2) ⟨v, vs, rfl, Rep.mono u2.bb h1, h2⟩
theorem a_1 {x : α} (h : Pe K te σ B x) : Pa (tCons te tNil) σ B (RCons K x RNil) := a_cons h fun _ _ => a_nil
theorem a_2 {x : α} {y : β} (h : Pe K ta σ B x) (h2 : Pe K tb σ B y) : Pa (tCons ta (tCons tb tNil)) σ B (RCons K x (RCons K y RNil)) := a_cons h fun _ e => a_1 (h2.mono e)
theorem a_3 {tc : TE} {x : α} {y : β} {z : γ} (h : Pe K ta σ B x) (h2 : Pe K tb σ B y) (h3 : Pe K tc σ B z) : Pa (tCons ta (tCons tb (tCons tc tNil))) σ B (RCons K x (RCons K y (RCons K z RNil))) := a_cons h fun _ e => a_2 (h2.mono e) (h3.mono e)
theorem o_none : Po tNoPart σ B none := fun H e Q q => q B H (Up.refl e)
theorem o_some {i : Int} (h : Pe K te σ B i) : Po (tPart te) σ B (some i) := fun H e Q q => h H e _ fun v B2 H2 u hv => ⟨i, at_int.mp hv, q B2 H2 u⟩
end
end Ob
set_option Elab.async false
set_option linter.all false
set_option maxRecDepth 100000
set_option maxHeartbeats 4000000
/-! Ts: sorting tuples of which some may be empty. -/
namespace Ob
open PySem PySem.Calls PyProof.Rows PySem.W PySem.SeqAt
/-- all are tuples -/
def AllTup (ds : List PyData) : Prop := ∀ d, d ∈ ds → ∃ xs, d = .tuple xs
section
variable {prog : Program} {w : World} {A : Around} {E : Value → Shared → Prop} {s : Shared}
theorem call_tup_lt {Q : Value → Shared → Prop} {l b : Addr} {items items2 : Array Value} {e r : Nat → Bool} (hl : s.heap.IsTuple l items) (hb : s.heap.IsTuple b items2)
    (he : ∀ j (h1 : j < items.size) (h2 : j < items2.size), EqAt A.in1 s items[j] items2[j] (e j)) (hr : ∀ j (h1 : j < items.size) (h2 : j < items2.size), e j = false → RcLt A.in1 s items[j] items2[j] (r j))
    (h : Q (.bool (firstLt e r (decide (items.size < items2.size)) (List.range (min items.size items2.size)))) s) : wpAny (model prog w) A (call (.builtin "tuple.__lt__") [.ref l, .ref b]) Q E s := by
  obtain ⟨⟨cls, dd, data, sl⟩, ho, hc, n, hd⟩ := id hl
  obtain ⟨⟨cls2, dd2, data2, sl2⟩, ho2, hc2, n2, hd2⟩ := id hb
  simp only at hc hd hc2 hd2
  subst hc hd hc2 hd2
  exact call_meets F.slot_tuple_lt ⟨_, ho, rfl⟩ F.entry_tuple_lt (F.args_tuple_lt_2 _ _) (tuple_ltAt l b items items2 n n2 dd dd2 sl sl2 e r) ⟨ho, ho2, he, hr, h⟩
theorem oneLt_tup {xs ys : List PyData} {a b : Value} {as bs : List Addr} {Q : Bool → Shared → Prop} (ra : Reads s.heap a (.tuple xs) as) (rb : Reads s.heap b (.tuple ys) bs) (h : alike (.tuple xs) (.tuple ys) = true)
    (hu : A.units + min (PyData.tuple xs).depth (PyData.tuple ys).depth < cLine) (hq : Q (dataLt (.tuple xs) (.tuple ys)) s) : wpAny (model prog w) A (oneLt' true a b) Q E s := by
  have hal : alikeAll xs ys = true := by simpa [alike] using h
  cases ra with
  | @tuple l o vs n _ as₁ h1 h2 h3 h4 =>
    cases rb with
    | @tuple l' o' vs' n' _ bs₁ k1 k2 k3 k4 =>
      have n1 : vs.size = xs.length := by simpa using ReadsAll.length _ _ _ h4
      have n2 : vs'.size = ys.length := by simpa using ReadsAll.length _ _ _ k4
      rw [dataLt_tuple, ← firstLt_toks xs ys hal, ← n1, ← n2] at hq
      rw [oneLt'_eq]
      simp only [if_true]
      refine wpAny_bind (wpAny_cRoomFor (room_here hu) ?_)
      refine wpAny_bind (wpAny_callSpecialIfBound?_slot (T := "tuple") ⟨_, h1, h2⟩ F.slot_tuple_lt (call_tup_lt (e := pairEq xs ys) (r := fun j => dataLt (xs.getD j .none) (ys.getD j .none)) ⟨_, h1, h2, _, h3⟩ ⟨_, k1, k2, _, k3⟩ (fun j j1 j2 => ?_) (fun j j1 j2 hj => ?_) ?_))
      · have := eqAt_alikeAll xs ys A.in1 s vs.toList vs'.toList _ _ h4 k4 hal (room_in hu) j (by simpa using j1) (by simpa using j2)
        simpa using this
      · have := rcLt_alikeAll xs ys A.in1 s vs.toList vs'.toList _ _ h4 k4 hal (room_in hu) j (by simpa using j1) (by simpa using j2) hj
        simpa using this
      · exact wpAny_truthy_bool hq
/-- the firsts of tuples -/
def FirstIs (h : Heap) (v : Value) (f : Option Value) : Prop := ∃ a o xs n, v = .ref a ∧ h.get? a = some o ∧ o.cls = .type "tuple" ∧ o.data = .seq xs n ∧ xs[0]? = f
theorem firsts_run {M : Model} : ∀ (vs : List Value) (fs : List (Option Value)) {Q : List (Option Value) → Shared → Prop}, EachIs (FirstIs s.heap) vs fs → Q fs s → wpAny M A (vs.mapM firstOfTuple') Q E s
  | _, _, _, .nil, h => by rw [List.mapM_nil]; exact wpAny_pure h
  | v :: vs, f :: fs, Q, .cons ⟨a, o, xs, n, e, ho, hc, hd, hf⟩ t, h => by
    subst e
    rw [List.mapM_cons]
    refine wpAny_bind ?_
    rw [kas_first_eq]
    refine wpAny_bind (Looks.here (show Looks M s.heap (typeOf (.ref a)) o.cls from (Looks.ld ho).andThen .now) ?_)
    rw [hc, if_neg (by first | decide | simp)]
    refine wpAny_bind (listItems_at ho hd (wpAny_pure ?_))
    rw [hf]
    exact wpAny_bind (firsts_run vs fs (Q := fun bs s' => wpAny M A (pure (f :: bs)) Q E s') t (wpAny_pure h))
theorem kind_mixed {M : Model} {vs : List Value} {fs : List (Option Value)} {Q : SortKind → Shared → Prop} (t : EachIs (FirstIs s.heap) vs fs) (hno : ¬ ∀ f ∈ fs, f.isSome = true) (hT : ∀ v ∈ vs, Looks M s.heap (typeOf v) (.type "tuple"))
    (h : Q (if (fs[0]?.bind id).isSome then general' else oneType') s) : wpAny M A (keyKind' vs.toArray) Q E s := by
  rw [kat_kind_eq, List.mapM_toArray, map_eq_pure_bind]
  refine wpAny_bind (wpAny_bind (firsts_run vs fs t (wpAny_pure ?_)))
  have hall : ¬ (fs.toArray.all fun x => x.isSome) = true := by
    simp only [List.all_toArray, List.all_eq_true]
    exact hno
  rw [if_neg hall]
  have e0 : fs.toArray[0]? = fs[0]? := by simp
  rw [e0]
  by_cases hg : (fs[0]?.bind id).isSome = true
  · rw [if_pos hg] at h ⊢
    exact wpAny_pure h
  · rw [if_neg hg] at h ⊢
    rw [oneTypeOnly'_eq, List.mapM_toArray, map_eq_pure_bind]
    refine wpAny_bind (wpAny_bind (wpAny_bind (kas_mapM (r := Value.type "tuple") _ (fun v hv Q' hq => (hT v hv).here hq) (wpAny_pure ?_))))
    have hne : vs ≠ [] := fun e => by
      subst e
      cases t
      exact hno fun f hf => by cases hf
    obtain ⟨v0, vr, rfl⟩ := List.exists_cons_of_ne_nil hne
    have h0 : (List.map (fun _ => Value.type "tuple") (v0 :: vr)).toArray[0]? = some (.type "tuple") := by simp
    have hall2 : ((List.map (fun _ => Value.type "tuple") (v0 :: vr)).toArray.all fun x => x == Value.type "tuple") = true := by
      simp only [List.all_toArray, List.all_map, List.all_eq_true]
      intro _ _
      exact beq_self_eq_true _
    rw [h0]
    simp only [hall2, if_true]
    exact wpAny_pure (wpAny_pure h)
theorem firsts_of {h : Heap} : ∀ {vs : List Value} {ds : List PyData}, EachIs (fun v d => ∃ as, Reads h v d as) vs ds → AllTup ds → ∃ fs, EachIs (FirstIs h) vs fs
  | _, _, .nil, _ => ⟨[], .nil⟩
  | _, _, .cons (b := d) ⟨as, r⟩ t, ht => by
    obtain ⟨fs, h2⟩ := firsts_of t fun d hd => ht d (List.mem_cons_of_mem _ hd)
    obtain ⟨xs, rfl⟩ := ht d List.mem_cons_self
    cases r with
    | @tuple a o vs n _ _ ho hc hd hr => exact ⟨vs[0]? :: fs, .cons ⟨a, o, vs, n, rfl, ho, hc, hd, rfl⟩ h2⟩
theorem firsts_all {h : Heap} : ∀ {vs : List Value} {ds : List PyData} {fs : List (Option Value)}, EachIs (fun v d => ∃ as, Reads h v d as) vs ds → AllTup ds → EachIs (FirstIs h) vs fs → (∀ f ∈ fs, f.isSome = true) → ∀ d, d ∈ ds → ∃ x r, d = .tuple (x :: r)
  | _, _, _, .nil, _, _, _ => fun d hd => by cases hd
  | _, _, _, .cons (b := d) ⟨as, r⟩ t, ht, .cons ⟨a, o, xs, n, e, ho, hc, hd, hf⟩ t2, hall => fun d' hd' => by
    rcases List.mem_cons.mp hd' with rfl | hd'
    · obtain ⟨ys, rfl⟩ := ht _ List.mem_cons_self
      cases r with
      | @tuple a' o' vs n' _ _ ho' hc' hd' hr =>
        cases e
        rw [ho] at ho'
        cases ho'
        rw [hd] at hd'
        cases hd'
        cases ys with
        | cons y ys => exact ⟨y, ys, rfl⟩
        | nil =>
          have h0 : xs.toList.length = 0 := by
            have := ReadsAll.length _ _ _ hr
            simpa using this
          have := hall _ List.mem_cons_self
          rw [← hf, ← Array.getElem?_toList, List.eq_nil_of_length_eq_zero h0] at this
          cases this
    · exact firsts_all t (fun d hd => ht d (List.mem_cons_of_mem _ hd)) t2 (fun f hf => hall f (List.mem_cons_of_mem _ hf)) d' hd'
/-- tuples can be sorted, be some of them empty or not -/
theorem sortsAt_tup {vs : List Value} {ds : List PyData} (e : EachIs (fun v d => ∃ as, Reads s.heap v d as) vs ds) (hal : AllAlike ds) (hk : AllTup ds) (hu : ∀ d, d ∈ ds → A.units + d.depth < cLine) : SortsAt prog w A s (dataKind s.heap ds) vs := by
  obtain ⟨fs, hfs⟩ := firsts_of e hk
  by_cases hall : ∀ f ∈ fs, f.isSome = true
  · exact SortsAt.data e hal (.inl (firsts_all e hk hfs hall)) hu
  · have room : ∀ {d d' : PyData}, d ∈ ds → A.units + min d.depth d'.depth < cLine := fun {d d'} hd => Nat.lt_of_le_of_lt (Nat.add_le_add_left (Nat.min_le_left _ _) _) (hu d hd)
    refine ⟨fun v hv => ?_, if (fs[0]?.bind id).isSome then general' else oneType', ?_, fun h2 E Q hq => kind_mixed hfs hall (fun v hv => ?_) hq⟩
    · obtain ⟨d, hd, as, r⟩ := e.left v hv
      exact ⟨_, dataKind_some hal hd r⟩
    · intro E x y a b Q ha hb hq
      obtain ⟨d, as, hd, ra, rfl⟩ := dataKind_inv ha
      obtain ⟨d', as', hd', rb, rfl⟩ := dataKind_inv hb
      obtain ⟨xs, rfl⟩ := hk d hd
      obtain ⟨ys, rfl⟩ := hk d' hd'
      split
      · show wpAny _ _ (oneLt' false x y) _ _ _
        exact oneLt_alike (f := false) (fun z => by cases z) ra rb (hal _ hd _ hd') (by simp) (room hd) hq
      · show wpAny _ _ (oneLt' true x y) _ _ _
        exact oneLt_tup ra rb (hal _ hd _ hd') (room hd) hq
    · obtain ⟨d, hd, as, r⟩ := e.left v hv
      obtain ⟨xs, rfl⟩ := hk d hd
      exact looks_reads r
theorem sortsAt_any {vs : List Value} {ds : List PyData} (e : EachIs (fun v d => ∃ as, Reads s.heap v d as) vs ds) (hal : AllAlike ds) (hk : Sortable ds ∨ AllTup ds) (hu : ∀ d, d ∈ ds → A.units + d.depth < cLine) : SortsAt prog w A s (dataKind s.heap ds) vs :=
  hk.elim (fun hk => SortsAt.data e hal hk hu) (fun hk => sortsAt_tup e hal hk hu)
end
end Ob
set_option Elab.async false
set_option linter.all false
set_option maxRecDepth 100000
set_option maxHeartbeats 4000000
/-! Ob2: operators and built-ins by data. -/
namespace Ob
open PySem L2
open Evl (Ex)
open PySem.W (Datum Tup DatumOrd)
theorem hu_room {k : Nat} {A : Around} (hr : Room k A) : A.units + 150 < cLine := by have := hr.un; omega
section
variable {X : Cx}
/-! == and != -/
def rEqP (K : PySem.W.Frag) : R2 := fun x y H Q => ∃ d e, Dp K H x d ∧ Dp K H y e ∧ d.plain = true ∧ e.plain = true ∧ d.depth ≤ 64 ∧ Q (.bl (PyData.eqv d e)) H
def rNeP (K : PySem.W.Frag) : R2 := fun x y H Q => ∃ d e, Dp K H x d ∧ Dp K H y e ∧ d.plain = true ∧ e.plain = true ∧ d.depth ≤ 64 ∧ Q (.bl (!PyData.eqv d e)) H
theorem op_eqP (hu : X.A.units + 150 < cLine) : OpR X (compareOp .Eq) (rEqP X.K) := by
  intro pins s σ H x y v u Q I rx ry h
  obtain ⟨d, e, hd, he, pd, pe, hz, q⟩ := h
  obtain ⟨as, r1⟩ := Dp.reads I d x v hd rx
  obtain ⟨bs, r2⟩ := Dp.reads I e y u he ry
  exact PySem.SeqAt.eq_plain r1 r2 pd pe (by have := Nat.min_le_left d.depth e.depth; omega) ⟨.bl _, H, I, rfl, q⟩
theorem op_neP (hu : X.A.units + 150 < cLine) : OpR X (compareOp .NotEq) (rNeP X.K) := by
  intro pins s σ H x y v u Q I rx ry h
  obtain ⟨d, e, hd, he, pd, pe, hz, q⟩ := h
  obtain ⟨as, r1⟩ := Dp.reads I d x v hd rx
  obtain ⟨bs, r2⟩ := Dp.reads I e y u he ry
  exact PySem.SeqAt.ne_plain r1 r2 pd pe (by have := Nat.min_le_left d.depth e.depth; omega) ⟨.bl _, H, I, rfl, q⟩
/-! in, not in: a list or tuple of data; a dict's key; a text in a text -/
def ngb (neg b : Bool) : Bool := if neg then !b else b
def rInP (K : PySem.W.Frag) (neg : Bool) : R2 := fun x y H Q => ∃ d ds, Dp K H x d ∧ (Dp K H y (.list ds) ∨ Dp K H y (.tuple ds)) ∧ PyData.plainAll ds = true ∧ d.plain = true ∧ d.depth ≤ 64 ∧ Q (.bl (ngb neg (ds.any fun z => PyData.eqv z d))) H
def rInDc (neg : Bool) : R2 := fun x y H Q => ∃ a o, y = .ref a ∧ DGet H a x o ∧ Q (.bl (ngb neg o.isSome)) H
def rInSt (neg : Bool) : R2 := fun x y H Q => ∃ i j, x = .str i ∧ y = .str j ∧ Q (.bl (ngb neg (!(Builtin.Str.occurrences j i 0 j.length 1).isEmpty))) H
def rInU (K : PySem.W.Frag) (neg : Bool) : R2 := fun x y H Q => rInP K neg x y H Q ∨ (rInDc neg x y H Q ∨ rInSt neg x y H Q)
theorem op_inP (hu : X.A.units + 150 < cLine) : OpR X (compareOp .In) (rInP X.K false) := by
  intro pins s σ H x y v u Q I rx ry h
  obtain ⟨d, ds, hd, he, pa, pd, hz, q⟩ := h
  obtain ⟨as, r1⟩ := Dp.reads I d x v hd rx
  have hm := Nat.min_le_right (PyData.depthAll ds) d.depth
  rcases he with he | he
  · obtain ⟨bs, r2⟩ := Dp.reads I _ y u he ry
    exact PySem.SeqAt.in_list_data r2 r1 pa pd (by omega) ⟨.bl _, H, I, rfl, q⟩
  · obtain ⟨bs, r2⟩ := Dp.reads I _ y u he ry
    exact PySem.SeqAt.in_tuple_data r2 r1 pa pd (by omega) ⟨.bl _, H, I, rfl, q⟩
theorem op_notInP (hu : X.A.units + 150 < cLine) : OpR X (compareOp .NotIn) (rInP X.K true) := by
  intro pins s σ H x y v u Q I rx ry h
  obtain ⟨d, ds, hd, he, pa, pd, hz, q⟩ := h
  obtain ⟨as, r1⟩ := Dp.reads I d x v hd rx
  have hm := Nat.min_le_right (PyData.depthAll ds) d.depth
  rcases he with he | he
  · obtain ⟨bs, r2⟩ := Dp.reads I _ y u he ry
    exact PySem.SeqAt.notIn_list_data r2 r1 pa pd (by omega) ⟨.bl _, H, I, rfl, q⟩
  · obtain ⟨bs, r2⟩ := Dp.reads I _ y u he ry
    exact PySem.SeqAt.notIn_tuple_data r2 r1 pa pd (by omega) ⟨.bl _, H, I, rfl, q⟩
theorem op_inDc (hu : X.A.units + 150 < cLine) : OpR X (compareOp .In) (rInDc false) := by
  intro pins s σ H x y v u Q I rx ry h
  obtain ⟨a, o, rfl, g, q⟩ := h
  obtain rfl : u = Value.ref a := ry
  exact d_in (by omega) I g rx fun s' I' => ⟨.bl _, H, I', rfl, q⟩
theorem op_notInDc (hu : X.A.units + 150 < cLine) : OpR X (compareOp .NotIn) (rInDc true) := by
  intro pins s σ H x y v u Q I rx ry h
  obtain ⟨a, o, rfl, g, q⟩ := h
  obtain rfl : u = Value.ref a := ry
  exact d_notIn (by omega) I g rx fun s' I' => ⟨.bl _, H, I', rfl, q⟩
theorem op_inU (hu : X.A.units + 150 < cLine) : OpR X (compareOp .In) (rInU X.K false) := (op_inP hu).or ((op_inDc hu).or op_in_str)
theorem op_notInU (hu : X.A.units + 150 < cLine) : OpR X (compareOp .NotIn) (rInU X.K true) := (op_notInP hu).or ((op_notInDc hu).or op_notIn_str)
/-! the order -/
def rLtU (K : PySem.W.Frag) : R2 := fun x y H Q => ∃ (α : Type) (_ : DecidableEq α) (_ : DatumOrd α) (a b : α), Dp K H x (Datum.toD a) ∧ Dp K H y (Datum.toD b) ∧ Datum.depth α ≤ 64 ∧ Q (.bl (DatumOrd.lt a b)) H
def rGtU (K : PySem.W.Frag) : R2 := fun x y H Q => ∃ (α : Type) (_ : DecidableEq α) (_ : DatumOrd α) (a b : α), Dp K H x (Datum.toD a) ∧ Dp K H y (Datum.toD b) ∧ Datum.depth α ≤ 64 ∧ Q (.bl (DatumOrd.lt b a)) H
def rLeU (K : PySem.W.Frag) : R2 := fun x y H Q => ∃ (α : Type) (_ : DecidableEq α) (_ : DatumOrd α) (a b : α), Dp K H x (Datum.toD a) ∧ Dp K H y (Datum.toD b) ∧ Datum.depth α ≤ 64 ∧ Q (.bl (!DatumOrd.lt b a)) H
def rGeU (K : PySem.W.Frag) : R2 := fun x y H Q => ∃ (α : Type) (_ : DecidableEq α) (_ : DatumOrd α) (a b : α), Dp K H x (Datum.toD a) ∧ Dp K H y (Datum.toD b) ∧ Datum.depth α ≤ 64 ∧ Q (.bl (!DatumOrd.lt a b)) H
theorem op_ltU (hu : X.A.units + 150 < cLine) : OpR X (compareOp .Lt) (rLtU X.K) := by
  intro pins s σ H x y v u Q I rx ry h
  obtain ⟨α, i1, i2, a, b, ha, hb, hz, q⟩ := h
  exact PySem.W.lt_datum (Dp.reads I _ x v ha rx) (Dp.reads I _ y u hb ry) (by omega) ⟨.bl _, H, I, rfl, q⟩
theorem op_gtU (hu : X.A.units + 150 < cLine) : OpR X (compareOp .Gt) (rGtU X.K) := by
  intro pins s σ H x y v u Q I rx ry h
  obtain ⟨α, i1, i2, a, b, ha, hb, hz, q⟩ := h
  exact PySem.W.gt_datum (Dp.reads I _ x v ha rx) (Dp.reads I _ y u hb ry) (by omega) ⟨.bl _, H, I, rfl, q⟩
theorem op_leU (hu : X.A.units + 150 < cLine) : OpR X (compareOp .LtE) (rLeU X.K) := by
  intro pins s σ H x y v u Q I rx ry h
  obtain ⟨α, i1, i2, a, b, ha, hb, hz, q⟩ := h
  exact PySem.W.le_datum (Dp.reads I _ x v ha rx) (Dp.reads I _ y u hb ry) (by omega) ⟨.bl _, H, I, rfl, q⟩
theorem op_geU (hu : X.A.units + 150 < cLine) : OpR X (compareOp .GtE) (rGeU X.K) := by
  intro pins s σ H x y v u Q I rx ry h
  obtain ⟨α, i1, i2, a, b, ha, hb, hz, q⟩ := h
  exact PySem.W.ge_datum (Dp.reads I _ x v ha rx) (Dp.reads I _ y u hb ry) (by omega) ⟨.bl _, H, I, rfl, q⟩
/-! + -/
def rCatL (K : PySem.W.Frag) : R2 := fun x y H Q => ∃ l b xs zs, x = .ref l ∧ y = .ref b ∧ SqL K H l xs ∧ SqL K H b zs ∧ xs.length + zs.length ≤ sizeLine ∧ ∀ p, H p = none → Q (.ref p) (upd H p (.lst (xs ++ zs)))
theorem op_catL : OpR X (binaryOp .Add) (rCatL X.K) := by
  intro pins s σ H x y v u Q I rx ry h
  obtain ⟨l, b, xs, zs, rfl, rfl, hH, hB, hz, q⟩ := h
  cases rx
  cases ry
  obtain ⟨its, r, hl, _⟩ := I.list hH
  obtain ⟨its2, r2, hl2, _⟩ := I.list hB
  obtain ⟨⟨cls, dd, data, sl⟩, n, ho, hc, _, hd⟩ := hl
  obtain ⟨⟨cls2, dd2, data2, sl2⟩, n2, ho2, hc2, _, hd2⟩ := hl2
  simp only at hc hd hc2 hd2
  subst hc hd hc2 hd2
  have e : its.toArray ++ its2.toArray = (its ++ its2).toArray := by simp
  refine concat_meets ⟨_, ho, rfl⟩ ⟨_, ho2, rfl⟩ noFill_list_add seq_list_add PySem.F.slot_list_add PySem.F.entry_list_add (PySem.F.args_list_add_2 _ _) (PyProof.Rows.list_addW l b its.toArray its2.toArray n n2 dd dd2 sl sl2 (by rw [List.size_toArray, List.size_toArray, ← r.length, ← r2.length]; exact hz)) ⟨ho, ho2, ?_⟩
  rw [e]
  exact ⟨.ref _, _, I.lnew (t' := s.toks) (r.append r2) (by rw [List.length_append]; exact hz), rfl, q _ I.fresh⟩
def rStAdd : R2 := fun x y H Q => ∃ i j, x = .str i ∧ y = .str j ∧ i.length + j.length ≤ sizeLine ∧ Q (.str (i ++ j)) H
def rAddU (K : PySem.W.Frag) : R2 := fun x y H Q => (rI0 fun i j => .int (i + j)) x y H Q ∨ (rStAdd x y H Q ∨ (rCatL K x y H Q ∨ rCatA K x y H Q))
theorem op_addU : OpR X (binaryOp .Add) (rAddU X.K) := op_add.or (OpR.or (r := rStAdd) op_add_str (op_catL.or op_catA))
/-! * -/
def rMulU : R2 := fun x y H Q => (rI CMul fun i j => .int (i * j)) x y H Q ∨ rRep x y H Q
theorem op_mulU : OpR X (binaryOp .Mult) rMulU := op_mul.or op_rep
/-! len -/
def rLenU (K : PySem.W.Frag) : List V → Hp → VK → Prop := fun xs H Q => (∃ x n, xs = [x] ∧ LenV K x H n ∧ Q (.int n) H) ∨ ∃ a kvs, xs = [V.ref a] ∧ H a = some (.dK kvs) ∧ Q (.int kvs.length) H
theorem call_lenU : CallR X (.builtin "len") (rLenU X.K) := CallR.or call_len call_lenD
/-! sorted -/
theorem vals_each : ∀ {xs : List V} {us : List Value}, Vals xs us → ∀ {α : Type} [Rep α] {K : PySem.W.Frag} {H : Hp} {ys : List α}, AtAll K H xs ys → PySem.W.EachIs (fun u y => ∃ x, RelV x u ∧ Rep.at_ K H x y) us ys
  | _, _, .nil, _, _, _, _, _, h => by cases h; exact .nil
  | _, _, .cons r t, _, _, _, _, _, h => by
    cases h with
    | cons a b => exact .cons ⟨_, r, a⟩ (vals_each t b)
theorem each_vals : ∀ {α : Type} [Rep α] {K : PySem.W.Frag} {H : Hp} {us : List Value} {ys : List α}, PySem.W.EachIs (fun u y => ∃ x, RelV x u ∧ Rep.at_ K H x y) us ys → ∃ xs, Vals xs us ∧ AtAll K H xs ys
  | _, _, _, _, _, _, .nil => ⟨[], .nil, .nil⟩
  | _, _, _, _, _, _, .cons ⟨x, r, a⟩ t => by
    obtain ⟨xs, h1, h2⟩ := each_vals t
    exact ⟨x :: xs, .cons r h1, .cons a h2⟩
/-- in ascending order, equal ones as they stood -/
def sortD {α : Type} [DecidableEq α] [DatumOrd α] (xs : List α) : List α := xs.mergeSort fun a b => !DatumOrd.lt b a
theorem dataLe_lt {α : Type} [DecidableEq α] [DatumOrd α] : PySem.W.dataLe (β := α) false Datum.toD = fun a b => !DatumOrd.lt b a := by
  funext a b
  show _ = !DatumOrd.lt b a
  rw [← DatumOrd.lt_eq b a]
  rfl
/-- the collected items of a tuple -/
theorem collect_tup {prog : Program} {w : World} {A : Around} {E : Value → Shared → Prop} {s : Shared} {l : Addr} {vs : List Value} {Q : List Value → Shared → Prop} (hl : s.heap.IsTuple l vs.toArray)
    (h : Q vs { s with heap := (s.heap.push (PyProof.Rows.seqObj "list" #[] 0)).update s.heap.objs.size (Obj.mapSeq (· ++ vs.toArray)) }) (hsz : vs.length ≤ sizeLine) :
    wpAny (model prog w) A (collect (.ref l)) Q E s := by
  obtain ⟨o, ho, hc, n, hd⟩ := id hl
  unfold collect
  refine wpAny_bind (wpAny_runValue (codeAny_builtin PyProof.Rows.entry_proto_collect' ?_))
  show wpAny _ _ (do again (.builtin "list.__iadd__" ⟨[← newList [], .ref l], []⟩)) _ _ s
  refine wpAny_bind (wpAny_newList (wpAny_pure ⟨Code.quiet_builtin _ (by decide +kernel), codeAny_builtin PyProof.Rows.entry_list_iadd' ?_⟩))
  show wpAny _ _ (Builtin.List.listExtendWith (.ref s.heap.objs.size) (.ref l) (.ref s.heap.objs.size)) _ _ { s with heap := s.heap.push (PyProof.Rows.seqObj "list" #[] 0) }
  unfold Builtin.List.listExtendWith
  have ho' : (s.heap.push (PyProof.Rows.seqObj "list" #[] 0)).get? l = some o := Heap.get?_push_of_some _ ho
  refine wpAny_bind (wpAny_typeOf (T := "tuple") ⟨o, ho', hc⟩ ?_)
  have ht : (Value.type "tuple" == Value.type "tuple") = true := by rfl
  rw [if_pos (by rw [ht]; simp)]
  refine wpAny_bind (PyProof.Rows.listItems_at ho' hd ?_)
  refine wpAny_bind (PyProof.Rows.listItems_at (xs := #[]) (n := 0) (Heap.get?_push_size _ rfl) rfl ?_)
  rw [if_neg (by simp)]
  refine wpAny_bind (PyProof.Rows.listUpdate_at (xs := #[]) (n := 0) (Heap.get?_push_size _ rfl) rfl ?_ (Nat.zero_le _) (by show (#[] ++ vs.toArray).size ≤ sizeLine + 1; simp only [Array.size_append, List.size_toArray, List.length_nil]; omega))
  refine wpAny_pure ?_
  show wpAny (model prog w) A (do
      let o ← load s.heap.objs.size
      match o.data with
      | .seq xs _ => pure xs.toList
      | _ => unsupported "internal:collect") Q E { s with heap := (s.heap.push (PyProof.Rows.seqObj "list" #[] 0)).update s.heap.objs.size (Obj.mapSeq (· ++ vs.toArray)) }
  refine wpAny_bind (wpAny_load (PyProof.Rows.get?_update_seq (Heap.get?_push_size _ rfl) _) ?_)
  show wpAny _ _ (pure ((#[] : Array Value) ++ vs.toArray).toList) Q E _
  rw [show ((#[] : Array Value) ++ vs.toArray).toList = vs by simp]
  exact wpAny_pure h
section
open PySem.W PyProof.Rows
theorem sorted_of_sortT {prog : Program} {w : World} {A : Around} {E : Value → Shared → Prop} {s : Shared} {l : Addr} {vs : List Value} {Q : Value → Shared → Prop} (hl : s.heap.IsTuple l vs.toArray) (hL : vs.length ≤ sizeLine)
    (body : ∀ E' : Value → Shared → Prop, wpAny (model prog w) A.in1.in1 (Builtin.«list.sort» ⟨[.ref (s.heap.objs.size + 1)], []⟩) (fun f s' => f = .done (.ret .none) ∧ Q (.ref (s.heap.objs.size + 1)) s') E' { s with heap := copyHeap s.heap vs }) :
    wpAny (model prog w) A (call (.builtin "sorted") [.ref l]) Q E s := by
  refine Calls.call_function_entry kind_sorted plain_sorted entry_sorted (args_sorted1 _) ?_
  unfold Builtin.«sorted»
  refine wpAny_bind (m := checkCount "sorted" 1 1 _) (wpAny_pure ?_)
  refine wpAny_bind (collect_tup hl ?_ hL)
  refine wpAny_bind (wpAny_newList ?_ hL)
  have hsz : ((s.heap.push (seqObj "list" #[] 0)).update s.heap.objs.size (Obj.mapSeq (· ++ vs.toArray))).objs.size = s.heap.objs.size + 1 := by
    rw [Heap.size_update, size_push']
  show wpAny _ _ _ _ _ { s with heap := copyHeap s.heap vs }
  rw [hsz]
  refine wpAny_bind (wpAny_holding (wpAny_call_entry slot_list_sort ⟨_, copyHeap_at s.heap vs, rfl⟩ entry_list_sort ?body (args_list_sort _)))
  case body =>
    show wpAny (model prog w) A.in1.in1 (Builtin.«list.sort» ⟨[.ref (s.heap.objs.size + 1)], []⟩) _ _ _
    refine wpAny_mono (body _) (fun f s' hf => ?_) fun _ _ e => e
    obtain ⟨rfl, hq⟩ := hf
    exact ⟨_, rfl, wpAny_pure ⟨_, rfl, hq⟩⟩
theorem sorted_dataL {prog : Program} {w : World} {A : Around} {E : Value → Shared → Prop} {s : Shared} {β : Type} {vs : List Value} {bs : List β} {enc : β → PyData} {R : Value → β → Prop} {l : Addr} {Q : Value → Shared → Prop}
    (hl : s.heap.IsList l vs.toArray) (e : EachIs R vs bs) (er : EachIs (fun v b => ∃ as, Reads s.heap v (enc b) as) vs bs) (hal : AllAlike (bs.map enc)) (hk : Sortable (bs.map enc) ∨ AllTup (bs.map enc)) (hL : bs.length ≤ sizeLine)
    (hu : ∀ b, b ∈ bs → A.units + 2 + (enc b).depth < cLine) (h : ∀ out, out.length = bs.length → EachIs R out (bs.mergeSort (dataLe false enc)) → Q (.ref (s.heap.objs.size + 1)) { s with heap := sortedAll s.heap vs (List.toArray out) }) :
    wpAny (model prog w) A (call (.builtin "sorted") [.ref l]) Q E s := by
  have er' : EachIs (fun v b => ∃ as, Reads (sortingHeap (copyHeap s.heap vs) (s.heap.objs.size + 1) vs) v (enc b) as) vs bs := er.mono fun _ _ ⟨as, r⟩ => ⟨as, PyProof.Rows.Reads.keeps (fun _ _ => sorting_copy_old) r⟩
  exact sorted_vals hl (sortsAt_any (s := { s with heap := sortingHeap (copyHeap s.heap vs) (s.heap.objs.size + 1) vs }) (each_map (R := fun v d => ∃ as, Reads (sortingHeap (copyHeap s.heap vs) (s.heap.objs.size + 1) vs) v d as) enc er') hal hk (bound_map hu)) (by rw [e.length]; exact hL)
    (h _ (by rw [sortVals_length false rfl]; exact e.length) (sortVals_data false e er' hal))
theorem sorted_dataT {prog : Program} {w : World} {A : Around} {E : Value → Shared → Prop} {s : Shared} {β : Type} {vs : List Value} {bs : List β} {enc : β → PyData} {R : Value → β → Prop} {l : Addr} {Q : Value → Shared → Prop}
    (hl : s.heap.IsTuple l vs.toArray) (e : EachIs R vs bs) (er : EachIs (fun v b => ∃ as, Reads s.heap v (enc b) as) vs bs) (hal : AllAlike (bs.map enc)) (hk : Sortable (bs.map enc) ∨ AllTup (bs.map enc)) (hL : bs.length ≤ sizeLine)
    (hu : ∀ b, b ∈ bs → A.units + 2 + (enc b).depth < cLine) (h : ∀ out, out.length = bs.length → EachIs R out (bs.mergeSort (dataLe false enc)) → Q (.ref (s.heap.objs.size + 1)) { s with heap := sortedAll s.heap vs (List.toArray out) }) :
    wpAny (model prog w) A (call (.builtin "sorted") [.ref l]) Q E s := by
  have er' : EachIs (fun v b => ∃ as, Reads (sortingHeap (copyHeap s.heap vs) (s.heap.objs.size + 1) vs) v (enc b) as) vs bs := er.mono fun _ _ ⟨as, r⟩ => ⟨as, PyProof.Rows.Reads.keeps (fun _ _ => sorting_copy_old) r⟩
  have hL' : vs.length ≤ sizeLine := by rw [e.length]; exact hL
  exact sorted_of_sortT hl hL' fun _ => list_sort_vals (s := { s with heap := copyHeap s.heap vs }) (copyHeap_at s.heap vs) (sortsAt_any (s := { s with heap := sortingHeap (copyHeap s.heap vs) (s.heap.objs.size + 1) vs }) (each_map (R := fun v d => ∃ as, Reads (sortingHeap (copyHeap s.heap vs) (s.heap.objs.size + 1) vs) v d as) enc er') hal hk (bound_map hu)) hL'
    ⟨rfl, h _ (by rw [sortVals_length false rfl]; exact e.length) (sortVals_data false e er' hal)⟩
end
def rSortD (K : PySem.W.Frag) : List V → Hp → VK → Prop := fun vs H Q => ∃ (α : Type) (_ : DecidableEq α) (_ : DatumOrd α) (a : Addr) (xs : List V) (bs : List α) (B : Hp), vs = [V.ref a] ∧ (SqL K H a xs ∨ SqT K H a xs) ∧ Ex B H ∧ AtAll K B xs bs ∧ (PySem.W.Sortable (bs.map (Datum.toD (α := α))) ∨ AllTup (bs.map (Datum.toD (α := α)))) ∧ Datum.depth α ≤ 64 ∧
  ∀ ys p, AtAll K B ys (sortD bs) → H p = none → Q (.ref p) (upd H p (.lst ys))
theorem cr_sortD (hu : X.A.units + 150 < cLine) : CallR X (.builtin "sorted") (rSortD X.K) := by
  intro pins s σ H vs us Q I r h
  obtain ⟨α, i1, i2, a, xs, bs, B, rfl, hs, eB, hb, hk, hz, q⟩ := h
  have key : ∀ its : List Value, Vals xs its → xs.length ≤ sizeLine → (∀ Q', (∀ out : List Value, out.length = bs.length → PySem.W.EachIs (fun u y => ∃ x, RelV x u ∧ Rep.at_ X.K B x y) out (bs.mergeSort (PySem.W.dataLe false Datum.toD)) → Q' (.ref (s.heap.objs.size + 1)) { s with heap := PyProof.Rows.sortedAll s.heap its (List.toArray out) }) →
      wpAny (model X.prog X.w) X.A (call (.builtin "sorted") [.ref a]) Q' X.xe s) → wpAny (model X.prog X.w) X.A (call (.builtin "sorted") [.ref a]) (EP X pins σ Q) X.xe s := by
    intro its rv hsz k
    refine k _ fun out ho ho2 => ?_
    rw [dataLe_lt] at ho2
    obtain ⟨ys, h1, h2⟩ := each_vals ho2
    obtain ⟨ep, he'⟩ := PyProof.Rows.sortedAll_at s.heap its out.toArray
    have hlen : ys.length ≤ sizeLine := by rw [h1.length, ho, ← hb.length]; exact hsz
    exact ⟨.ref _, upd H (s.heap.objs.size + 1) (.lst ys), I.laid (t' := s.toks) (fun _ _ => PyProof.Rows.sortedAll_old) (Nat.le_succ _) ⟨hlen, out, ep, h1, he'⟩, rfl, q ys _ h2 (I.hok.fresh (Nat.le_succ _))⟩
  rw [Vals.ref1 r]
  rcases hs with hs | hs
  · obtain ⟨its, rv, hl, hsz⟩ := I.list hs
    have he := vals_each rv hb
    have hbl : bs.length ≤ sizeLine := by rw [← hb.length]; exact hsz
    exact key its rv hsz fun Q' k => sorted_dataL (enc := Datum.toD) hl.isList he (he.mono fun u y ⟨x, rx, hx⟩ => Dp.reads I _ x u (dp_mono eB _ _ hx) rx) (PySem.W.AllAlike.of fun b b' => DatumOrd.alike b b') hk hbl (fun b _ => by have := Datum.depth_le b; omega) k
  · obtain ⟨its, rv, hl, hsz⟩ := I.tuple hs
    have he := vals_each rv hb
    have hbl : bs.length ≤ sizeLine := by rw [← hb.length]; exact hsz
    exact key its rv hsz fun Q' k => sorted_dataT (enc := Datum.toD) hl he (he.mono fun u y ⟨x, rx, hx⟩ => Dp.reads I _ x u (dp_mono eB _ _ hx) rx) (PySem.W.AllAlike.of fun b b' => DatumOrd.alike b b') hk hbl (fun b _ => by have := Datum.depth_le b; omega) k
end
end Ob
set_option Elab.async false
set_option linter.all false
set_option maxRecDepth 100000
set_option maxHeartbeats 4000000
/-! Ob3: walks over data, comprehensions, loops, statements. -/
namespace Ob
open PySem L2
open Evl (Ex)
open PySem.W (Datum Tup DatumOrd)
/-! ### a list or a tuple walked -/
def iSeq (K : PySem.W.Frag) (tl : TE) : TI := fun σ H R => tl σ H fun x H1 => ∃ a, x = .ref a ∧ (((∃ xs, SqL K H1 a xs) ∧ R (Itl K a) H1) ∨ ((∃ xs, SqT K H1 a xs) ∧ R (Itt K a) H1))
section
variable {X : Cx} {tg : Expr}
theorem pi_seq {l : Expr} {tl : TE} (hl : PE X l tl) : PI X tg l (iSeq X.K tl) := by
  refine ⟨fun pins s σ H R I h => ?_⟩
  refine thn (hl.run pins s σ H _ I h) fun v s1 ⟨x, H1, I1, r1, q1⟩ => ?_
  obtain ⟨a, e, q⟩ := q1
  subst e
  cases r1
  rcases q with ⟨⟨xs, hq⟩, q⟩ | ⟨⟨xs, hq⟩, q⟩
  · obtain ⟨its, rv, p, hz⟩ := I1.list hq
    refine wpAny_pyIter_list p.isList ?_
    refine ⟨s1.heap.objs.size, [s1.heap.objs.size], _, _, H1, rfl, I1.kept (t' := s1.toks) fun b o e => Heap.get?_push_of_some _ e, turn_list a _, ⟨_, Heap.get?_push_size _ rfl, rfl, rfl⟩, fun b hb => ?_, q⟩
    have e : b = s1.heap.objs.size := by simpa using hb
    subst e
    exact I1.fpOk (Nat.le_refl _) (I1.hok.fresh (Nat.le_refl _))
  · obtain ⟨its, rv, p, hz⟩ := I1.tuple hq
    refine wpAny_pyIter_tuple (show s1.heap.IsTuple a its.toArray from p) ?_
    refine ⟨s1.heap.objs.size, [s1.heap.objs.size], _, _, H1, rfl, I1.kept (t' := s1.toks) fun b o e => Heap.get?_push_of_some _ e, turn_tuple a _, ⟨_, Heap.get?_push_size _ rfl, rfl, rfl⟩, fun b hb => ?_, q⟩
    have e : b = s1.heap.objs.size := by simpa using hb
    subst e
    exact I1.fpOk (Nat.le_refl _) (I1.hok.fresh (Nat.le_refl _))
end
/-! ### walks over data -/
section
variable (K : PySem.W.Frag) {α : Type} [Rep α]
/-- wi walks the data xs; what it gives may be a new object -/
def ItD (wi : TI) (σ : L2.St) (B : Hp) (xs : List α) : Prop := ∀ H, Ex B H → ∀ R : It → Hp → Prop,
  (∀ J B1 H1 G Y, Up B H B1 H1 → Walk J xs.length G Y → (∀ H', Ex B1 H' → G H') →
    (∀ i x Hx H', i < xs.length → Ex B1 Hx → Y i Hx x H' → ∃ d, xs[i]? = some d ∧ ∀ B', Ex B1 B' → Ex B' Hx → ∃ B2, Up B' Hx B2 H' ∧ Rep.at_ K B2 x d) → R J H1) → wi σ H R
end
section
variable {K : PySem.W.Frag} {σ : L2.St} {B B' H : Hp} {te ta tb : TE} {tt tu : TT}
variable {α β γ : Type} [DecidableEq α] [Datum α] [DecidableEq β] [Datum β]
theorem it_seqL {xs : List α} (h : Pe K te σ B xs) : ItD K (iSeq K te) σ B xs := fun H e R q => h H e _ fun v B1 H1 u hv => by
  obtain ⟨a, vs, rfl, hs, hx⟩ := at_list.mp hv
  refine ⟨a, rfl, .inl ⟨⟨vs, Evl.ex_l u.bh hs⟩, ?_⟩⟩
  refine q (Itl K a) B1 H1 (fun H => SqL K H a vs) (YAt vs) u ?_ (fun H' e' => Evl.ex_l e' hs) fun i x Hx H' hi ex y => ?_
  · rw [← hx.length]
    exact walk_list
  · obtain ⟨y1, y2⟩ := y
    obtain ⟨d, hd, hxd⟩ := AtAll.get' hx y2
    refine ⟨d, hd, fun B' b1 b2 => ⟨B', ?_, Rep.mono b1 hxd⟩⟩
    rw [y1]
    exact Up.refl b2
theorem it_seqT {xs : List α} (h : Pe K te σ B (Tup.mk xs)) : ItD K (iSeq K te) σ B xs := fun H e R q => h H e _ fun v B1 H1 u hv => by
  obtain ⟨a, vs, rfl, hs, hx⟩ := at_tup.mp hv
  refine ⟨a, rfl, .inr ⟨⟨vs, ex_tx u.bh hs⟩, ?_⟩⟩
  refine q (Itt K a) B1 H1 (fun H => SqT K H a vs) (YAt vs) u ?_ (fun H' e' => ex_tx e' hs) fun i x Hx H' hi ex y => ?_
  · have e : xs.length = vs.length := hx.length.symm
    rw [e]
    exact walk_tup
  · obtain ⟨y1, y2⟩ := y
    obtain ⟨d, hd, hxd⟩ := AtAll.get' hx y2
    refine ⟨d, hd, fun B' b1 b2 => ⟨B', ?_, Rep.mono b1 hxd⟩⟩
    rw [y1]
    exact Up.refl b2
/-- a new pair is given -/
theorem pair_new {Hx H' : Hp} {T : Addr} {x y : V} {a : α} {b : β} {B1 : Hp} (hT : Hx T = none) (eH : H' = upd Hx T (.tup [x, y])) (hx : Rep.at_ K B1 x a) (hy : Rep.at_ K B1 y b) :
    ∀ B', Ex B1 B' → Ex B' Hx → ∃ B2, Up B' Hx B2 H' ∧ Rep.at_ K B2 (.ref T) (a, b) := fun B' b1 b2 => by
  subst eH
  have u := Up.new (o := .tup [x, y]) b2 hT
  exact ⟨_, u, at_pair.mpr ⟨T, x, y, rfl, upd_same, Rep.mono (b1.trans u.bb) hx, Rep.mono (b1.trans u.bb) hy⟩⟩
/-- (0, x), (1, y), .. -/
def enumI (xs : List α) : List (Int × α) := xs.zipIdx.map fun p => ((p.2 : Int), p.1)
theorem enumI_len (xs : List α) : (enumI xs).length = xs.length := by simp [enumI]
theorem enumI_get {xs : List α} {i : Nat} {x : α} (h : xs[i]? = some x) : (enumI xs)[i]? = some ((i : Int), x) := by
  simp [enumI, List.getElem?_zipIdx, h]
theorem it_enumL {xs : List α} (h : Pe K te σ B xs) : ItD K (iEnum K (tCons te tNil)) σ B (enumI xs) := fun H e R q => h H e _ fun v B1 H1 u hv => by
  obtain ⟨a, vs, rfl, hs, hx⟩ := at_list.mp hv
  refine ⟨a, vs, rfl, Evl.ex_l u.bh hs, ?_⟩
  refine q (Ite K a) B1 H1 (fun H => SqL K H a vs) (YPair (fun i => some (.int (i : Nat))) (fun i => vs[i]?)) u ?_ (fun H' e' => Evl.ex_l e' hs) fun i x Hx H' hi ex y => ?_
  · rw [enumI_len, ← hx.length]
    exact walk_enum
  · obtain ⟨T, x1, y1, rfl, hT, eH, e1, e2⟩ := y
    obtain ⟨d, hd, hxd⟩ := AtAll.get' hx e2
    cases Option.some.inj e1
    exact ⟨_, enumI_get hd, pair_new hT eH (at_int.mpr rfl) hxd⟩
theorem walk_zipT {K : PySem.W.Frag} {a b : Addr} {xs ys : List V} {n : Nat} (hn : n = min xs.length ys.length) : Walk (RZ.ItzT K a b) n (fun H => SqT K H a xs ∧ SqT K H b ys) (YPair (fun i => xs[i]?) (fun i => ys[i]?)) := by
  subst hn
  refine ⟨fun i _ hi q => ?_, fun _ q => ⟨xs, ys, q.1, q.2, by omega⟩, fun i H v H' _ q y => ?_⟩
  · have h1 : i < xs.length := by omega
    have h2 : i < ys.length := by omega
    exact ⟨xs, ys, xs[i], ys[i], q.1, q.2, by simp [h1], by simp [h2]⟩
  · obtain ⟨T, x, z, h1, h2, h3, h4, h5⟩ := y
    exact ⟨T, x, z, h1, h2, h3, h4 xs q.1, h5 ys q.2⟩
def rangeI (lo : Int) (n : Nat) : List Int := (List.range n).map fun (i : Nat) => lo + (i : Int)
theorem it_rng1 {n : Int} (h : Pe K te σ B n) (hn : n < 2 ^ 62) (hn0 : -(2 ^ 62) ≤ n) : ItD K (iRng1 (tCons te tNil)) σ B (rangeI 0 n.toNat) := fun H e R q => h H e _ fun v B1 H1 u hv => by
  cases at_int.mp hv
  refine ⟨n, rfl, hn0, hn, ?_⟩
  refine q (Itr 0 n.toNat) B1 H1 (fun _ => True) (YFn fun i => .int (0 + i)) u ?_ (fun _ _ => trivial) fun i x Hx H' hi ex y => ?_
  · have e : (rangeI 0 n.toNat).length = n.toNat := by simp [rangeI]
    rw [e]
    exact walk_range
  · obtain ⟨y1, y2⟩ := y
    have hi' : i < n.toNat := by simpa [rangeI] using hi
    refine ⟨0 + (i : Int), by simp [rangeI, hi'], fun B' b1 b2 => ⟨B', ?_, by rw [y2]; exact at_int.mpr rfl⟩⟩
    rw [y1]
    exact Up.refl b2
theorem it_rng2 {lo n : Int} (h0 : Pe K ta σ B lo) (h : Pe K tb σ B n) (hn : -(2 ^ 62) ≤ lo ∧ lo < 2 ^ 62 ∧ -(2 ^ 62) ≤ n ∧ n < 2 ^ 62) : ItD K (iRng2 (tCons ta (tCons tb tNil))) σ B (rangeI lo (n - lo).toNat) := fun H e R q => h0.both h e fun v w B1 H1 u hv hw => by
  cases at_int.mp hv
  cases at_int.mp hw
  refine ⟨lo, n, rfl, hn, ?_⟩
  refine q (Itr lo (n - lo).toNat) B1 H1 (fun _ => True) (YFn fun i => .int (lo + i)) u ?_ (fun _ _ => trivial) fun i x Hx H' hi ex y => ?_
  · have e : (rangeI lo (n - lo).toNat).length = (n - lo).toNat := by simp [rangeI]
    rw [e]
    exact walk_range
  · obtain ⟨y1, y2⟩ := y
    have hi' : i < (n - lo).toNat := by simpa [rangeI] using hi
    refine ⟨lo + (i : Int), by simp [rangeI, hi'], fun B' b1 b2 => ⟨B', ?_, by rw [y2]; exact at_int.mpr rfl⟩⟩
    rw [y1]
    exact Up.refl b2
/-! ### one turn of a comprehension: the slots behind its target, its test, its item -/
def TurnD (K : PySem.W.Frag) {β : Type} [Rep β] (g : TG) (tt : TT) (te : TE) (vs : List Nat) (σ : L2.St) (B : Hp) (v : V) (b : Bool) (r : β) : Prop :=
  ∃ σ2, (∀ H (Q : L2.St → Hp → Prop), Ex B H → Q σ2 H → g v (wipe σ vs) H Q) ∧ wipe σ2 vs = wipe σ vs ∧ Pt tt σ2 B b ∧ (b = true → Pe K te σ2 B r)
theorem mem_of_get {xs : List γ} {i : Nat} {x : γ} (h : xs[i]? = some x) : x ∈ xs := List.mem_of_getElem? h
theorem take_snoc {xs : List γ} {i : Nat} {x : γ} (h : xs[i]? = some x) : xs.take (i + 1) = xs.take i ++ [x] := by
  rw [List.take_add_one, h]
  rfl
theorem e_lc [Rep γ] {wi : TI} {g : TG} {vs : List Nat} {xs : List γ} (f : γ → Bool) (y : γ → β) (h : ItD K wi σ B xs) (hz : xs.length ≤ 1000000)
    (ht : ∀ x ∈ xs, ∀ v B1, Ex B B1 → Rep.at_ K B1 v x → TurnD K g tt te vs σ B1 v (f x) (y x)) : Pe K (tLc wi g tt te vs) σ B ((xs.filter f).map y) := fun H e Q q =>
  h H e _ fun J B1 H1 G Y up W hG hY D hD => by
    have hDH : H D = none := Evl.fresh_back up.hh hD
    have hDB : B1 D = none := Evl.fresh_back up.bh hD
    refine lc_it W (fun i H' => ∃ Bi ws, Ex B1 Bi ∧ (∀ a, Bi a ≠ none → B1 a ≠ none ∨ H1 a = none) ∧ Bi D = none ∧ Ex Bi H' ∧ Ex H1 H' ∧ H' D = some (.lst ws) ∧ AtAll K Bi ws (((xs.take i).filter f).map y))
      ⟨B1, [], Ex.refl _, fun _ h => .inl h, hDB, ex_upd up.bh hDB, Ex.new hD, upd_same, .nil⟩ (fun i H' _ p => ?_) (fun i x Hx H' hi p hy => ?_) (fun H' p => ?_)
    · obtain ⟨Bi, ws, b1, _, _, b2, _⟩ := p
      exact hG H' (b1.trans b2)
    · obtain ⟨Bi, ws, b1, nw, bD, b2, hh, eD, hA⟩ := p
      obtain ⟨d, hd, hB⟩ := hY i x Hx H' hi (b1.trans b2) hy
      obtain ⟨B2, u2, hx⟩ := hB Bi b1 b2
      obtain ⟨o1, o2⟩ := u2.out bD eD
      obtain ⟨σ2, hg, hw, htt, hte⟩ := ht d (mem_of_get hd) x B2 ((up.bb.trans b1).trans u2.bb) hx
      refine hg H' _ u2.bh ⟨hw, htt H' u2.bh _ fun B3 H3 u3 => ?_⟩
      obtain ⟨o3, o4⟩ := u3.out o1 o2
      have nw3 : ∀ a, B3 a ≠ none → B1 a ≠ none ∨ H1 a = none := fun a ha => by
        rcases (u2.trans u3).nw a ha with z | z
        · exact nw a z
        · exact .inr (Evl.fresh_back hh z)
      cases hf : f d with
      | true =>
        rw [hf] at hte
        refine ((hte rfl).mono u3.bb) H3 u3.bh _ fun w B4 H4 u4 hw4 => ⟨ws, (u4.out o3 o4).2, ?_, B4, ws ++ [w], ?_, ?_, (u4.out o3 o4).1, ex_upd u4.bh (u4.out o3 o4).1, ?_, upd_same, ?_⟩
        · have := hA.length
          rw [List.length_map] at this
          have h2 := List.length_filter_le f (xs.take i)
          have h3 := List.length_take_le i xs
          have : (sizeLine : Nat) = 16777216 := sizeLine_eq
          omega
        · exact ((b1.trans u2.bb).trans u3.bb).trans u4.bb
        · intro a ha
          rcases ((u2.trans u3).trans u4).nw a ha with z | z
          · exact nw a z
          · exact .inr (Evl.fresh_back hh z)
        · exact Ex.mut (((hh.trans u2.hh).trans u3.hh).trans u4.hh) hD
        · rw [take_snoc hd, List.filter_append, List.map_append, List.filter_cons, if_pos hf]
          exact AtAll.snoc (hA.mono ((u2.bb.trans u3.bb).trans u4.bb)) hw4
      | false =>
        refine ⟨B3, ws, (b1.trans u2.bb).trans u3.bb, nw3, o3, u3.bh, (hh.trans u2.hh).trans u3.hh, o4, ?_⟩
        rw [take_snoc hd, List.filter_append, List.map_append, List.filter_cons, if_neg (by rw [hf]; decide)]
        show AtAll K B3 ws (_ ++ [])
        rw [List.append_nil]
        exact hA.mono (u2.bb.trans u3.bb)
    · obtain ⟨Bi, ws, b1, nw, bD, b2, hh, eD, hA⟩ := p
      rw [List.take_length] at hA
      refine q (.ref D) (upd Bi D (.lst ws)) H' ⟨(up.bb.trans b1).trans (Ex.new bD), ex_in b2 eD, up.hh.trans hh, fun a ha => ?_⟩ (at_list.mpr ⟨D, ws, rfl, Evl.sq_of upd_same, hA.mono (Ex.new bD)⟩)
      by_cases hDa : a = D
      · exact .inr (hDa ▸ hDH)
      · rw [upd_ne hDa] at ha
        rcases nw a ha with z | z
        · exact up.nw a z
        · exact .inr (Evl.fresh_back up.hh z)
/-- the target a name -/
theorem turn_name [Rep γ] {σ2 : L2.St} {vs : List Nat} {v : V} {b : Bool} {r : γ} {j : Nat} (e : (wipe σ vs).set j (some v) = σ2) (hw : wipe σ2 vs = wipe σ vs) (ht : Pt tt σ2 B b) (he : b = true → Pe K te σ2 B r) : TurnD K (gName j) tt te vs σ B v b r :=
  ⟨σ2, fun H Q _ q => by rw [← e] at q; exact q, hw, ht, he⟩
end
end Ob
set_option Elab.async false
set_option linter.all false
set_option maxRecDepth 100000
set_option maxHeartbeats 4000000
/-! Ob4: expressions by type; statements; loops. -/
namespace Ob
open PySem L2
open Evl (Ex)
open PySem.W (Datum Tup DatumOrd)
section
variable {K : PySem.W.Frag} {σ : L2.St} {B B' H : Hp} {te ta tb : TE} {tt tu : TT}
variable {α β γ : Type} [DecidableEq α] [Datum α] [DecidableEq β] [Datum β]
/-! comparisons -/
theorem e_eq {x y : α} (ha : Pe K ta σ B x) (hb : Pe K tb σ B y) (hz : Datum.depth α ≤ 64 := by decide) : Pe K (tOp (rEqP K) ta tb) σ B (decide (x = y)) :=
  e_op ha hb (rd_val (.bl (decide (x = y))) (fun _ => at_bl.mpr rfl) fun B H v w e h1 h2 Q q => ⟨_, _, dp_mono e _ _ h1, dp_mono e _ _ h2, Datum.plain x, Datum.plain y, Nat.le_trans (Datum.depth_le x) hz, by rw [Datum.eqv]; exact q⟩)
theorem e_ne {x y : α} (ha : Pe K ta σ B x) (hb : Pe K tb σ B y) (hz : Datum.depth α ≤ 64 := by decide) : Pe K (tOp (rNeP K) ta tb) σ B (!decide (x = y)) :=
  e_op ha hb (rd_val (.bl (!decide (x = y))) (fun _ => at_bl.mpr rfl) fun B H v w e h1 h2 Q q => ⟨_, _, dp_mono e _ _ h1, dp_mono e _ _ h2, Datum.plain x, Datum.plain y, Nat.le_trans (Datum.depth_le x) hz, by rw [Datum.eqv]; exact q⟩)
theorem e_inL {x : α} {ys : List α} (ha : Pe K ta σ B x) (hb : Pe K tb σ B ys) (neg : Bool) (hz : Datum.depth α ≤ 64 := by decide) : Pe K (tOp (rInU K neg) ta tb) σ B (ngb neg (decide (x ∈ ys))) :=
  e_op ha hb (rd_val (.bl _) (fun _ => at_bl.mpr rfl) fun B H v w e h1 h2 Q q => .inl ⟨_, _, dp_mono e _ _ h1, .inl (dp_mono e _ _ h2), PySem.W.plainAll_map ys, Datum.plain x, Nat.le_trans (Datum.depth_le x) hz, by rw [PySem.W.any_datum]; exact q⟩)
theorem e_inT {x : α} {ys : List α} (ha : Pe K ta σ B x) (hb : Pe K tb σ B (Tup.mk ys)) (neg : Bool) (hz : Datum.depth α ≤ 64 := by decide) : Pe K (tOp (rInU K neg) ta tb) σ B (ngb neg (decide (x ∈ ys))) :=
  e_op ha hb (rd_val (.bl _) (fun _ => at_bl.mpr rfl) fun B H v w e h1 h2 Q q => .inl ⟨_, _, dp_mono e _ _ h1, .inr (dp_mono e _ _ h2), PySem.W.plainAll_map ys, Datum.plain x, Nat.le_trans (Datum.depth_le x) hz, by rw [PySem.W.any_datum]; exact q⟩)
theorem e_lt {α : Type} [DecidableEq α] [DatumOrd α] {x y : α} (ha : Pe K ta σ B x) (hb : Pe K tb σ B y) (hz : Datum.depth α ≤ 64 := by decide) : Pe K (tOp (rLtU K) ta tb) σ B (DatumOrd.lt x y) :=
  e_op ha hb (rd_val (.bl _) (fun _ => at_bl.mpr rfl) fun B H v w e h1 h2 Q q => ⟨α, inferInstance, inferInstance, x, y, dp_mono e _ _ h1, dp_mono e _ _ h2, hz, q⟩)
theorem e_gt {α : Type} [DecidableEq α] [DatumOrd α] {x y : α} (ha : Pe K ta σ B x) (hb : Pe K tb σ B y) (hz : Datum.depth α ≤ 64 := by decide) : Pe K (tOp (rGtU K) ta tb) σ B (DatumOrd.lt y x) :=
  e_op ha hb (rd_val (.bl _) (fun _ => at_bl.mpr rfl) fun B H v w e h1 h2 Q q => ⟨α, inferInstance, inferInstance, x, y, dp_mono e _ _ h1, dp_mono e _ _ h2, hz, q⟩)
theorem e_le {α : Type} [DecidableEq α] [DatumOrd α] {x y : α} (ha : Pe K ta σ B x) (hb : Pe K tb σ B y) (hz : Datum.depth α ≤ 64 := by decide) : Pe K (tOp (rLeU K) ta tb) σ B (!DatumOrd.lt y x) :=
  e_op ha hb (rd_val (.bl _) (fun _ => at_bl.mpr rfl) fun B H v w e h1 h2 Q q => ⟨α, inferInstance, inferInstance, x, y, dp_mono e _ _ h1, dp_mono e _ _ h2, hz, q⟩)
theorem e_ge {α : Type} [DecidableEq α] [DatumOrd α] {x y : α} (ha : Pe K ta σ B x) (hb : Pe K tb σ B y) (hz : Datum.depth α ≤ 64 := by decide) : Pe K (tOp (rGeU K) ta tb) σ B (!DatumOrd.lt x y) :=
  e_op ha hb (rd_val (.bl _) (fun _ => at_bl.mpr rfl) fun B H v w e h1 h2 Q q => ⟨α, inferInstance, inferInstance, x, y, dp_mono e _ _ h1, dp_mono e _ _ h2, hz, q⟩)
/-! numbers -/
theorem e_addI {i j : Int} (ha : Pe K ta σ B i) (hb : Pe K tb σ B j) : Pe K (tOp (rAddU K) ta tb) σ B (i + j) :=
  e_op ha hb (rd_val (.int (i + j)) (fun _ => at_int.mpr rfl) fun B H v w e h1 h2 Q q => .inl ⟨i, j, at_int.mp h1, at_int.mp h2, q⟩)
theorem e_subI {i j : Int} (ha : Pe K ta σ B i) (hb : Pe K tb σ B j) : Pe K (tOp (rI0 fun i j => .int (i - j)) ta tb) σ B (i - j) :=
  e_op ha hb (rd_val (.int (i - j)) (fun _ => at_int.mpr rfl) fun B H v w e h1 h2 Q q => ⟨i, j, at_int.mp h1, at_int.mp h2, q⟩)
theorem e_mulI {i j : Int} (ha : Pe K ta σ B i) (hb : Pe K tb σ B j) (hc : CMul i j) : Pe K (tOp (rMulU) ta tb) σ B (i * j) :=
  e_op ha hb (rd_val (.int (i * j)) (fun _ => at_int.mpr rfl) fun B H v w e h1 h2 Q q => .inl ⟨i, j, at_int.mp h1, at_int.mp h2, hc, q⟩)
theorem e_modI {i j : Int} (ha : Pe K ta σ B i) (hb : Pe K tb σ B j) (hc : 0 < j) : Pe K (tOp (rI (fun _ j => 0 < j) fun i j => .int (i % j)) ta tb) σ B (i % j) :=
  e_op ha hb (rd_val (.int (i % j)) (fun _ => at_int.mpr rfl) fun B H v w e h1 h2 Q q => ⟨i, j, at_int.mp h1, at_int.mp h2, hc, q⟩)
theorem e_divI {i j : Int} (ha : Pe K ta σ B i) (hb : Pe K tb σ B j) (hc : CDiv i j) : Pe K (tOp (rI CDiv fun i j => .int (i / j)) ta tb) σ B (i / j) :=
  e_op ha hb (rd_val (.int (i / j)) (fun _ => at_int.mpr rfl) fun B H v w e h1 h2 Q q => ⟨i, j, at_int.mp h1, at_int.mp h2, hc, q⟩)
theorem e_powI {i j : Int} (ha : Pe K ta σ B i) (hb : Pe K tb σ B j) (hc : CPow i j) : Pe K (tOp (rI CPow fun i j => .int (i ^ j.toNat)) ta tb) σ B (i ^ j.toNat) :=
  e_op ha hb (rd_val (.int (i ^ j.toNat)) (fun _ => at_int.mpr rfl) fun B H v w e h1 h2 Q q => ⟨i, j, at_int.mp h1, at_int.mp h2, hc, q⟩)
theorem e_negI {i : Int} (ha : Pe K ta σ B i) : Pe K (tUn (rU fun i => .int (-i)) ta) σ B (-i) :=
  e_un ha fun B H v e h Q q => ⟨i, at_int.mp h, q _ B H (Up.refl e) (at_int.mpr rfl)⟩
/-! lists and tuples made -/
theorem e_addL {xs ys : List α} (ha : Pe K ta σ B xs) (hb : Pe K tb σ B ys) (hz : xs.length + ys.length ≤ 1000000) : Pe K (tOp (rAddU K) ta tb) σ B (xs ++ ys) :=
  e_op ha hb fun B H v w e h1 h2 Q q => by
    obtain ⟨a, vs, rfl, hs, hx⟩ := at_list.mp h1
    obtain ⟨b, ws, rfl, hs2, hy⟩ := at_list.mp h2
    refine .inr (.inr (.inl ⟨a, b, vs, ws, rfl, rfl, Evl.ex_l e hs, Evl.ex_l e hs2, ?_, fun p hp => ?_⟩))
    · rw [hx.length, hy.length]
      exact Nat.le_trans hz (by rw [sizeLine_eq]; decide)
    · have u := Up.new (o := .lst (vs ++ ws)) e hp
      exact q _ _ _ u (at_list.mpr ⟨p, _, rfl, Evl.sq_of upd_same, (hx.append hy).mono u.bb⟩)
theorem e_lst0 : Pe K (tLst tNil) σ B ([] : List α) := fun H e Q q => ⟨Nat.zero_le _, fun p hp => q _ _ _ (Up.new e hp) (at_list.mpr ⟨p, [], rfl, Evl.sq_of upd_same, .nil⟩)⟩
theorem e_lst1 {x : α} (h : Pe K te σ B x) : Pe K (tLst (tCons te tNil)) σ B [x] := fun H e Q q => h H e _ fun v B1 H1 u hv =>
  ⟨by show 1 ≤ sizeLine; rw [sizeLine_eq]; decide, fun p hp => q _ _ _ (u.then hp) (at_list.mpr ⟨p, [v], rfl, Evl.sq_of upd_same, .cons (Rep.mono (Up.new (o := .lst [v]) u.bh hp).bb hv) .nil⟩)⟩
theorem e_lst2 {x y : α} (h : Pe K ta σ B x) (h2 : Pe K tb σ B y) : Pe K (tLst (tCons ta (tCons tb tNil))) σ B [x, y] := fun H e Q q => h.both h2 e fun v w B1 H1 u hv hw =>
  ⟨by show 2 ≤ sizeLine; rw [sizeLine_eq]; decide, fun p hp => q _ _ _ (u.then hp) (at_list.mpr ⟨p, [v, w], rfl, Evl.sq_of upd_same, .cons (Rep.mono (Up.new (o := .lst [v, w]) u.bh hp).bb hv) (.cons (Rep.mono (Up.new (o := .lst [v, w]) u.bh hp).bb hw) .nil)⟩)⟩
theorem e_tup0 : Pe K (tTup tNil) σ B (Tup.mk ([] : List α)) := fun H e Q q => ⟨Nat.zero_le _, fun p hp => q _ _ _ (Up.new e hp) (at_tup.mpr ⟨p, [], rfl, upd_same, .nil⟩)⟩
theorem e_pair {x : α} {y : β} (h : Pe K ta σ B x) (h2 : Pe K tb σ B y) : Pe K (tTup (tCons ta (tCons tb tNil))) σ B (x, y) := fun H e Q q => h.both h2 e fun v w B1 H1 u hv hw =>
  ⟨by show 2 ≤ sizeLine; rw [sizeLine_eq]; decide, fun p hp => q _ _ _ (u.then hp) (at_pair.mpr ⟨p, v, w, rfl, upd_same, Rep.mono (Up.new (o := .tup [v, w]) u.bh hp).bb hv, Rep.mono (Up.new (o := .tup [v, w]) u.bh hp).bb hw⟩)⟩
/-! calls of built-ins -/
theorem e_lenL {xs : List α} (h : Pe K te σ B xs) : Pe K (tCB (rLenU K) (tCons te tNil)) σ B (xs.length : Int) := fun H e Q q => h H e _ fun v B1 H1 u hv => by
  obtain ⟨a, vs, rfl, hs, hx⟩ := at_list.mp hv
  exact .inl ⟨.ref a, xs.length, rfl, .inl ⟨vs, Evl.ex_l u.bh hs, hx.length.symm⟩, q _ B1 H1 u (at_int.mpr rfl)⟩
theorem e_all {bs : List Bool} (h : Pe K te σ B bs) : Pe K (tCB (rAll K) (tCons te tNil)) σ B (bs.all id) := fun H e Q q => h H e _ fun v B1 H1 u hv => by
  obtain ⟨a, vs, rfl, hs, hx⟩ := at_list.mp hv
  rw [atAll_bls hx] at hs
  exact ⟨a, bs, rfl, Evl.ex_l u.bh hs, q _ B1 H1 u (at_bl.mpr rfl)⟩
end
/-! ### statements -/
section
variable {K : PySem.W.Frag} {σ : L2.St} {B B' H : Hp} {te ta tb tl : TE} {tt : TT} {D : Ends} {tu tw tz : TS} {g : TG}
variable {α β γ : Type} [Rep α] [Rep β] [Rep γ]
theorem q_set {i : Nat} {x : α} (h : Pe K te σ B x) (e : Ex B H) (k : ∀ v B1 H1, Up B H B1 H1 → Rep.at_ K B1 v x → tz D (σ.set i (some v)) H1) : tSeq (tAsg te (gName i)) tz D σ H := h H e _ fun v B1 H1 u hv => k v B1 H1 u hv
theorem p_ret {x : α} (h : Pe K te σ B x) (e : Ex B H) (k : ∀ v B1 H1, Up B H B1 H1 → Rep.at_ K B1 v x → D.rt v H1) : tRet te D σ H := h H e _ fun v B1 H1 u hv => k v B1 H1 u hv
theorem p_if {b : Bool} (h : Pt tt σ B b) (e : Ex B H) (h1 : b = true → ∀ B1 H1, Up B H B1 H1 → tu D σ H1) (h2 : b = false → ∀ B1 H1, Up B H B1 H1 → tw D σ H1) : tIfS tt tu tw D σ H := h H e _ fun B1 H1 u => by
  cases b with
  | true => exact h1 rfl B1 H1 u
  | false => exact h2 rfl B1 H1 u
theorem q_if {b : Bool} (h : Pt tt σ B b) (e : Ex B H) (h1 : b = true → ∀ B1 H1, Up B H B1 H1 → tu { D with nx := tz D } σ H1) (h2 : b = false → ∀ B1 H1, Up B H B1 H1 → tw { D with nx := tz D } σ H1) : tSeq (tIfS tt tu tw) tz D σ H := p_if (D := { D with nx := tz D }) h e h1 h2
/-- behind a turn -/
def LoopN (B1 : Hp) (P : L2.St → Hp → Hp → Prop) : L2.St → Hp → Prop := fun σ3 H3 => ∃ B3, Ex B1 B3 ∧ Ex B3 H3 ∧ P σ3 B3 H3
/-- a for over data: Pv: what is done, the slots, what is frozen, the heap -/
theorem p_for {wi : TI} {xs : List α} (h : ItD K wi σ B xs) (e : Ex B H)
    (k : ∀ B1 H1, Up B H B1 H1 → ∃ Pv : List α → L2.St → Hp → Hp → Prop, Pv [] σ B1 H1 ∧
      (∀ done x rest v σ' B' Hx B2 H', xs = done ++ x :: rest → Ex B1 B' → Ex B' Hx → Pv done σ' B' Hx → Up B' Hx B2 H' → Rep.at_ K B2 v x →
        g v σ' H' fun σ2 H2 => tu { D with nx := LoopN B1 (Pv (done ++ [x])), ct := LoopN B1 (Pv (done ++ [x])), bk := D.nx } σ2 H2) ∧
      ∀ σ' B' H', Ex B1 B' → Ex B' H' → Pv xs σ' B' H' → D.nx σ' H') : tFor wi g tu D σ H :=
  h H e _ fun J B1 H1 G Y up W hG hY => by
    obtain ⟨Pv, h0, hs, hd⟩ := k B1 H1 up
    refine for_it W (fun i => LoopN B1 (Pv (xs.take i))) ⟨B1, Ex.refl _, up.bh, h0⟩ (fun i σ' H' _ p => ?_) (fun i x σ' Hx H' hi p hy => ?_) (fun σ' H' p => ?_)
    · obtain ⟨B', b1, b2, _⟩ := p
      exact hG H' (b1.trans b2)
    · obtain ⟨B', b1, b2, hp⟩ := p
      obtain ⟨d, hd', hB⟩ := hY i x Hx H' hi (b1.trans b2) hy
      obtain ⟨B2, u2, hx⟩ := hB B' b1 b2
      have hlt := (List.getElem?_eq_some_iff.mp hd').1
      have exs : xs = xs.take i ++ d :: xs.drop (i + 1) := by
        have e1 : xs.drop i = d :: xs.drop (i + 1) := by
          rw [List.drop_eq_getElem_cons hlt]
          congr 1
          exact (List.getElem?_eq_some_iff.mp hd').2
        rw [← e1, List.take_append_drop]
      have z := hs (xs.take i) d (xs.drop (i + 1)) x σ' B' Hx B2 H' exs b1 b2 hp u2 hx
      have et : xs.take i ++ [d] = xs.take (i + 1) := by
        rw [List.take_add_one, hd']
        rfl
      rw [et] at z
      exact z
    · obtain ⟨B', b1, b2, hp⟩ := p
      rw [List.take_length] at hp
      exact hd σ' B' H' b1 b2 hp
end
end Ob
set_option Elab.async false
set_option linter.all false
set_option maxRecDepth 100000
set_option maxHeartbeats 4000000
/-! Ob5: subscripts, slices, conversions, min and max, dicts, what the readings of the generator name. -/
namespace Ob
open PySem L2
open Evl (Ex)
open PySem.W (Datum Tup DatumOrd)
section
variable {X : Cx}
/-! subscripts -/
def rIxD : R2 := fun x y H Q => ∃ a v, x = .ref a ∧ DGet H a y (some v) ∧ Q v H
def rIxU (K : PySem.W.Frag) : R2 := fun x y H Q => rIxL K x y H Q ∨ (rIxT K x y H Q ∨ (rIxS x y H Q ∨ rIxD x y H Q))
theorem ix_dict (hu : X.A.units + 150 < cLine) : IxR X rIxD := by
  intro value slice pins s σ H x y v u Q I rx ry h hs
  obtain ⟨a, z, rfl, g, q⟩ := h
  cases rx
  exact PyProof.Rows.tail_any (dict_typeIs I g) PySem.F.slot_dict_getitem.lookup (d_getItem (by omega) I g ry fun w' s3 I3 rw' => ⟨z, H, I3, rw', q⟩) hs
theorem ix_U (hu : X.A.units + 150 < cLine) : IxR X (rIxU X.K) := ix_list.or (ix_tup.or (ix_str.or (ix_dict hu)))
/-! slices -/
def rSlU (K : PySem.W.Frag) : V → Option Int → Option Int → Hp → VK → Prop := fun x lo hi H Q => rSlL K x lo hi H Q ∨ (rSlA K x lo hi H Q ∨ rSlS x lo hi H Q)
theorem sl_U : SlR X (rSlU X.K) := sl_list.or (sl_tupA.or sl_str)
/-! tuple(x), list(x) -/
def rTupleU (K : PySem.W.Frag) : List V → Hp → VK → Prop := fun xs H Q => ∃ p ys, xs = [.ref p] ∧ ((SqL K H p ys ∧ ∀ l, H l = none → Q (.ref l) (upd H l (.tup ys))) ∨ (SqT K H p ys ∧ Q (.ref p) H))
theorem call_tupleU : CallR X (.type "tuple") (rTupleU X.K) := call_tuple_of
def rListS (K : PySem.W.Frag) : List V → Hp → VK → Prop := fun xs H Q => ∃ p ys, xs = [.ref p] ∧ (SqL K H p ys ∨ SqT K H p ys) ∧ ∀ l, H l = none → Q (.ref l) (upd H l (.lst ys))
def rListD : List V → Hp → VK → Prop := fun xs H Q => ∃ (a : Addr) (kvs : List (Key × V)), xs = [.ref a] ∧ Rd H a (.dK kvs) ∧ ∀ p, H p = none → Q (.ref p) (upd H p (.lst (kvs.map fun kv => kV kv.1)))
def rListU (K : PySem.W.Frag) : List V → Hp → VK → Prop := fun xs H Q => rListS K xs H Q ∨ rListD xs H Q
theorem call_listU (hc : X.calm = true) : CallR X (.type "list") (rListU X.K) := CallR.or (r := rListS X.K) call_list_of (call_listD hc)
/-! sorted: a list or tuple of data; a dict with text keys -/
def rSortDc : List V → Hp → VK → Prop := fun xs H Q => ∃ (a : Addr) (kvs : List (Key × V)) (ks : List Str), xs = [.ref a] ∧ Rd H a (.dK kvs) ∧ kvs.map (·.1) = ks.map Sum.inr ∧ ks.length < 64 ∧
    ∀ ys p, ys.Perm ks → PyProof.Rows.sortedS ys = true → H p = none → Q (.ref p) (upd H p (.lst (ys.map V.str)))
def rSortU (K : PySem.W.Frag) : List V → Hp → VK → Prop := fun xs H Q => rSortD K xs H Q ∨ rSortDc xs H Q
theorem cr_sortU (hc : X.calm = true) (hu : X.A.units + 150 < cLine) : CallR X (.builtin "sorted") (rSortU X.K) := CallR.or (cr_sortD hu) (call_sortedD hc)
/-! abs, int -/
def rAbs : List V → Hp → VK → Prop := fun xs H Q => ∃ i, xs = [.int i] ∧ Q (.int (if i < 0 then -i else i)) H
theorem call_absr : CallR X (.builtin "abs") rAbs := call_abs
def rInt1 : List V → Hp → VK → Prop := fun xs H Q => (∃ i, xs = [.int i] ∧ Q (.int i) H) ∨ ∃ k, xs = [.bl k] ∧ Q (.int (if k then 1 else 0)) H
theorem call_int1r : CallR X (.type "int") rInt1 := call_int1
/-! min, max of two ints, of two texts -/
def ltS (x y : Str) : Bool := decide (x.cps.toList < y.cps.toList)
theorem cmpS_lt {prog : Program} {w : World} {A : Around} {P : Nat → Value → Prop} (val : Nat → Str) (hval : ∀ i v, P i v → ∃ t, v = .str (val i) t) : CmpOf prog w A .Lt P (fun i j => ltS (val i) (val j)) := by
  intro i j vi vj s Q E hi hj h
  obtain ⟨t, rfl⟩ := hval i vi hi
  obtain ⟨u, rfl⟩ := hval j vj hj
  have h2 : Q (.bool (decide ((val i).cps.toList < (val j).cps.toList))) s := h
  exact PyProof.Rows.lt_str h2
theorem cmpS_gt {prog : Program} {w : World} {A : Around} {P : Nat → Value → Prop} (val : Nat → Str) (hval : ∀ i v, P i v → ∃ t, v = .str (val i) t) : CmpOf prog w A .Gt P (fun i j => ltS (val j) (val i)) := by
  intro i j vi vj s Q E hi hj h
  obtain ⟨t, rfl⟩ := hval i vi hi
  obtain ⟨u, rfl⟩ := hval j vj hj
  have h2 : Q (.bool (decide ((val j).cps.toList < (val i).cps.toList))) s := h
  exact PySem.P.gt_str h2
def s2 (x y : Str) : Nat → Str := fun i => if i = 0 then x else y
theorem s2_at {x y : Str} {t u : Tok} (i : Nat) (v : Value) (h : (#[Value.str x t, Value.str y u] : Array Value)[i]? = some v) : ∃ t, v = .str (s2 x y i) t := by
  match i, h with
  | 0, h => simp at h; exact ⟨t, by rw [← h]; rfl⟩
  | 1, h => simp at h; exact ⟨u, by rw [← h]; rfl⟩
  | i + 2, h => simp at h
theorem min_two_strs {prog : Program} {w : World} {A : Around} {E : Value → Shared → Prop} {s : Shared} {a b : Str} {t u : Tok} {Q : Value → Shared → Prop} (hh : A.handled = none)
    (h : ∀ h' tk, (∀ c o, s.heap.get? c = some o → h'.get? c = some o) → Q (if ltS b a then .str b u else .str a t) { s with heap := h', toks := tk }) :
    wpAny (model prog w) A (call (.builtin "min") [.str a t, .str b u]) Q E s := by
  have hT : (s.heap.push { cls := .type "tuple", data := .seq #[.str a t, .str b u] }).IsTuple s.heap.objs.size #[.str a t, .str b u] := ⟨_, Heap.get?_push_size _ rfl, rfl, 0, rfl⟩
  refine call_min_two (wpAny_pyIter_tuple hT ?_)
  have hsz : (s.heap.push { cls := .type "tuple", data := .seq #[.str a t, .str b u] }).objs.size = s.heap.objs.size + 1 := Heap.size_push ..
  refine ⟨_, [_, s.heap.objs.size], [_], _, _, _, _, rfl, Walks.tuple (A := A.in1) hh _ s.heap.objs.size (by rw [hsz]; exact Nat.ne_of_lt (Nat.lt_succ_self _)) #[.str a t, .str b u],
    ⟨⟨_, Heap.get?_push_size _ rfl, rfl, rfl⟩, hT.push _⟩, fun c hc => ?_, by simp, cmpS_lt (s2 a b) s2_at, fun v h' tk hP hk => ?_⟩
  · show c < ((s.heap.push _).push _).objs.size
    rw [Heap.size_push, hsz]
    rcases List.mem_cons.mp hc with rfl | hc
    · rw [hsz]; exact Nat.lt_succ_self _
    · rcases List.mem_cons.mp hc with rfl | hc
      · exact Nat.lt_succ_of_lt (Nat.lt_succ_self _)
      · cases hc
  · have hold : ∀ c o, s.heap.get? c = some o → h'.get? c = some o := fun c o e => by
      refine hk c o (fun hm => ?_) (Heap.get?_push_of_some _ (Heap.get?_push_of_some _ e))
      rcases List.mem_cons.mp hm with e1 | hm
      · have := Heap.lt_size e; rw [e1, hsz] at this; exact Nat.lt_irrefl _ (Nat.lt_of_succ_lt this)
      · cases hm
    have := h h' tk hold
    have hv : v = if ltS b a then Value.str b u else Value.str a t := by
      cases hc : ltS b a <;> simp [argBest, s2, hc] at hP <;> simp [hP]
    rw [hv]; exact this
theorem max_two_strs {prog : Program} {w : World} {A : Around} {E : Value → Shared → Prop} {s : Shared} {a b : Str} {t u : Tok} {Q : Value → Shared → Prop} (hh : A.handled = none)
    (h : ∀ h' tk, (∀ c o, s.heap.get? c = some o → h'.get? c = some o) → Q (if ltS a b then .str b u else .str a t) { s with heap := h', toks := tk }) :
    wpAny (model prog w) A (call (.builtin "max") [.str a t, .str b u]) Q E s := by
  have hT : (s.heap.push { cls := .type "tuple", data := .seq #[.str a t, .str b u] }).IsTuple s.heap.objs.size #[.str a t, .str b u] := ⟨_, Heap.get?_push_size _ rfl, rfl, 0, rfl⟩
  refine call_max_two (wpAny_pyIter_tuple hT ?_)
  have hsz : (s.heap.push { cls := .type "tuple", data := .seq #[.str a t, .str b u] }).objs.size = s.heap.objs.size + 1 := Heap.size_push ..
  refine ⟨_, [_, s.heap.objs.size], [_], _, _, _, _, rfl, Walks.tuple (A := A.in1) hh _ s.heap.objs.size (by rw [hsz]; exact Nat.ne_of_lt (Nat.lt_succ_self _)) #[.str a t, .str b u],
    ⟨⟨_, Heap.get?_push_size _ rfl, rfl, rfl⟩, hT.push _⟩, fun c hc => ?_, by simp, cmpS_gt (s2 a b) s2_at, fun v h' tk hP hk => ?_⟩
  · show c < ((s.heap.push _).push _).objs.size
    rw [Heap.size_push, hsz]
    rcases List.mem_cons.mp hc with rfl | hc
    · rw [hsz]; exact Nat.lt_succ_self _
    · rcases List.mem_cons.mp hc with rfl | hc
      · exact Nat.lt_succ_of_lt (Nat.lt_succ_self _)
      · cases hc
  · have hold : ∀ c o, s.heap.get? c = some o → h'.get? c = some o := fun c o e => by
      refine hk c o (fun hm => ?_) (Heap.get?_push_of_some _ (Heap.get?_push_of_some _ e))
      rcases List.mem_cons.mp hm with e1 | hm
      · have := Heap.lt_size e; rw [e1, hsz] at this; exact Nat.lt_irrefl _ (Nat.lt_of_succ_lt this)
      · cases hm
    have := h h' tk hold
    have hv : v = if ltS a b then Value.str b u else Value.str a t := by
      cases hc : ltS a b <;> simp [argBest, s2, hc] at hP <;> simp [hP]
    rw [hv]; exact this
def rMinI : List V → Hp → VK → Prop := fun xs H Q => ∃ i j, xs = [.int i, .int j] ∧ Q (.int (if j < i then j else i)) H
def rMaxI : List V → Hp → VK → Prop := fun xs H Q => ∃ i j, xs = [.int i, .int j] ∧ Q (.int (if j > i then j else i)) H
def rMinS : List V → Hp → VK → Prop := fun xs H Q => ∃ i j, xs = [.str i, .str j] ∧ Q (.str (if ltS j i then j else i)) H
def rMaxS : List V → Hp → VK → Prop := fun xs H Q => ∃ i j, xs = [.str i, .str j] ∧ Q (.str (if ltS i j then j else i)) H
def rMinU : List V → Hp → VK → Prop := fun xs H Q => rMinI xs H Q ∨ rMinS xs H Q
def rMaxU : List V → Hp → VK → Prop := fun xs H Q => rMaxI xs H Q ∨ rMaxS xs H Q
theorem call_min2S (hc : X.calm = true) : CallR X (.builtin "min") rMinS := by
  intro pins s σ H xs us Q I r h
  obtain ⟨i, j, rfl, q⟩ := h
  obtain ⟨u, w', rfl, ⟨t, rfl⟩, ⟨t', rfl⟩⟩ := vals2 r
  refine min_two_strs (I.ok.hd hc) fun h' tk k => ⟨_, H, I.kept k, ?_, q⟩
  cases ltS j i <;> exact ⟨_, rfl⟩
theorem call_max2S (hc : X.calm = true) : CallR X (.builtin "max") rMaxS := by
  intro pins s σ H xs us Q I r h
  obtain ⟨i, j, rfl, q⟩ := h
  obtain ⟨u, w', rfl, ⟨t, rfl⟩, ⟨t', rfl⟩⟩ := vals2 r
  refine max_two_strs (I.ok.hd hc) fun h' tk k => ⟨_, H, I.kept k, ?_, q⟩
  cases ltS i j <;> exact ⟨_, rfl⟩
theorem cr_minU (hc : X.calm = true) : CallR X (.builtin "min") rMinU := CallR.or (call_min2 hc) (call_min2S hc)
theorem cr_maxU (hc : X.calm = true) : CallR X (.builtin "max") rMaxU := CallR.or (call_max2 hc) (call_max2S hc)
/-! dict(pairs), d.update(e), name = {..} -/
end
end Ob
set_option Elab.async false
set_option linter.all false
set_option maxRecDepth 100000
set_option maxHeartbeats 4000000
/-! Ob6: sequences (lists or tuples), panels; promises of pure defs; more expressions by type. -/
namespace Ob
open PySem L2
open Evl (Ex)
open PySem.W (Datum Tup DatumOrd)
/-! ### unpacking a tuple or a list -/
def gUnp (K : PySem.W.Frag) (n : Nat) (t : TGs) : TG := fun v σ H Q => gTup K n t v σ H Q ∨ gUnl K n t v σ H Q
theorem pg_unp {X : Cx} {pos : Pos} {es : List Expr} {k : Nat} {t : TGs} {n : Nat} (hc : X.calm = true) (h : PGs X es t)
    (hn : (assignEach es X.env).length = n := by rfl) (hst : (assignEach es X.env).findIdx? (·.1) = none := by rfl) : PG X (.Tuple es k pos) (gUnp X.K n t) :=
  ⟨fun pins s σ H v u Q I r hw => hw.elim (fun hw => (pg_tup hc h hn hst).run pins s σ H v u Q I r hw) (fun hw => (pg_unl hc h hn hst).run pins s σ H v u Q I r hw)⟩
/-! ### a list or a tuple of things -/
structure Sq (α : Type) where
  items : List α
instance {α : Type} [Rep α] : Rep (Sq α) := ⟨fun K H v s => ∃ a vs, v = .ref a ∧ (SqL K H a vs ∨ H a = some (.tup vs)) ∧ AtAll K H vs s.items,
  fun e ⟨a, vs, h1, h2, h3⟩ => ⟨a, vs, h1, h2.imp (exr_l e) (e.2.1 _ _), h3.monoR e⟩⟩
/-- a pair of names, as a tuple or a list -/
structure Pr where
  a : Str
  b : Str
  deriving DecidableEq
instance : Rep Pr := ⟨fun K H v p => ∃ a, v = .ref a ∧ (SqL K H a [.str p.a, .str p.b] ∨ H a = some (.tup [.str p.a, .str p.b])),
  fun e ⟨a, h1, h2⟩ => ⟨a, h1, h2.imp (exr_l e) (e.2.1 _ _)⟩⟩
/-- a panel, as tuples or lists at any depth -/
structure Pan where
  sw : List Str
  ex : List (Str × Str)
  deriving DecidableEq
def prs (xs : List (Str × Str)) : List Pr := xs.map fun p => ⟨p.1, p.2⟩
instance : Rep Pan := ⟨fun K H v p => ∃ a v1 v2, v = .ref a ∧ (SqL K H a [v1, v2] ∨ H a = some (.tup [v1, v2])) ∧ Rep.at_ K H v1 (Sq.mk p.sw) ∧ Rep.at_ K H v2 (Sq.mk (prs p.ex)),
  fun e ⟨a, v1, v2, h1, h2, h3, h4⟩ => ⟨a, v1, v2, h1, h2.imp (exr_l e) (e.2.1 _ _), Rep.monoR e h3, Rep.monoR e h4⟩⟩
/-- a panel as tuples -/
abbrev PanT : Type := Tup Str × Tup (Str × Str)
def Pan.t (p : Pan) : PanT := (⟨p.sw⟩, ⟨p.ex⟩)
section
variable {K : PySem.W.Frag} {H B B' : Hp} {v : V} {σ : L2.St} {te ta tb tc : TE} {tt tu : TT}
theorem sq_list {α : Type} [DecidableEq α] [Datum α] {xs : List α} (h : Rep.at_ K H v xs) : Rep.at_ K H v (Sq.mk xs) := by
  obtain ⟨a, vs, h1, h2, h3⟩ := at_list.mp h
  exact ⟨a, vs, h1, .inl h2, h3⟩
theorem sq_tup {α : Type} [DecidableEq α] [Datum α] {xs : Tup α} (h : Rep.at_ K H v xs) : Rep.at_ K H v (Sq.mk xs.items) := by
  obtain ⟨a, vs, h1, h2, h3⟩ := at_tup.mp h
  exact ⟨a, vs, h1, .inr h2, h3⟩
theorem pr_pair {p : Str × Str} (h : Rep.at_ K H v p) : Rep.at_ K H v (Pr.mk p.1 p.2) := by
  obtain ⟨a, v1, v2, h1, h2, h3, h4⟩ := at_pair.mp h
  rw [at_str.mp h3, at_str.mp h4] at h2
  exact ⟨a, h1, .inr h2⟩
theorem prs_all : ∀ {vs : List V} {xs : List (Str × Str)}, AtAll K H vs xs → AtAll K H vs (prs xs)
  | _, _, .nil => .nil
  | _, _, .cons a t => .cons (pr_pair a) (prs_all t)
theorem pan_t {p : Pan} (h : Rep.at_ K H v p.t) : Rep.at_ K H v p := by
  obtain ⟨a, v1, v2, h1, h2, h3, h4⟩ := at_pair.mp h
  refine ⟨a, v1, v2, h1, .inr h2, sq_tup h3, ?_⟩
  obtain ⟨b, vs, h5, h6, h7⟩ := at_tup.mp h4
  exact ⟨b, vs, h5, .inr h6, prs_all h7⟩
theorem Pe.imp {α β : Type} [Rep α] [Rep β] {x : α} {y : β} (h : Pe K te σ B x) (k : ∀ {H v}, Rep.at_ K H v x → Rep.at_ K H v y) : Pe K te σ B y := fun H e Q q => h H e Q fun v B2 H2 u hv => q v B2 H2 u (k hv)
theorem it_sq {α : Type} [Rep α] {xs : List α} (h : Pe K te σ B (Sq.mk xs)) : ItD K (iSeq K te) σ B xs := fun H e R q => h H e _ fun v B1 H1 u hv => by
  obtain ⟨a, vs, rfl, hs, hx⟩ := hv
  rcases hs with hs | hs
  · refine ⟨a, rfl, .inl ⟨⟨vs, Evl.ex_l u.bh hs⟩, ?_⟩⟩
    refine q (Itl K a) B1 H1 (fun H => SqL K H a vs) (YAt vs) u ?_ (fun H' e' => Evl.ex_l e' hs) fun i x Hx H' hi ex y => ?_
    · rw [← AtAll.length hx]
      exact walk_list
    · obtain ⟨y1, y2⟩ := y
      obtain ⟨d, hd, hxd⟩ := AtAll.get' hx y2
      refine ⟨d, hd, fun B' b1 b2 => ⟨B', ?_, Rep.mono b1 hxd⟩⟩
      rw [y1]
      exact Up.refl b2
  · refine ⟨a, rfl, .inr ⟨⟨vs, ex_tx u.bh hs⟩, ?_⟩⟩
    refine q (Itt K a) B1 H1 (fun H => SqT K H a vs) (YAt vs) u ?_ (fun H' e' => ex_tx e' hs) fun i x Hx H' hi ex y => ?_
    · rw [← AtAll.length hx]
      exact walk_tup
    · obtain ⟨y1, y2⟩ := y
      obtain ⟨d, hd, hxd⟩ := AtAll.get' hx y2
      refine ⟨d, hd, fun B' b1 b2 => ⟨B', ?_, Rep.mono b1 hxd⟩⟩
      rw [y1]
      exact Up.refl b2
/-! subscripts -/
theorem atI_of {α : Type} [Rep α] {vs : List V} {xs : List α} (h : AtAll K H vs xs) {i : Int} {x : α} (ha : atI xs i = some x) : ∃ v, atI vs i = some v ∧ Rep.at_ K H v x := by
  unfold atI at ha ⊢
  rw [h.length]
  cases e : ixN xs.length i with
  | none =>
    rw [e] at ha
    cases ha
  | some j =>
    rw [e] at ha
    exact h.get (i := j) ha
theorem e_ixSq {α : Type} [Rep α] {xs : List α} {i : Int} {x : α} (ha : Pe K ta σ B (Sq.mk xs)) (hb : Pe K tb σ B i) (hi : atI xs i = some x) : Pe K (tOp (rIxU K) ta tb) σ B x :=
  e_op ha hb fun B H v w e h1 h2 Q q => by
    obtain ⟨a, vs, rfl, hs, hx⟩ := h1
    obtain ⟨z, hz, hzx⟩ := atI_of hx hi
    cases at_int.mp h2
    rcases hs with hs | hs
    · exact .inl ⟨a, vs, i, z, rfl, rfl, Evl.ex_l e hs, hz, q z B H (Up.refl e) hzx⟩
    · exact .inr (.inl ⟨a, vs, i, z, rfl, rfl, ex_tx e hs, hz, q z B H (Up.refl e) hzx⟩)
theorem e_ixL {α : Type} [DecidableEq α] [Datum α] {xs : List α} {i : Int} {x : α} (ha : Pe K ta σ B xs) (hb : Pe K tb σ B i) (hi : atI xs i = some x) : Pe K (tOp (rIxU K) ta tb) σ B x := e_ixSq (ha.imp sq_list) hb hi
theorem e_sw {p : Pan} (ha : Pe K ta σ B p) : Pe K (tOp (rIxU K) ta (tC (.int 0))) σ B (Sq.mk p.sw) :=
  e_op ha e_int fun B H v w e h1 h2 Q q => by
    obtain ⟨a, v1, v2, rfl, hs, h3, h4⟩ := h1
    cases at_int.mp h2
    rcases hs with hs | hs
    · exact .inl ⟨a, _, 0, v1, rfl, rfl, Evl.ex_l e hs, rfl, q v1 B H (Up.refl e) h3⟩
    · exact .inr (.inl ⟨a, _, 0, v1, rfl, rfl, ex_tx e hs, rfl, q v1 B H (Up.refl e) h3⟩)
theorem e_ex {p : Pan} (ha : Pe K ta σ B p) : Pe K (tOp (rIxU K) ta (tC (.int 1))) σ B (Sq.mk (prs p.ex)) :=
  e_op ha e_int fun B H v w e h1 h2 Q q => by
    obtain ⟨a, v1, v2, rfl, hs, h3, h4⟩ := h1
    cases at_int.mp h2
    rcases hs with hs | hs
    · exact .inl ⟨a, _, 1, v2, rfl, rfl, Evl.ex_l e hs, rfl, q v2 B H (Up.refl e) h4⟩
    · exact .inr (.inl ⟨a, _, 1, v2, rfl, rfl, ex_tx e hs, rfl, q v2 B H (Up.refl e) h4⟩)
/-! a dict with text keys -/
/-! in, for sequences of either kind -/
/-! conversions -/
theorem e_tupSq {α : Type} [DecidableEq α] [Datum α] {xs : List α} (h : Pe K te σ B (Sq.mk xs)) : Pe K (tCB (rTupleU K) (tCons te tNil)) σ B (Tup.mk xs) := fun H e Q q => h H e _ fun v B1 H1 u hv => by
  obtain ⟨a, vs, rfl, hs, hx⟩ := hv
  rcases hs with hs | hs
  · exact ⟨a, vs, rfl, .inl ⟨Evl.ex_l u.bh hs, fun l hl => q _ _ _ (u.then hl) (at_tup.mpr ⟨l, vs, rfl, upd_same, hx.mono (Up.new (o := .tup vs) u.bh hl).bb⟩)⟩⟩
  · exact ⟨a, vs, rfl, .inr ⟨ex_tx u.bh hs, q _ _ _ u (at_tup.mpr ⟨a, vs, rfl, hs, hx⟩)⟩⟩
theorem e_tupL {α : Type} [DecidableEq α] [Datum α] {xs : List α} (h : Pe K te σ B xs) : Pe K (tCB (rTupleU K) (tCons te tNil)) σ B (Tup.mk xs) := e_tupSq (h.imp sq_list)
theorem e_lstSq {α : Type} [DecidableEq α] [Datum α] {xs : List α} (h : Pe K te σ B (Sq.mk xs)) : Pe K (tCB (rListU K) (tCons te tNil)) σ B xs := fun H e Q q => h H e _ fun v B1 H1 u hv => by
  obtain ⟨a, vs, rfl, hs, hx⟩ := hv
  exact .inl ⟨a, vs, rfl, hs.imp (Evl.ex_l u.bh) (ex_tx u.bh), fun l hl => q _ _ _ (u.then hl) (at_list.mpr ⟨l, vs, rfl, Evl.sq_of upd_same, hx.mono (Up.new (o := .lst vs) u.bh hl).bb⟩)⟩
theorem e_lenSq {α : Type} [Rep α] {xs : List α} (h : Pe K te σ B (Sq.mk xs)) : Pe K (tCB (rLenU K) (tCons te tNil)) σ B (xs.length : Int) := fun H e Q q => h H e _ fun v B1 H1 u hv => by
  obtain ⟨a, vs, rfl, hs, hx⟩ := hv
  exact .inl ⟨.ref a, xs.length, rfl, hs.imp (fun hs => ⟨vs, Evl.ex_l u.bh hs, hx.length.symm⟩) (fun hs => ⟨vs, ex_tx u.bh hs, hx.length.symm⟩), q _ B1 H1 u (at_int.mpr rfl)⟩
theorem e_sortSq {α : Type} [DecidableEq α] [DatumOrd α] {xs : List α} (h : Pe K te σ B (Sq.mk xs)) (hk : PySem.W.Sortable (xs.map Datum.toD)) (hz : Datum.depth α ≤ 64 := by decide) : Pe K (tCB (rSortU K) (tCons te tNil)) σ B (sortD xs) := fun H e Q q => h H e _ fun v B1 H1 u hv => by
  obtain ⟨a, vs, rfl, hs, hx⟩ := hv
  refine .inl ⟨α, inferInstance, inferInstance, a, vs, xs, B1, rfl, hs.imp (Evl.ex_l u.bh) (ex_tx u.bh), u.bh, hx, .inl hk, hz, fun ys p hy hp => ?_⟩
  have u2 := Up.new (o := .lst ys) u.bh hp
  exact q _ _ _ (u.trans u2) (at_list.mpr ⟨p, ys, rfl, Evl.sq_of upd_same, hy.mono u2.bb⟩)
theorem sortable_str (xs : List Str) : PySem.W.Sortable (xs.map Datum.toD) := PySem.W.Sortable.others fun b => ⟨fun z => (by cases z), fun _ z => (by cases z)⟩
theorem sortable_pair {α β : Type} [DecidableEq α] [Datum α] [DecidableEq β] [Datum β] (xs : List (α × β)) : PySem.W.Sortable (xs.map Datum.toD) := PySem.W.Sortable.tuples fun b => ⟨_, _, rfl⟩
/-! slices from a place on, to a place -/
theorem AtAll.cut {α : Type} [Rep α] {vs : List V} {xs : List α} (h : AtAll K H vs xs) (lo hi : Option Int) : AtAll K H (cutV vs lo hi) ((xs.drop (HT.sIx xs.length 0 lo)).take (HT.sIx xs.length xs.length hi - HT.sIx xs.length 0 lo)) := by
  unfold cutV
  rw [h.length]
  exact AtAll.take _ (AtAll.drop _ h)
def cutA {α : Type} (xs : List α) (lo hi : Option Int) : List α := (xs.drop (HT.sIx xs.length 0 lo)).take (HT.sIx xs.length xs.length hi - HT.sIx xs.length 0 lo)
theorem cutA_from {α : Type} (xs : List α) (k : Nat) : cutA xs (some (k : Int)) none = xs.drop k := by
  unfold cutA
  rw [HT.sIx_nat, HT.sIx_none]
  by_cases h : k ≤ xs.length
  · rw [Nat.min_eq_left h]
    exact List.take_of_length_le (by rw [List.length_drop]; exact Nat.le_refl _)
  · rw [Nat.min_eq_right (by omega), List.drop_of_length_le (by omega), List.drop_of_length_le (by omega), List.take_nil]
theorem cutA_to {α : Type} (xs : List α) (k : Nat) : cutA xs none (some (k : Int)) = xs.take k := by
  unfold cutA
  rw [HT.sIx_nat, HT.sIx_none]
  show List.take (min k xs.length - 0) (xs.drop 0) = _
  rw [Nat.sub_zero, List.drop_zero]
  exact (List.take_eq_take_min ..).symm
theorem e_slL {α : Type} [DecidableEq α] [Datum α] {xs : List α} {tl th : TO} {lo hi : Option Int} (h : Pe K te σ B xs) (h1 : Po tl σ B lo) (h2 : Po th σ B hi) : Pe K (tSl (rSlU K) te tl th) σ B (cutA xs lo hi) := fun H e Q q => h H e _ fun v B1 H1 u hv =>
  h1 H1 (u.bb.trans u.bh) _ fun B2 H2 u2 => h2 H2 (u2.bb.trans u2.bh) _ fun B3 H3 u3 => by
    obtain ⟨a, vs, rfl, hs, hx⟩ := at_list.mp hv
    have b3 : Ex B1 H3 := u.bh.trans (u2.hh.trans u3.hh)
    refine .inl ⟨a, vs, rfl, Evl.ex_l b3 hs, fun p hp => ?_⟩
    have w := Up.new (o := .lst (cutV vs lo hi)) b3 hp
    have v3 : Up B H B1 H3 := ⟨u.bb, b3, u.hh.trans (u2.hh.trans u3.hh), u.nw⟩
    exact q _ _ _ (v3.trans w) (at_list.mpr ⟨p, _, rfl, Evl.sq_of upd_same, (hx.cut lo hi).mono w.bb⟩)
/-! min, max of texts, of ints; abs, int of a bool -/
def minS (x y : Str) : Str := if ltS y x then y else x
def maxS (x y : Str) : Str := if ltS x y then y else x
theorem e_minS {x y : Str} (h : Pe K ta σ B x) (h2 : Pe K tb σ B y) : Pe K (tCB rMinU (tCons ta (tCons tb tNil))) σ B (minS x y) := fun H e Q q => h.both h2 e fun v w B1 H1 u hv hw => by
  cases at_str.mp hv
  cases at_str.mp hw
  exact .inr ⟨x, y, rfl, q _ B1 H1 u (at_str.mpr rfl)⟩
theorem e_maxS {x y : Str} (h : Pe K ta σ B x) (h2 : Pe K tb σ B y) : Pe K (tCB rMaxU (tCons ta (tCons tb tNil))) σ B (maxS x y) := fun H e Q q => h.both h2 e fun v w B1 H1 u hv hw => by
  cases at_str.mp hv
  cases at_str.mp hw
  exact .inr ⟨x, y, rfl, q _ B1 H1 u (at_str.mpr rfl)⟩
theorem e_minI {x y : Int} (h : Pe K ta σ B x) (h2 : Pe K tb σ B y) : Pe K (tCB rMinU (tCons ta (tCons tb tNil))) σ B (if y < x then y else x) := fun H e Q q => h.both h2 e fun v w B1 H1 u hv hw => by
  cases at_int.mp hv
  cases at_int.mp hw
  exact .inl ⟨x, y, rfl, q _ B1 H1 u (at_int.mpr rfl)⟩
theorem e_abs {x : Int} (h : Pe K te σ B x) : Pe K (tCB rAbs (tCons te tNil)) σ B (if x < 0 then -x else x) := fun H e Q q => h H e _ fun v B1 H1 u hv => by
  cases at_int.mp hv
  exact ⟨x, rfl, q _ B1 H1 u (at_int.mpr rfl)⟩
theorem e_intB {x : Bool} (h : Pe K te σ B x) : Pe K (tCB rInt1 (tCons te tNil)) σ B (if x then 1 else 0 : Int) := fun H e Q q => h H e _ fun v B1 H1 u hv => by
  cases at_bl.mp hv
  exact .inr ⟨x, rfl, q _ B1 H1 u (at_int.mpr rfl)⟩
/-! ### promises of pure defs -/
section
variable {α β γ δ : Type} [Rep α] [Rep β] [Rep γ] [Rep δ]
def Fn1 (K : PySem.W.Frag) (pre : α → Prop) (f : α → β) : Sp := fun vs H Q _ => ∃ x B, Ex B H ∧ RCons K x RNil vs B ∧ pre x ∧ ∀ v B2 H2, Up B H B2 H2 → Rep.at_ K B2 v (f x) → Q v H2
def Fn2 (K : PySem.W.Frag) (pre : α → β → Prop) (f : α → β → γ) : Sp := fun vs H Q _ => ∃ x y B, Ex B H ∧ RCons K x (RCons K y RNil) vs B ∧ pre x y ∧ ∀ v B2 H2, Up B H B2 H2 → Rep.at_ K B2 v (f x y) → Q v H2
def Fn3 (K : PySem.W.Frag) (pre : α → β → γ → Prop) (f : α → β → γ → δ) : Sp := fun vs H Q _ => ∃ x y z B, Ex B H ∧ RCons K x (RCons K y (RCons K z RNil)) vs B ∧ pre x y z ∧ ∀ v B2 H2, Up B H B2 H2 → Rep.at_ K B2 v (f x y z) → Q v H2
theorem Fn1.len {pre : α → Prop} {f : α → β} (vs : List V) (H : Hp) (Q : VK) (E : XK) (h : Fn1 K pre f vs H Q E) : vs.length = 1 := by
  obtain ⟨x, B, e, ⟨v, r, rfl, h1, rfl⟩, _⟩ := h
  rfl
theorem Fn2.len {pre : α → β → Prop} {f : α → β → γ} (vs : List V) (H : Hp) (Q : VK) (E : XK) (h : Fn2 K pre f vs H Q E) : vs.length = 2 := by
  obtain ⟨x, y, B, e, ⟨v, r, rfl, h1, v2, r2, rfl, h2, rfl⟩, _⟩ := h
  rfl
theorem Fn3.len {pre : α → β → γ → Prop} {f : α → β → γ → δ} (vs : List V) (H : Hp) (Q : VK) (E : XK) (h : Fn3 K pre f vs H Q E) : vs.length = 3 := by
  obtain ⟨x, y, z, B, e, ⟨v, r, rfl, h1, v2, r2, rfl, h2, v3, r3, rfl, h3, rfl⟩, _⟩ := h
  rfl
theorem e_call1 {pre : α → Prop} {f : α → β} {E : XK} {x : α} (h : Pe K ta σ B x) (hp : pre x) : Pe K (tCall (Fn1 K pre f) [] E (tCons ta tNil)) σ B (f x) := fun H e Q q => a_1 h H e _ fun vs B1 H1 u hv => by
  rw [List.append_nil]
  exact ⟨x, B1, u.bh, hv, hp, fun v B2 H2 u2 h2 => q v B2 H2 (u.trans u2) h2⟩
theorem e_call2 {pre : α → β → Prop} {f : α → β → γ} {E : XK} {x : α} {y : β} (h : Pe K ta σ B x) (h2 : Pe K tb σ B y) (hp : pre x y) : Pe K (tCall (Fn2 K pre f) [] E (tCons ta (tCons tb tNil))) σ B (f x y) := fun H e Q q => a_2 h h2 H e _ fun vs B1 H1 u hv => by
  rw [List.append_nil]
  exact ⟨x, y, B1, u.bh, hv, hp, fun v B2 H2 u2 h2 => q v B2 H2 (u.trans u2) h2⟩
end
end
end Ob
set_option Elab.async false
set_option linter.all false
set_option maxRecDepth 100000
set_option maxHeartbeats 4000000
/-! Ob7: dict comprehensions, locks, freezing, lists that a loop grows. -/
namespace Ob
open PySem L2
open Evl (Ex)
open PySem.W (Datum Tup DatumOrd)
section
variable {K : PySem.W.Frag} {H B B' : Hp} {v : V} {σ : L2.St} {te ta tb tc tk tv : TE} {tt tu : TT}
/-- the target two names, a pair of data -/
theorem turn_pairU {α β γ : Type} [DecidableEq α] [Datum α] [DecidableEq β] [Datum β] [Rep γ] {vs : List Nat} {b : Bool} {r : γ} {i j : Nat} {p : α × β} (hp : Rep.at_ K B v p)
    (h : ∀ v1 v2, Rep.at_ K B v1 p.1 → Rep.at_ K B v2 p.2 → wipe (((wipe σ vs).set i (some v1)).set j (some v2)) vs = wipe σ vs ∧ Pt tt (((wipe σ vs).set i (some v1)).set j (some v2)) B b ∧ (b = true → Pe K te (((wipe σ vs).set i (some v1)).set j (some v2)) B r)) :
    TurnD K (gUnp K 2 (gCons (gName i) (gCons (gName j) gNil))) tt te vs σ B v b r := by
  obtain ⟨a, v1, v2, rfl, hs, h1, h2⟩ := at_pair.mp hp
  obtain ⟨hw, ht, he⟩ := h v1 v2 h1 h2
  exact ⟨_, fun H Q e q => .inl ⟨a, [v1, v2], rfl, ex_tx e hs, rfl, v1, [v2], rfl, v2, [], rfl, rfl, q⟩, hw, ht, he⟩
/-- a pair of names unpacked -/
theorem unp_pr {p : Pr} {i j : Nat} {Q : L2.St → Hp → Prop} (hp : Rep.at_ K B v p) (e : Ex B H) (q : Q ((σ.set i (some (.str p.a))).set j (some (.str p.b))) H) : gUnp K 2 (gCons (gName i) (gCons (gName j) gNil)) v σ H Q := by
  obtain ⟨a, rfl, hs⟩ := hp
  rcases hs with hs | hs
  · exact .inr ⟨a, _, rfl, Evl.ex_l e hs, rfl, _, _, rfl, _, _, rfl, rfl, q⟩
  · exact .inl ⟨a, _, rfl, ex_tx e hs, rfl, _, _, rfl, _, _, rfl, rfl, q⟩
/-! freezing, changing what is not frozen -/
theorem Up.freeze {B H B2 H2 : Hp} (u : Up B H B2 H2) {a : Addr} {o : HO} (h : H2 a = some o) (hf : H a = none) : Up B H (upd B2 a o) H2 ∧ Ex B2 (upd B2 a o) := by
  have e2 : Ex B2 (upd B2 a o) := fun c x hc => by
    by_cases hca : c = a
    · subst hca
      have := u.bh c x hc
      rw [h] at this
      rw [upd_same]
      exact this
    · rw [upd_ne hca]
      exact hc
  refine ⟨⟨u.bb.trans e2, ex_in u.bh h, u.hh, fun c hc => ?_⟩, e2⟩
  by_cases hca : c = a
  · exact .inr (hca ▸ hf)
  · rw [upd_ne hca] at hc
    exact u.nw c hc
theorem Up.mut {B H B2 H2 : Hp} (u : Up B H B2 H2) {a : Addr} {o : HO} (hf : H a = none) (hb : B2 a = none) : Up B H B2 (upd H2 a o) :=
  ⟨u.bb, ex_upd u.bh hb, Ex.mut u.hh hf, u.nw⟩
/-- a new object that is not frozen -/
theorem Up.hold {B H B2 H2 : Hp} (u : Up B H B2 H2) {a : Addr} {o : HO} (h : H2 a = none) : Up B H B2 (upd H2 a o) := u.mut (Evl.fresh_back u.hh h) (Evl.fresh_back u.bh h)
/-! dict comprehensions -/
theorem DicAt.mono {α : Type} [Rep α] (e : Ex H B) {ks : List (Key × V)} {d : List (Str × α)} (h : DicAt K H ks d) : DicAt K B ks d := Paired.mapP h fun _ _ q => ⟨q.1, Rep.mono e q.2⟩
/-! the keys of a locked dict -/
/-! a list grown -/
theorem app_do {D : Ends} {l : Addr} {vs : List V} {α : Type} [Rep α] {x : α} {to : TE} (hl : H l = some (.lst vs)) (e : Ex B H) (ho : ∀ (H1 : Hp) (Q : VK), Ex H H1 → Q (.ref l) H1 → to σ H1 Q) (h : Pe K te σ B x) (hz : vs.length ≤ 1000000)
    (k : ∀ v B1 H1, Up B H B1 H1 → Rep.at_ K B1 v x → D.nx σ (upd H1 l (.lst (vs ++ [v])))) : tDrop (tBM K "list" rAppend to (tCons te tNil)) D σ H :=
  ho H _ (Ex.refl H) ⟨.inl ⟨rfl, vs, Evl.sq_of hl⟩, h H e _ fun v B1 H1 u hv => ⟨l, vs, v, rfl, rfl, u.hh l _ hl, Nat.lt_of_le_of_lt hz (by rw [sizeLine_eq]; decide), k v B1 H1 u hv⟩⟩
theorem app_var {D : Ends} {l : Addr} {vs : List V} {α : Type} [Rep α] {x : α} {i : Nat} (hi : σ[i]? = some (some (.ref l))) (hl : H l = some (.lst vs)) (e : Ex B H) (h : Pe K te σ B x) (hz : vs.length ≤ 1000000)
    (k : ∀ v B1 H1, Up B H B1 H1 → Rep.at_ K B1 v x → D.nx σ (upd H1 l (.lst (vs ++ [v])))) : tDrop (tBM K "list" rAppend (tVar i) (tCons te tNil)) D σ H :=
  app_do hl e (fun H1 Q _ q => ⟨_, hi, q⟩) h hz k
end
end Ob
set_option Elab.async false
set_option linter.all false
set_option maxRecDepth 100000
set_option maxHeartbeats 4000000
/-! P1: the defs of panels.py, effects.py, states.py: readings and promises. -/
namespace Ob
open PySem L2
open Evl (Ex)
open PySem.W (Datum Tup DatumOrd)
abbrev Ends.ret (Q : VK) : Ends := { nx := fun _ H' => Q .non H', rt := Q }
section
variable {K : PySem.W.Frag}
/-! ### are_ascending -/
theorem all_map_id {α : Type} (xs : List α) (f : α → Bool) : ((xs.filter fun _ => true).map f).all id = xs.all f := by
  rw [List.filter_eq_self.mpr fun _ _ => rfl, List.all_map]
  rfl
/-! ### look_switches (where the panel has them all) -/
/-! ### rival_table -/
/-- what the panel functions ask of a panel -/
structure PanOk (p : Pan) : Prop where
  nd : p.sw.Nodup
  ex : ∀ e ∈ p.ex, e.1 ∈ p.sw ∧ e.2 ∈ p.sw
  n1 : p.sw.length ≤ 100000
  n2 : p.ex.length ≤ 100000
/-- the dict's pairs -/
def kvOf (es : List (Str × Addr)) : List (Key × V) := es.map fun p => (.inr p.1, .ref p.2)
structure TabAt (es : List (Str × Addr)) (c : Str → List Str) (D : Addr) (B H : Hp) : Prop where
  dD : H D = some (.dK (kvOf es))
  dl : ∀ p ∈ es, H p.2 = some (.lst ((c p.1).map V.str))
  bD : B D = none
  bl : ∀ p ∈ es, B p.2 = none
  nd : (es.map (·.2)).Nodup
  ne : ∀ p ∈ es, p.2 ≠ D
theorem TabAt.up {es : List (Str × Addr)} {c : Str → List Str} {D : Addr} {B H B2 H2 : Hp} (t : TabAt es c D B H) (u : Up B H B2 H2) : TabAt es c D B2 H2 :=
  ⟨(u.out t.bD t.dD).2, fun p hp => (u.out (t.bl p hp) (t.dl p hp)).2, (u.out t.bD t.dD).1, fun p hp => (u.out (t.bl p hp) (t.dl p hp)).1, t.nd, t.ne⟩
theorem TabAt.app {es : List (Str × Addr)} {c : Str → List Str} {D : Addr} {B H : Hp} (t : TabAt es c D B H) {s : Str} {a : Addr} (h : (s, a) ∈ es) (n1 : (es.map (·.1)).Nodup) (x : Str) :
    TabAt es (fun y => if y = s then c y ++ [x] else c y) D B (upd H a (.lst ((c s).map V.str ++ [.str x]))) := by
  refine ⟨?_, fun p hp => ?_, t.bD, t.bl, t.nd, t.ne⟩
  · rw [upd_ne (t.ne _ h).symm]
    exact t.dD
  · by_cases e : p.2 = a
    · have ep : p = (s, a) := by
        obtain ⟨i, hi, e1⟩ := List.getElem_of_mem hp
        obtain ⟨j, hj, e2⟩ := List.getElem_of_mem h
        have : i = j := by
          refine (List.getElem_inj (xs := es.map (·.2)) (h₀ := by simpa using hi) (h₁ := by simpa using hj) t.nd).mp ?_
          simp [e1, e2, e]
        subst this
        rw [← e1, ← e2]
      subst ep
      show upd H a _ a = _
      rw [upd_same]
      show _ = some (HO.lst ((if s = s then c s ++ [x] else c s).map V.str))
      rw [if_pos rfl, List.map_append]
      rfl
    · rw [upd_ne e]
      have ne : ¬ p.1 = s := fun z => by
        obtain ⟨i, hi, e1⟩ := List.getElem_of_mem hp
        obtain ⟨j, hj, e2⟩ := List.getElem_of_mem h
        have : i = j := by
          refine (List.getElem_inj (xs := es.map (·.1)) (h₀ := by simpa using hi) (h₁ := by simpa using hj) n1).mp ?_
          simp [e1, e2, z]
        subst this
        rw [e1] at e2
        rw [e2] at e
        exact e rfl
      show _ = some (HO.lst ((if p.1 = s then _ else c p.1).map V.str))
      rw [if_neg ne]
      exact t.dl p hp
end
end Ob
set_option Elab.async false
set_option linter.all false
set_option maxRecDepth 100000
set_option maxHeartbeats 4000000
/-! P2: rival_table. -/
set_option Elab.async false
set_option linter.all false
set_option maxRecDepth 100000
set_option maxHeartbeats 4000000
/-! M1: texts are ordered; sorted lists; filters by what follows. Plain Lean. -/
namespace Ob
open PySem L2
open PySem.W (Datum Tup DatumOrd)
/-! ### the order of texts -/
theorem str_ext {x y : Str} (h : x.cps.toList = y.cps.toList) : x = y := by
  cases x
  cases y
  simp at h
  rw [h]
theorem ltS_irr (x : Str) : ltS x x = false := decide_eq_false (List.lt_irrefl _)
theorem ltS_tr {x y z : Str} (h : ltS x y = true) (k : ltS y z = true) : ltS x z = true := decide_eq_true (List.lt_trans (of_decide_eq_true h) (of_decide_eq_true k))
theorem ltS_tri (x y : Str) : ltS x y = true ∨ x = y ∨ ltS y x = true := by
  by_cases h : x.cps.toList < y.cps.toList
  · exact .inl (decide_eq_true h)
  · by_cases k : y.cps.toList < x.cps.toList
    · exact .inr (.inr (decide_eq_true k))
    · exact .inr (.inl (str_ext (List.le_antisymm (List.not_lt.mp k) (List.not_lt.mp h))))
theorem ltS_asy {x y : Str} (h : ltS x y = true) : ltS y x = false := by
  cases k : ltS y x with
  | false => rfl
  | true =>
    have := ltS_tr h k
    rw [ltS_irr] at this
    cases this
/-- x is not behind y -/
def leS (x y : Str) : Bool := !ltS y x
theorem leS_total (x y : Str) : (leS x y || leS y x) = true := by
  unfold leS
  rcases ltS_tri x y with h | h | h
  · rw [ltS_asy h]; rfl
  · rw [h, ltS_irr]; rfl
  · rw [ltS_asy h]; simp
theorem leS_trans (x y z : Str) (h : leS x y = true) (k : leS y z = true) : leS x z = true := by
  unfold leS at *
  simp only [Bool.not_eq_true'] at *
  rcases ltS_tri z x with a | a | a
  · rcases ltS_tri y z with b | b | b
    · rw [ltS_tr b a] at h; cases h
    · rw [b] at h; rw [h] at a; cases a
    · rw [b] at k; cases k
  · rw [a]; exact ltS_irr _
  · exact ltS_asy a
theorem leS_anti {x y : Str} (h : leS x y = true) (k : leS y x = true) : x = y := by
  unfold leS at *
  simp only [Bool.not_eq_true'] at *
  rcases ltS_tri x y with a | a | a
  · rw [a] at k; cases k
  · exact a
  · rw [a] at h; cases h
theorem sortD_perm {α : Type} [DecidableEq α] [DatumOrd α] (xs : List α) : (sortD xs).Perm xs := List.mergeSort_perm xs _
theorem sortD_len {α : Type} [DecidableEq α] [DatumOrd α] (xs : List α) : (sortD xs).length = xs.length := (sortD_perm xs).length_eq
theorem mem_sortD {α : Type} [DecidableEq α] [DatumOrd α] {xs : List α} {x : α} : x ∈ sortD xs ↔ x ∈ xs := (sortD_perm xs).mem_iff
theorem sortD_sorted (xs : List Str) : (sortD xs).Pairwise fun x y => leS x y = true := List.pairwise_mergeSort leS_trans leS_total xs
theorem sorted_uniq : ∀ {xs ys : List Str}, xs.Perm ys → xs.Pairwise (fun x y => leS x y = true) → ys.Pairwise (fun x y => leS x y = true) → xs = ys := fun h a b =>
  h.eq_of_pairwise (fun x y _ _ h k => leS_anti h k) a b
/-- strictly ascending -/
def Asc (xs : List Str) : Prop := xs.Pairwise fun x y => ltS x y = true
theorem asc_nodup {xs : List Str} (h : Asc xs) : xs.Nodup := h.imp fun {a b} hab e => by
  rw [e, ltS_irr] at hab
  cases hab
theorem asc_le {xs : List Str} (h : Asc xs) : xs.Pairwise fun x y => leS x y = true := h.imp fun {a b} hab => by
  unfold leS
  rw [ltS_asy hab]
  rfl
theorem sortD_asc {xs : List Str} (h : xs.Nodup) : Asc (sortD xs) := by
  have h1 := sortD_sorted xs
  have h2 : (sortD xs).Nodup := (sortD_perm xs).nodup_iff.mpr h
  refine (h1.and h2).imp fun {a b} hab => ?_
  obtain ⟨hle, hne⟩ := hab
  rcases ltS_tri a b with z | z | z
  · exact z
  · exact absurd z hne
  · unfold leS at hle
    rw [z] at hle
    cases hle
theorem asc_sortD {xs : List Str} (h : Asc xs) : sortD xs = xs := sorted_uniq (sortD_perm xs) (sortD_sorted xs) (asc_le h)
theorem perm_sortD {xs ys : List Str} (h : xs.Perm ys) : sortD xs = sortD ys := sorted_uniq ((sortD_perm xs).trans (h.trans (sortD_perm ys).symm)) (sortD_sorted xs) (sortD_sorted ys)
/-- two ascending lists of the same members are one -/
theorem asc_ext {xs ys : List Str} (hx : Asc xs) (hy : Asc ys) (h : ∀ z, z ∈ xs ↔ z ∈ ys) : xs = ys :=
  sorted_uniq ((List.perm_ext_iff_of_nodup (asc_nodup hx) (asc_nodup hy)).mpr h) (asc_le hx) (asc_le hy)
end Ob
set_option Elab.async false
set_option linter.all false
set_option maxRecDepth 100000
set_option maxHeartbeats 4000000
/-! Ob8: sets as dicts, two fors in one comprehension, isinstance of data, two names set at once. -/
namespace Ob
open PySem L2
open Evl (Ex)
open PySem.W (Datum Tup DatumOrd)
/-! ### keys in the order in which they came -/
section
variable {K : PySem.W.Frag} {H B B' : Hp} {v : V} {σ : L2.St} {te ta tb tc tk tv : TE} {tt tt1 tu : TT}
/-! ### what grows at D -/
structure Gw {β : Type} [Rep β] (K : PySem.W.Frag) (B1 H1 : Hp) (D : Addr) (Bi H' : Hp) (ws : List V) (out : List β) : Prop where
  nw : ∀ a, Bi a ≠ none → B1 a ≠ none ∨ H1 a = none
  bD : Bi D = none
  bh : Ex Bi H'
  hh : Ex H1 H'
  eD : H' D = some (.lst ws)
  al : AtAll K Bi ws out
theorem Gw.up {β : Type} [Rep β] {B1 H1 : Hp} {D : Addr} {Bi H' B2 H2 : Hp} {ws : List V} {out : List β} (g : Gw K B1 H1 D Bi H' ws out) (u : Up Bi H' B2 H2) : Gw K B1 H1 D B2 H2 ws out :=
  ⟨fun a ha => (u.nw a ha).elim (g.nw a) fun z => .inr (Evl.fresh_back g.hh z), (u.out g.bD g.eD).1, u.bh, g.hh.trans u.hh, (u.out g.bD g.eD).2, g.al.mono u.bb⟩
theorem Gw.push {β : Type} [Rep β] {B1 H1 : Hp} {D : Addr} {Bi H' : Hp} {ws : List V} {out : List β} {w : V} {y : β} (g : Gw K B1 H1 D Bi H' ws out) (hD : H1 D = none) (h : Rep.at_ K Bi w y) : Gw K B1 H1 D Bi (upd H' D (.lst (ws ++ [w]))) (ws ++ [w]) (out ++ [y]) :=
  ⟨g.nw, g.bD, ex_upd g.bh g.bD, Ex.mut g.hh hD, upd_same, AtAll.snoc g.al h⟩
theorem Pt.stay {b : Bool} {Q : Bool → Hp → Prop} (h : Pt tt σ B b) (e : Ex B H) (q : ∀ H2, Up B H B H2 → Q b H2) : tt σ H Q := h H e Q fun B2 H2 u => q H2 ⟨Ex.refl _, u.bb.trans u.bh, u.hh, fun _ h => .inl h⟩
theorem walk_w {J : It} {n : Nat} {G : Hp → Prop} {Y : Nat → Hp → V → Hp → Prop} (w : Walk J n G Y) {F : (Hp → Prop) → V → Hp → Prop} {H0 : Hp} {Qd : Hp → Prop} (Pv : Nat → Hp → Prop) (h0 : Pv 0 H0) (hG : ∀ i H, i ≤ n → Pv i H → G H)
    (hs : ∀ i x H H', i < n → Pv i H → Y i H x H' → F (Pv (i + 1)) x H') (hd : ∀ H, Pv n H → Qd H) :
    ∃ W : Nat → Nat → Hp → Prop, (∃ m, W 0 m H0) ∧ ∀ i m H, W i m H →
      (J.stop i H ∧ Qd H) ∨ (J.go i H ∧ ∃ Nx : Hp → Prop, (∀ H', Nx H' → ∃ m', m' < m ∧ W (i + 1) m' H') ∧ ∀ x H', J.yld i H x H' → F Nx x H') := by
  refine ⟨fun i m H => m = n - i ∧ i ≤ n ∧ Pv i H, ⟨n, by simp, Nat.zero_le _, h0⟩, ?_⟩
  rintro i m H ⟨rfl, hi, p⟩
  have q := hG i H hi p
  by_cases hlt : i < n
  · exact .inr ⟨w.goes i H hlt q, Pv (i + 1), fun H' p' => ⟨n - (i + 1), by omega, rfl, hlt, p'⟩, fun x H' y => hs i x H H' hlt p (w.yields i H x H' hlt q y)⟩
  · have e : i = n := by omega
    subst e
    exact .inl ⟨w.stops H q, hd H p⟩
end
end Ob
set_option Elab.async false
set_option linter.all false
set_option maxRecDepth 100000
set_option maxHeartbeats 4000000
/-! M2: more on sorted texts; filters by what follows; sorting a dict; names set in pairs. -/
namespace Ob
open PySem L2
open Evl (Ex)
open PySem.W (Datum Tup DatumOrd)
section
variable {K : PySem.W.Frag} {H B B' : Hp} {v : V} {σ : L2.St} {te ta tb tc tk tv : TE} {tt tt1 tu : TT}
/-! ### sorted(dict) -/
/-! ### {x: True for x in xs} -/
/-! ### two names at once -/
/-! ### isinstance of data -/
def tyD : PyData → String
  | .none => "NoneType"
  | .bool _ => "bool"
  | .int _ => "int"
  | .str _ => "str"
  | .list _ => "list"
  | .tuple _ => "tuple"
  | .dict _ => "dict"
theorem dp_ty : ∀ {d : PyData} {v : V}, Dp K H v d → TyX K H v (.type (tyD d))
  | _, _, .non => .base .non
  | _, _, .bl _ => .base (.bl _)
  | _, _, .int _ => .base (.int _)
  | _, _, .str _ => .base (.str _)
  | _, _, .lst h _ => by
    rcases h with (h | ⟨o, h⟩) | ⟨o, its, n, h1, h2, _⟩
    · exact .base (.lst h)
    · exact .base (.frz h)
    · exact .kList h1 h2
  | _, _, .tup h _ => by
    rcases h with (h | ⟨o, h⟩) | ⟨o, its, n, h1, h2, _⟩
    · exact .base (.tup h)
    · exact .fTuple h
    · exact .kTuple h1 h2
end
end Ob
set_option Elab.async false
set_option linter.all false
set_option maxRecDepth 100000
set_option maxHeartbeats 4000000
/-! M3: reading a list that still grows: frozen for the reading, thawed behind it. -/
namespace Ob
open PySem L2
open Evl (Ex)
open PySem.W (Datum Tup DatumOrd)
def cutH (B : Hp) (l : Addr) : Hp := fun a => if a = l then none else B a
theorem cutH_ne {B : Hp} {l a : Addr} (h : a ≠ l) : cutH B l a = B a := if_neg h
theorem cutH_same {B : Hp} {l : Addr} : cutH B l l = none := if_pos rfl
theorem up_cut {B H B2 H2 : Hp} {l : Addr} {o : HO} (hb : B l = none) (u : Up (upd B l o) H B2 H2) : Up B H (cutH B2 l) H2 := by
  refine ⟨fun a x h => ?_, fun a x h => ?_, u.hh, fun a h => ?_⟩
  · have ha : a ≠ l := fun z => by rw [z, hb] at h; cases h
    rw [cutH_ne ha]
    exact u.bb a x (by rw [upd_ne ha]; exact h)
  · by_cases ha : a = l
    · rw [ha, cutH_same] at h
      cases h
    · rw [cutH_ne ha] at h
      exact u.bh a x h
  · by_cases ha : a = l
    · rw [ha, cutH_same] at h
      exact absurd rfl h
    · rw [cutH_ne ha] at h
      have := u.nw a h
      rw [upd_ne ha] at this
      exact this
/-- data in which no list lies -/
class Thaw (α : Type) [Rep α] : Prop where
  thaw : ∀ {K : PySem.W.Frag} {B : Hp} {l : Addr} {ws : List V} {v : V} {x : α}, B l = some (.lst ws) → Rep.at_ K B v x → Rep.at_ K (cutH B l) v x
instance : Thaw Int := ⟨fun _ h => at_int.mpr (at_int.mp h)⟩
instance : Thaw Str := ⟨fun _ h => at_str.mpr (at_str.mp h)⟩
instance : Thaw Bool := ⟨fun _ h => at_bl.mpr (at_bl.mp h)⟩
theorem tup_thaw {B : Hp} {l : Addr} {ws : List V} {a : Addr} {vs : List V} (hl : B l = some (.lst ws)) (h : B a = some (.tup vs)) : cutH B l a = some (.tup vs) := by
  have ha : a ≠ l := fun z => by rw [z, hl] at h; cases h
  rw [cutH_ne ha]
  exact h
instance {α : Type} [DecidableEq α] [Datum α] [Thaw α] : Thaw (Tup α) := ⟨fun hl h => by
  obtain ⟨a, vs, e, h1, h2⟩ := at_tup.mp h
  exact at_tup.mpr ⟨a, vs, e, tup_thaw hl h1, Paired.mapP h2 fun _ _ q => Thaw.thaw hl q⟩⟩
instance {α β : Type} [DecidableEq α] [Datum α] [Thaw α] [DecidableEq β] [Datum β] [Thaw β] : Thaw (α × β) := ⟨fun hl h => by
  obtain ⟨a, v1, v2, e, h1, h2, h3⟩ := at_pair.mp h
  exact at_pair.mpr ⟨a, v1, v2, e, tup_thaw hl h1, Thaw.thaw hl h2, Thaw.thaw hl h3⟩⟩
section
variable {K : PySem.W.Frag} {H B B' : Hp} {v : V} {σ : L2.St} {te ta tb tc tk tv : TE} {tt tt1 tu : TT}
theorem Pe.thaw {α : Type} [Rep α] [Thaw α] {x : α} {l : Addr} {ws : List V} (h : Pe K te σ (upd B l (.lst ws)) x) (hb : B l = none) (e : Ex B H) (hl : H l = some (.lst ws)) {Q : VK}
    (q : ∀ v B2 H2, Up B H B2 H2 → B2 l = none → H2 l = some (.lst ws) → Rep.at_ K B2 v x → Q v H2) : te σ H Q :=
  h H (ex_in e hl) Q fun v B2 H2 u hv => q v (cutH B2 l) H2 (up_cut hb u) cutH_same (u.hh l _ hl) (Thaw.thaw (u.bb l _ upd_same) hv)
theorem Pt.thaw {b : Bool} {l : Addr} {o : HO} (h : Pt tt σ (upd B l o) b) (hb : B l = none) (e : Ex B H) (hl : H l = some o) {Q : Bool → Hp → Prop} (q : ∀ H2, Up B H B H2 → H2 l = some o → Q b H2) : tt σ H Q :=
  h H (ex_in e hl) Q fun B2 H2 u => q H2 ⟨Ex.refl _, e.trans u.hh, u.hh, fun _ h => .inl h⟩ (u.hh l _ hl)
theorem app_self {D : Ends} {l : Addr} {vs : List V} {α : Type} [Rep α] [Thaw α] {x : α} {i : Nat} (hi : σ[i]? = some (some (.ref l))) (hl : H l = some (.lst vs)) (hb : B l = none) (e : Ex B H) (h : Pe K te σ (upd B l (.lst vs)) x) (hz : vs.length ≤ 1000000)
    (k : ∀ v B1 H1, Up B H B1 H1 → B1 l = none → Rep.at_ K B1 v x → D.nx σ (upd H1 l (.lst (vs ++ [v])))) : tDrop (tBM K "list" rAppend (tVar i) (tCons te tNil)) D σ H :=
  ⟨_, hi, .inl ⟨rfl, vs, Evl.sq_of hl⟩, h.thaw hb e hl fun v B1 H1 u b1 h1 hv => ⟨l, vs, v, rfl, rfl, h1, Nat.lt_of_le_of_lt hz (by rw [sizeLine_eq]; decide), k v B1 H1 u b1 hv⟩⟩
theorem p_ift {b : Bool} {D : Ends} {t1 t2 : TS} {l : Addr} {o : HO} (h : Pt tt σ (upd B l o) b) (hb : B l = none) (e : Ex B H) (hl : H l = some o) (h1 : b = true → ∀ H1, Up B H B H1 → H1 l = some o → t1 D σ H1) (h2 : b = false → ∀ H1, Up B H B H1 → H1 l = some o → t2 D σ H1) : tIfS tt t1 t2 D σ H := h.thaw hb e hl fun H1 u hl1 => by
  cases b with
  | true => exact h1 rfl H1 u hl1
  | false => exact h2 rfl H1 u hl1
end
end Ob
set_option Elab.async false
set_option linter.all false
set_option maxRecDepth 100000
set_option maxHeartbeats 4000000
/-! P3: with_press, states_after, run, last_presses, left_on, touched, effect_of, is_state. -/
namespace Ob
open PySem L2
open Evl (Ex)
open PySem.W (Datum Tup DatumOrd)
/-- a small panel -/
structure PanS (p : Pan) : Prop extends PanOk p where
  s1 : p.sw.length < 60
  s2 : p.ex.length ≤ 400
/-! ### what presses do -/
theorem atI_last {α : Type} {xs : List α} {n : Nat} {x : α} (hn : xs.length = n + 1) (h : xs[n]? = some x) : atI xs (-1) = some x := by
  unfold atI ixN
  rw [if_neg (by decide), hn, if_pos (by omega)]
  show xs[((-1 : Int) + ((n + 1 : Nat) : Int)).toNat]? = some x
  rw [show ((-1 : Int) + ((n + 1 : Nat) : Int)).toNat = n by omega]
  exact h
/-! ### effects -/
abbrev Eff : Type := Tup Str × Tup Str
end Ob
set_option Elab.async false
set_option linter.all false
set_option maxRecDepth 100000
set_option maxHeartbeats 4000000
set_option Elab.async false
set_option linter.all false
set_option maxRecDepth 100000
set_option maxHeartbeats 4000000
/-! En: enumerate over a tuple, or over a list or a tuple. -/
namespace PySem
open Sem (wp)
end PySem
namespace L2
open PySem PySem.Spec PyProof.Rows
end L2
set_option Elab.async false
set_option linter.all false
set_option maxRecDepth 100000
set_option maxHeartbeats 4000000
set_option Elab.async false
set_option linter.all false
set_option maxRecDepth 100000
set_option maxHeartbeats 4000000
/-! D1: the law's box of drawn numbers: what may change it; take, of. -/
namespace Ob
open PySem L2
open Evl (Ex)
open PySem.W (Datum Tup DatumOrd)
/-- as Up, but the object at b may change -/
structure Ub (b : Addr) (B H B2 H2 : Hp) : Prop where
  bb : Ex B B2
  bh : Ex B2 H2
  hh : ∀ a u, a ≠ b → H a = some u → H2 a = some u
  nw : ∀ a, B2 a ≠ none → B a ≠ none ∨ H a = none
structure BoxAt (c : Int) (B H : Hp) (b : Addr) : Prop where
  fb : B b = none
  bx : ∃ g m k : Int, H b = some (.lst [.int g, .int m, .int k]) ∧ 0 ≤ g ∧ 0 ≤ m ∧ m < 2 ^ 62 ∧ 0 ≤ k ∧ k ≤ c
theorem BoxAt.le {c d : Int} {B H : Hp} {b : Addr} (h : BoxAt c B H b) (hd : c ≤ d) : BoxAt d B H b := by
  obtain ⟨f, g, m, k, h1, h2, h3, h4, h5, h6⟩ := h
  exact ⟨f, g, m, k, h1, h2, h3, h4, h5, Int.le_trans h6 hd⟩
theorem BoxAt.ne {c : Int} {B H : Hp} {b : Addr} (h : BoxAt c B H b) : H b ≠ none := by
  obtain ⟨f, g, m, k, h1, _⟩ := h
  rw [h1]
  exact fun z => nomatch z
theorem Up.ub {b : Addr} {B H B2 H2 : Hp} (u : Up B H B2 H2) : Ub b B H B2 H2 := ⟨u.bb, u.bh, fun a o _ h => u.hh a o h, u.nw⟩
theorem Ub.refl {b : Addr} {B H : Hp} (e : Ex B H) : Ub b B H B H := (Up.refl e).ub
theorem Up.box {c : Int} {b : Addr} {B H B2 H2 : Hp} (u : Up B H B2 H2) (x : BoxAt c B H b) : BoxAt c B2 H2 b := by
  obtain ⟨f, g, m, k, h1, h2⟩ := x
  exact ⟨(u.out f h1).1, g, m, k, (u.out f h1).2, h2⟩
theorem Ub.trans {b : Addr} {B H B1 H1 B2 H2 : Hp} (u : Ub b B H B1 H1) (hb : H1 b ≠ none) (w : Ub b B1 H1 B2 H2) : Ub b B H B2 H2 :=
  ⟨u.bb.trans w.bb, w.bh, fun a o ne h => w.hh a o ne (u.hh a o ne h), fun x h => by
    rcases w.nw x h with z | z
    · exact u.nw x z
    · cases q : H x with
      | none => exact .inr rfl
      | some o =>
        by_cases e : x = b
        · subst e
          exact absurd z hb
        · rw [u.hh x o e q] at z
          cases z⟩
theorem Ub.up {b : Addr} {B H B1 H1 B2 H2 : Hp} (u : Ub b B H B1 H1) (hb : H1 b ≠ none) (w : Up B1 H1 B2 H2) : Ub b B H B2 H2 := u.trans hb w.ub
theorem Ub.mut {b : Addr} {B H B2 H2 : Hp} (u : Ub b B H B2 H2) {o : HO} (hb : B2 b = none) : Ub b B H B2 (upd H2 b o) :=
  ⟨u.bb, ex_upd u.bh hb, fun a x ne h => by rw [upd_ne ne]; exact u.hh a x ne h, u.nw⟩
theorem Ub.fb {b : Addr} {B H B2 H2 : Hp} (u : Ub b B H B2 H2) {a : Addr} {o : HO} (hb : B a = none) (h : H a = some o) : B2 a = none := by
  cases q : B2 a with
  | none => rfl
  | some x =>
    rcases u.nw a (by rw [q]; exact fun z => nomatch z) with z | z
    · exact absurd hb z
    · rw [h] at z
      cases z
theorem Ub.out {b : Addr} {B H B2 H2 : Hp} (u : Ub b B H B2 H2) {a : Addr} {o : HO} (hb : B a = none) (h : H a = some o) (ne : a ≠ b) : B2 a = none ∧ H2 a = some o := ⟨u.fb hb h, u.hh a o ne h⟩
/-- a mutation elsewhere of what is new -/
theorem Ub.put {b : Addr} {B H B2 H2 : Hp} (u : Ub b B H B2 H2) {a : Addr} {o : HO} (hf : H a = none) (hb : B2 a = none) : Ub b B H B2 (upd H2 a o) :=
  ⟨u.bb, ex_upd u.bh hb, fun c x ne h => by
    have : c ≠ a := fun z => by rw [z, hf] at h; cases h
    rw [upd_ne this]
    exact u.hh c x ne h, u.nw⟩
/-- back to a heap in which b is new -/
theorem Ub.new {b : Addr} {B H B1 H1 B2 H2 : Hp} (u : Up B H B1 H1) (hn : H b = none) (hb : H1 b ≠ none) (w : Ub b B1 H1 B2 H2) : Up B H B2 H2 :=
  ⟨u.bb.trans w.bb, w.bh, fun a o h => by
    have ne : a ≠ b := fun z => by rw [z, hn] at h; cases h
    exact w.hh a o ne (u.hh a o h), ((Up.ub u).trans hb w).nw⟩
section
variable (K : PySem.W.Frag)
/-- a reading that draws at most n numbers from the box at b: what it gives is R -/
def Pb {α : Type} [Rep α] (b : Addr) (n : Int) (te : TE) (σ : L2.St) (B : Hp) (R : α → Prop) : Prop := ∀ H c, Ex B H → BoxAt c B H b → c + n ≤ 2 ^ 40 → ∀ Q : VK, (∀ v x B2 H2, Ub b B H B2 H2 → BoxAt (c + n) B2 H2 b → R x → Rep.at_ K B2 v x → Q v H2) → te σ H Q
def FnB1 {α β : Type} [Rep α] [Rep β] (n : Int) (pre : α → Prop) (R : α → β → Prop) : Sp := fun vs H Q _ => ∃ b B c x, Ex B H ∧ BoxAt c B H b ∧ c + n ≤ 2 ^ 40 ∧ (∃ v, vs = [.ref b, v] ∧ Rep.at_ K B v x) ∧ pre x ∧ ∀ v y B2 H2, Ub b B H B2 H2 → BoxAt (c + n) B2 H2 b → R x y → Rep.at_ K B2 v y → Q v H2
def FnB2 {α β γ : Type} [Rep α] [Rep β] [Rep γ] (n : Int) (pre : α → β → Prop) (R : α → β → γ → Prop) : Sp := fun vs H Q _ => ∃ b B c x y, Ex B H ∧ BoxAt c B H b ∧ c + n ≤ 2 ^ 40 ∧ (∃ v w, vs = [.ref b, v, w] ∧ Rep.at_ K B v x ∧ Rep.at_ K B w y) ∧ pre x y ∧ ∀ v z B2 H2, Ub b B H B2 H2 → BoxAt (c + n) B2 H2 b → R x y z → Rep.at_ K B2 v z → Q v H2
end
section
variable {K : PySem.W.Frag} {H B B' : Hp} {v : V} {σ : L2.St} {te ta tb tc tk tv : TE} {tt tt1 tu : TT} {b : Addr} {n m : Int}
section
variable {α β γ : Type} [Rep α] [Rep β] [Rep γ]
theorem FnB1.len {pre : α → Prop} {R : α → β → Prop} (vs : List V) (H : Hp) (Q : VK) (E : XK) (h : FnB1 K n pre R vs H Q E) : vs.length = 2 := by
  obtain ⟨b, B, c, x, _, _, _, ⟨v, rfl, _⟩, _⟩ := h
  rfl
theorem FnB2.len {pre : α → β → Prop} {R : α → β → γ → Prop} (vs : List V) (H : Hp) (Q : VK) (E : XK) (h : FnB2 K n pre R vs H Q E) : vs.length = 3 := by
  obtain ⟨b, B, c, x, y, _, _, _, ⟨v, w, rfl, _⟩, _⟩ := h
  rfl
theorem Pe.pb {x : α} (h : Pe K te σ B x) : Pb K b 0 te σ B (fun y => y = x) := fun H c e bx hc Q q => h H e Q fun v B2 H2 u hv => q v x B2 H2 u.ub ((u.box bx).le (by omega)) rfl hv
theorem Pb.imp {R R' : α → Prop} (h : Pb K b n te σ B R) (k : ∀ x, R x → R' x) : Pb K b n te σ B R' := fun H c e bx hc Q q => h H c e bx hc Q fun v x B2 H2 u ub r hv => q v x B2 H2 u ub (k x r) hv
theorem Pb.mono {R : α → Prop} (h : Pb K b n te σ B R) (e : Ex B B') : Pb K b n te σ B' R := fun H c a bx hc Q q => by
  have fb0 : B b = none := by
    cases z : B b with
    | none => rfl
    | some o =>
      have := e b o z
      rw [bx.fb] at this
      cases this
  have bx0 : BoxAt c B H b := ⟨fb0, bx.bx⟩
  refine h H c (e.trans a) bx0 hc Q fun v x B2 H2 u ub r hv => ?_
  have hB' : ∀ z o, B' z = some o → z ≠ b := fun z o hz w => by rw [w, bx.fb] at hz; cases hz
  refine q v x (fun a => match B2 a with | some o => some o | none => B' a) H2 ⟨fun z o hz => ?_, fun z o hz => ?_, u.hh, fun z hz => ?_⟩ ⟨?_, ub.bx⟩ r (Rep.mono (fun z o hz => ?_) hv)
  · show (match B2 z with | some o => some o | none => B' z) = some o
    cases y : B2 z with
    | none => exact hz
    | some o' =>
      have h1 := u.bh z o' y
      rw [u.hh z o (hB' z o hz) (a z o hz)] at h1
      show some o' = some o
      rw [h1]
  · have hz' : (match B2 z with | some o => some o | none => B' z) = some o := hz
    cases y : B2 z with
    | none =>
      rw [y] at hz'
      exact u.hh z o (hB' z o hz') (a z o hz')
    | some o' =>
      rw [y] at hz'
      rw [← hz']
      exact u.bh z o' y
  · have hz' : (match B2 z with | some o => some o | none => B' z) ≠ none := hz
    cases y : B2 z with
    | none =>
      rw [y] at hz'
      exact .inl hz'
    | some o' =>
      rcases u.nw z (by rw [y]; exact fun w => nomatch w) with w | w
      · refine .inl ?_
        cases zb : B z with
        | none => exact absurd zb w
        | some ob =>
          rw [e z ob zb]
          exact fun w => nomatch w
      · exact .inr w
  · show (match B2 b with | some o => some o | none => B' b) = none
    rw [ub.fb]
    exact bx.fb
  · show (match B2 z with | some o => some o | none => B' z) = some o
    rw [hz]
theorem Pb.le {R : α → Prop} (h : Pb K b n te σ B R) (hn : n ≤ m) : Pb K b m te σ B R := fun H c e bx hc Q q => h H c e bx (by omega) Q fun v x B2 H2 u ub r hv => q v x B2 H2 u (ub.le (by omega)) r hv
/-- the call of a def with the box and one argument -/
theorem b_call1 {pre : α → Prop} {R0 : α → Prop} {R : α → β → Prop} {E : XK} {i : Nat} (hi : σ[i]? = some (some (.ref b))) (h : Pb K b m te σ B R0) (hp : ∀ x, R0 x → pre x) (hn : 0 ≤ n := by decide) : Pb K b (m + n) (tCall (FnB1 K n pre R) [] E (tCons (tVar i) (tCons te tNil))) σ B (fun z => ∃ x, R0 x ∧ R x z) := fun H c e bx hc Q q =>
  ⟨_, hi, h H c e bx (by omega) _ fun v x B2 H2 u ub r hv => ⟨b, B2, c + m, x, u.bh, ub, by omega, ⟨v, rfl, hv⟩, hp x r, fun w y B3 H3 u3 ub3 r3 hw => q w y B3 H3 (u.trans ub.ne u3) (ub3.le (by omega)) ⟨x, r, r3⟩ hw⟩⟩
theorem e_callB1 {pre : α → Prop} {R : α → β → Prop} {E : XK} {i : Nat} {x : α} (hi : σ[i]? = some (some (.ref b))) (h : Pe K te σ B x) (hp : pre x) (hn : 0 ≤ n := by decide) : Pb K b n (tCall (FnB1 K n pre R) [] E (tCons (tVar i) (tCons te tNil))) σ B (R x) :=
  ((b_call1 hi h.pb (fun y hy => by rw [hy]; exact hp) hn).imp (R' := R x) fun z ⟨y, hy, r⟩ => by rw [hy] at r; exact r).le (by omega)
theorem b_call2 {pre : α → β → Prop} {R0 : α → Prop} {R : α → β → γ → Prop} {E : XK} {i : Nat} {y : β} (hi : σ[i]? = some (some (.ref b))) (h : Pb K b m te σ B R0) (h2 : Pe K tb σ B y) (hp : ∀ x, R0 x → pre x y) (hn : 0 ≤ n := by decide) : Pb K b (m + n) (tCall (FnB2 K n pre R) [] E (tCons (tVar i) (tCons te (tCons tb tNil)))) σ B (fun z => ∃ x, R0 x ∧ R x y z) := fun H c e bx hc Q q =>
  ⟨_, hi, h H c e bx (by omega) _ fun v x B2 H2 u ub r hv => (h2.mono u.bb) H2 u.bh _ fun w B3 H3 u3 hw => ⟨b, B3, c + m, x, y, u3.bh, u3.box ub, by omega, ⟨v, w, rfl, Rep.mono u3.bb hv, hw⟩, hp x r, fun w y B4 H4 u4 ub4 r4 hw4 => q w y B4 H4 ((u.up ub.ne u3).trans (u3.box ub).ne u4) (ub4.le (by omega)) ⟨x, r, r4⟩ hw4⟩⟩
theorem e_callB2 {pre : α → β → Prop} {R : α → β → γ → Prop} {E : XK} {i : Nat} {x : α} {y : β} (hi : σ[i]? = some (some (.ref b))) (h : Pe K te σ B x) (h2 : Pe K tb σ B y) (hp : pre x y) (hn : 0 ≤ n := by decide) : Pb K b n (tCall (FnB2 K n pre R) [] E (tCons (tVar i) (tCons te (tCons tb tNil)))) σ B (R x y) :=
  ((b_call2 hi h.pb h2 (fun z hz => by rw [hz]; exact hp) hn).imp (R' := R x y) fun z ⟨x', hx, r⟩ => by rw [hx] at r; exact r).le (by omega)
/-- an operation, the second reading draws -/
theorem b_op {r : R2} {x : α} {R : β → Prop} {f : β → γ} (ha : Pe K ta σ B x) (hb : Pb K b n tb σ B R) (hr : ∀ y, R y → RD K r x y (f y)) : Pb K b n (tOp r ta tb) σ B (fun z => ∃ y, R y ∧ z = f y) := fun H c e bx hc Q q =>
  ha H e _ fun v B1 H1 u1 hv => by
    -- the frozen part that the first reading made is handed on
    refine (fun (hb' : Pb K b n tb σ B1 R) => hb' H1 c u1.bh (u1.box bx) hc _ fun w y B2 H2 u2 ub r2 hw => hr y r2 B2 H2 v w u2.bh (Rep.mono u2.bb hv) hw Q fun z B3 H3 u3 hz => q z (f y) B3 H3 ((u1.ub.trans (u1.box bx).ne u2).up ub.ne u3) (u3.box ub) ⟨y, r2, rfl⟩ hz) ?_
    exact hb.mono u1.bb
/-- an operation, the first reading draws -/
theorem b_opL {r : R2} {y : β} {R : α → Prop} {f : α → γ} (ha : Pb K b n ta σ B R) (hb : Pe K tb σ B y) (hr : ∀ x, R x → RD K r x y (f x)) : Pb K b n (tOp r ta tb) σ B (fun z => ∃ x, R x ∧ z = f x) := fun H c e bx hc Q q =>
  ha H c e bx hc _ fun v x B1 H1 u1 ub r1 hv => (hb.mono u1.bb) H1 u1.bh _ fun w B2 H2 u2 hw => hr x r1 B2 H2 v w u2.bh (Rep.mono u2.bb hv) hw Q fun z B3 H3 u3 hz => q z (f x) B3 H3 (u1.up ub.ne (u2.trans u3)) ((u2.trans u3).box ub) ⟨x, r1, rfl⟩ hz
theorem p_retB {D : Ends} {c : Int} {R : α → Prop} (h : Pb K b n te σ B R) (e : Ex B H) (bx : BoxAt c B H b) (hc : c + n ≤ 2 ^ 40) (k : ∀ v x B1 H1, Ub b B H B1 H1 → BoxAt (c + n) B1 H1 b → R x → Rep.at_ K B1 v x → D.rt v H1) : tRet te D σ H := h H c e bx hc _ fun v x B1 H1 u ub r hv => k v x B1 H1 u ub r hv
end
/-! ### the box's own numbers, read and set -/
section
variable {g mm k : Int}
theorem box_ix {i : Nat} {j x : Int} (hi : σ[i]? = some (some (.ref b))) (hx : atI [g, mm, k] j = some x) : Pe K (tOp (rIxU K) (tVar i) (tC (.int j))) σ (upd B b (.lst [.int g, .int mm, .int k])) x :=
  e_ixL (α := Int) (e_var hi (at_list.mpr ⟨b, _, rfl, Evl.sq_of upd_same, ints_atAll [g, mm, k]⟩)) e_int hx
theorem q_setBox {D : Ends} {tz : TS} {xs : List V} {i : Nat} {j : Int} {jj : Nat} {α : Type} [Rep α] [Thaw α] {x : α} (hi : σ[i]? = some (some (.ref b))) (h : Pe K te σ (upd B b (.lst xs)) x) (hb : B b = none) (e : Ex B H) (hl : H b = some (.lst xs)) (hj : ixN xs.length j = some jj)
    (q : ∀ v B1 H1, Up B H B1 H1 → B1 b = none → H1 b = some (.lst xs) → Rep.at_ K B1 v x → tz D σ (upd H1 b (.lst (xs.set jj v)))) : tSeq (tAsg te (gSub (tVar i) (tC (.int j)) rSetL)) tz D σ H :=
  h.thaw hb e hl fun v B1 H1 u b1 h1 hv => ⟨_, hi, ⟨b, xs, j, jj, rfl, rfl, h1, hj, q v B1 H1 u b1 h1 hv⟩⟩
theorem q_setT {D : Ends} {tz : TS} {o : List V} {i : Nat} {α : Type} [Rep α] [Thaw α] {x : α} (h : Pe K te σ (upd B b (.lst o)) x) (hb : B b = none) (e : Ex B H) (hl : H b = some (.lst o))
    (q : ∀ v B1 H1, Up B H B1 H1 → B1 b = none → H1 b = some (.lst o) → Rep.at_ K B1 v x → tz D (σ.set i (some v)) H1) : tSeq (tAsg te (gName i)) tz D σ H :=
  h.thaw hb e hl fun v B1 H1 u b1 h1 hv => q v B1 H1 u b1 h1 hv
end
/-! ### take -/
abbrev sp_Ltake (K : PySem.W.Frag) : Sp := FnB1 K 1 (fun n : Int => 0 < n ∧ n < 1073741824) (fun n (k : Int) => 0 ≤ k ∧ k < n)
def N_Ltake : List Str := ["_law_box_here", "_law_size", "_law_value", "_law_once", "_law_twice"]
def t_Ltake (K : PySem.W.Frag) : TS :=
  (tSeq (tIfS (tTest (tOp (rGtU K) (tOp (rIxU K) (tVar 0) (tC (.int 0))) (tC (.int 0)))) (tSeq (tAsg (tOp (rI (fun _ j => 0 < j) fun i j => .int (i % j)) (tOp (rIxU K) (tVar 0) (tC (.int 0))) (tVar 1)) (gName 2))
    (tSeq (tAsg (tOp (rI CDiv fun i j => .int (i / j)) (tOp (rIxU K) (tVar 0) (tC (.int 0))) (tVar 1)) (gSub (tVar 0) (tC (.int 0)) rSetL))
    (tRet (tVar 2)))) tNext)
    (tSeq (tAsg (tOp (rAddU K) (tOp (rIxU K) (tVar 0) (tC (.int 2))) (tC (.int 1))) (gSub (tVar 0) (tC (.int 2)) rSetL))
    (tSeq (tAsg (tOp (rI (fun _ j => 0 < j) fun i j => .int (i % j)) (tOp (rMulU) (tOp (rAddU K) (tOp (rIxU K) (tVar 0) (tC (.int 1))) (tOp (rMulU) (tC (.int 39373)) (tOp (rIxU K) (tVar 0) (tC (.int 2))))) (tOp (rAddU K) (tC (.int 48271)) (tOp (rIxU K) (tVar 0) (tC (.int 2))))) (tC (.int 2147483629))) (gName 3))
    (tSeq (tAsg (tOp (rI (fun _ j => 0 < j) fun i j => .int (i % j)) (tOp (rMulU) (tOp (rAddU K) (tOp (rAddU K) (tVar 3) (tOp (rIxU K) (tVar 0) (tC (.int 2)))) (tOp (rI CDiv fun i j => .int (i / j)) (tOp (rIxU K) (tVar 0) (tC (.int 1))) (tC (.int 1000003)))) (tOp (rAddU K) (tOp (rI (fun _ j => 0 < j) fun i j => .int (i % j)) (tVar 3) (tC (.int 30011))) (tC (.int 5)))) (tC (.int 2147483587))) (gName 4))
    (tRet (tOp (rI (fun _ j => 0 < j) fun i j => .int (i % j)) (tOp (rI CDiv fun i j => .int (i / j)) (tOp (rI (fun _ j => 0 < j) fun i j => .int (i % j)) (tOp (rAddU K) (tOp (rMulU) (tVar 4) (tC (.int 39373))) (tVar 3)) (tC (.int 2147483563))) (tC (.int 32))) (tVar 1)))))))
theorem l_Ltake (vs : List V) (H : Hp) (Q : VK) (E : XK) (h : sp_Ltake K vs H Q E) : vs.length = 2 := FnB1.len vs H Q E h
theorem cmul_small {i j : Int} (h1 : 0 ≤ j) (h2 : j < 2 ^ 62) : CMul i j := .inr ⟨by omega, by omega⟩
theorem r_Ltake (vs : List V) (H : Hp) (Q : VK) (E : XK) (h : sp_Ltake K vs H Q E) : t_Ltake K (Ends.ret Q) (start N_Ltake vs) H := by
  obtain ⟨b, B, c, n, e, bx, hc, ⟨v, rfl, hv⟩, ⟨hn, hn2⟩, q⟩ := h
  cases at_int.mp hv
  obtain ⟨fb, g, mm, k, hb, g0, m0, m1, k0, k1⟩ := bx
  have hv' : ∀ B : Hp, Rep.at_ K B (.int n) n := fun B => at_int.mpr rfl
  refine p_ift (b := decide ((0 : Int) < g)) (t_test (e_gt (box_ix rfl rfl) e_int)) fb e hb (fun hg H1 u1 hb1 => ?_) (fun hg H1 u1 hb1 => ?_)
  · have g1 : 0 < g := of_decide_eq_true hg
    refine q_setT (e_modI (box_ix rfl rfl) (e_var rfl (hv' _)) hn) fb u1.bh hb1 fun w B2 H2 u2 fb2 hb2 hw => ?_
    cases at_int.mp hw
    refine q_setBox (i := 0) (jj := 0) rfl (e_divI (i := g) (j := n) (box_ix rfl rfl) (e_var rfl (hv' _)) ⟨hn, hn2⟩) fb2 u2.bh hb2 rfl fun w3 B3 H3 u3 fb3 hb3 hw3 => ?_
    cases at_int.mp hw3
    refine p_ret (K := K) (x := g % n) (e_var rfl (at_int.mpr rfl)) (ex_upd u3.bh fb3) fun w4 B4 H4 u4 hw4 => ?_
    have u : Ub b B H B3 H3 := ((u1.trans u2).trans u3).ub
    refine q w4 (g % n) B4 H4 ((u.mut fb3).up (by rw [upd_same]; exact fun z => nomatch z) u4) (u4.box ⟨fb3, g / n, mm, k, upd_same, Int.ediv_nonneg g0 (by omega), m0, m1, k0, by omega⟩) ⟨Int.emod_nonneg _ (by omega), Int.emod_lt_of_pos _ hn⟩ hw4
  · refine q_setBox (i := 0) (jj := 2) rfl (e_addI (i := k) (j := 1) (box_ix rfl rfl) e_int) fb u1.bh hb1 rfl fun w3 B3 H3 u3 fb3 hb3 hw3 => ?_
    cases at_int.mp hw3
    have u : Ub b B H B3 (upd H3 b (.lst [.int g, .int mm, .int (k + 1)])) := ((u1.trans u3).ub).mut fb3
    have e3 : Ex B3 (upd H3 b (.lst [.int g, .int mm, .int (k + 1)])) := ex_upd u3.bh fb3
    have hb3' : upd H3 b (.lst [.int g, .int mm, .int (k + 1)]) b = some (.lst [.int g, .int mm, .int (k + 1)]) := upd_same
    have bx3 : BoxAt (c + 1) B3 (upd H3 b (.lst [.int g, .int mm, .int (k + 1)])) b := ⟨fb3, g, mm, k + 1, upd_same, g0, m0, m1, by omega, by omega⟩
    generalize hH : upd H3 b (.lst [.int g, .int mm, .int (k + 1)]) = H3' at u e3 hb3' bx3
    show tSeq _ _ _ _ (upd H3 b (.lst [.int g, .int mm, .int (k + 1)]))
    rw [hH]
    refine q_setT (e_modI (e_mulI (e_addI (box_ix rfl rfl) (e_mulI e_int (box_ix rfl rfl) (cmul_small (by omega) (by omega)))) (e_addI e_int (box_ix rfl rfl)) (cmul_small (by omega) (by omega))) e_int (by decide)) fb3 e3 hb3' fun w4 B4 H4 u4 fb4 hb4 hw4 => ?_
    generalize ho : (mm + 39373 * (k + 1)) * (48271 + (k + 1)) % 2147483629 = once at hw4
    have o0 : 0 ≤ once := by rw [← ho]; exact Int.emod_nonneg _ (by decide)
    have o1 : once < 2147483629 := by rw [← ho]; exact Int.emod_lt_of_pos _ (by decide)
    cases at_int.mp hw4
    have ov : ∀ B : Hp, Rep.at_ K B (V.int once) once := fun B => at_int.mpr rfl
    refine q_setT (e_modI (e_mulI (e_addI (e_addI (e_var rfl (ov _)) (box_ix rfl rfl)) (e_divI (box_ix rfl rfl) e_int ⟨by decide, by decide⟩)) (e_addI (e_modI (e_var rfl (ov _)) e_int (by decide)) e_int) (cmul_small ?_ ?_)) e_int (by decide)) fb4 u4.bh hb4 fun w5 B5 H5 u5 fb5 hb5 hw5 => ?_
    · have := Int.emod_nonneg once (b := 30011) (by decide)
      omega
    · have := Int.emod_lt_of_pos once (b := 30011) (by decide)
      omega
    · generalize (once + (k + 1) + mm / 1000003) * (once % 30011 + 5) % 2147483587 = twice at hw5
      cases at_int.mp hw5
      refine p_ret (e_modI (e_divI (e_modI (e_addI (e_mulI (e_var rfl (at_int.mpr rfl)) e_int (cmul_small (by decide) (by decide))) (e_var rfl (ov _))) e_int (by decide)) e_int ⟨by decide, by decide⟩) (e_var rfl (hv' _)) hn) u5.bh fun w6 B6 H6 u6 hw6 => ?_
      exact q w6 _ B6 H6 (u.up bx3.ne ((u4.trans u5).trans u6)) (((u4.trans u5).trans u6).box bx3) ⟨Int.emod_nonneg _ (by omega), Int.emod_lt_of_pos _ hn⟩ hw6
end
end Ob
set_option Elab.async false
set_option linter.all false
set_option maxRecDepth 100000
set_option maxHeartbeats 4000000
/-! D2: cell_at, box, of, strewn, names. -/
namespace Ob
open PySem L2
open Evl (Ex)
open PySem.W (Datum Tup DatumOrd)
section
variable {K : PySem.W.Frag} {H B B' : Hp} {v : V} {σ : L2.St} {te ta tb tc tk tv : TE} {tt tt1 tu : TT} {b : Addr} {n m : Int}
theorem e_const {α : Type} [Rep α] {x : α} (h : Rep.at_ K B v x) : Pe K (tC v) σ B x := fun H e Q q => q v B H (Up.refl e) h
/-- an expression around a reading that draws first -/
theorem b_lift {α β : Type} [Rep α] [Rep β] {R : α → Prop} {S : β → Prop} (ctx : TE → TE) (h : Pb K b n te σ B R) (k : ∀ x, R x → ∀ v B', Ex B B' → Rep.at_ K B' v x → ∃ z, S z ∧ Pe K (ctx (tC v)) σ B' z)
    (hctx : ∀ H Q, (te σ H fun v H1 => ctx (tC v) σ H1 Q) → ctx te σ H Q := by exact fun _ _ h => h) : Pb K b n (ctx te) σ B S := fun H c e bx hc Q q => hctx H Q (h H c e bx hc _ fun v x B1 H1 u ub r hv => by
  obtain ⟨z, hz, hp⟩ := k x r v B1 u.bb hv
  exact hp H1 u.bh Q fun w B2 H2 u2 hw => q w z B2 H2 (u.up ub.ne u2) (u2.box ub) hz hw)
theorem Ub.freeze {B H B2 H2 : Hp} (u : Ub b B H B2 H2) {a : Addr} {o : HO} (h : H2 a = some o) (hf : H a = none) : Ub b B H (upd B2 a o) H2 ∧ Ex B2 (upd B2 a o) := by
  have e2 : Ex B2 (upd B2 a o) := fun c x hc => by
    by_cases hca : c = a
    · subst hca
      have := u.bh c x hc
      rw [h] at this
      rw [upd_same]
      exact this
    · rw [upd_ne hca]
      exact hc
  refine ⟨⟨u.bb.trans e2, ex_in u.bh h, u.hh, fun c hc => ?_⟩, e2⟩
  by_cases hca : c = a
  · exact .inr (hca ▸ hf)
  · rw [upd_ne hca] at hc
    exact u.nw c hc
theorem BoxAt.frz {c : Int} {a : Addr} {o : HO} (x : BoxAt c B H b) (ne : b ≠ a) : BoxAt c (upd B a o) H b := ⟨by rw [upd_ne ne]; exact x.fb, x.bx⟩
theorem BoxAt.put {c : Int} {a : Addr} {o : HO} (x : BoxAt c B H b) (ne : b ≠ a) : BoxAt c B (upd H a o) b := ⟨x.fb, by rw [upd_ne ne]; exact x.bx⟩
/-! texts, laid as a list -/
def tStrs : List Str → TA
  | [] => tNil
  | x :: xs => tCons (tC (.str x)) (tStrs xs)
theorem tStrs_at : ∀ (xs : List Str) {H : Hp} {Q : List V → Hp → Prop}, Q (xs.map V.str) H → tStrs xs σ H Q
  | [], _, _, h => h
  | x :: xs, H, Q, h => tStrs_at xs (Q := fun vs H2 => Q (V.str x :: vs) H2) h
theorem e_strs (xs : List Str) (hz : xs.length ≤ 1000) : Pe K (tLst (tStrs xs)) σ B xs := fun H e Q q => tStrs_at xs ⟨by rw [List.length_map, sizeLine_eq]; exact Nat.le_trans hz (by decide), fun p hp => q _ _ _ (Up.new e hp) (at_list.mpr ⟨p, _, rfl, Evl.sq_of upd_same, strs_atAll _⟩)⟩
def tInts : List Int → TA
  | [] => tNil
  | x :: xs => tCons (tC (.int x)) (tInts xs)
theorem tInts_at : ∀ (xs : List Int) {H : Hp} {Q : List V → Hp → Prop}, Q (xs.map V.int) H → tInts xs σ H Q
  | [], _, _, h => h
  | x :: xs, H, Q, h => tInts_at xs (Q := fun vs H2 => Q (V.int x :: vs) H2) h
theorem e_intsT (xs : List Int) (hz : xs.length ≤ 1000) : Pe K (tTup (tInts xs)) σ B (Tup.mk xs) := fun H e Q q => tInts_at xs ⟨by rw [List.length_map, sizeLine_eq]; exact Nat.le_trans hz (by decide), fun p hp => q _ _ _ (Up.new e hp) (at_tup.mpr ⟨p, _, rfl, upd_same, ints_atAll _⟩)⟩
end
section
variable {K : PySem.W.Frag}
theorem p_retI3 {ta tb tc : TE} {σ : L2.St} {B H : Hp} {D : Ends} {i j k : Int} (h1 : Pe K ta σ B i) (h2 : Pe K tb σ B j) (h3 : Pe K tc σ B k) (e : Ex B H) (q : ∀ l B1 H1, Up B H B1 H1 → H1 l = none → D.rt (.ref l) (upd H1 l (.lst [.int i, .int j, .int k]))) : tRet (tLst (tCons ta (tCons tb (tCons tc tNil)))) D σ H :=
  a_3 h1 h2 h3 H e (fun vs H1 => vs.length ≤ sizeLine ∧ ∀ p, H1 p = none → D.rt (.ref p) (upd H1 p (.lst vs))) fun vs B2 H2 u2 hvs => by
    obtain ⟨w1, _, rfl, hw1, w2, _, rfl, hw2, w3, _, rfl, hw3, rfl⟩ := hvs
    cases at_int.mp hw1
    cases at_int.mp hw2
    cases at_int.mp hw3
    exact ⟨by show 3 ≤ sizeLine; rw [sizeLine_eq]; decide, fun p hp => q p B2 H2 u2 hp⟩
/-! ### cell_at, box -/
theorem int01 (b : Bool) : 0 ≤ (if b = true then 1 else 0 : Int) ∧ (if b = true then 1 else 0 : Int) < 2 ^ 62 := by cases b <;> exact ⟨by decide, by decide⟩
theorem abs0 (x : Int) : 0 ≤ (if x < 0 then -x else x) := by split <;> omega
def cellAt (xs : List Int) (k : Int) : Int := xs[k.toNat]?.getD 0
abbrev sp_Lcell_at (K : PySem.W.Frag) : Sp := Fn2 K (fun (_ : Sq Int) (k : Int) => 0 ≤ k) fun s k => cellAt s.items k
def N_Lcell_at : List Str := ["_law_script", "_law_k"]
def t_Lcell_at (K : PySem.W.Frag) : TS :=
  (tSeq (tIfS (tTest (tOp (rLtU K) (tVar 1) (tCB (rLenU K) (tCons (tVar 0) tNil)))) (tRet (tOp (rIxU K) (tVar 0) (tVar 1))) tNext)
    (tRet (tC (.int 0))))
theorem l_Lcell_at (vs : List V) (H : Hp) (Q : VK) (E : XK) (h : sp_Lcell_at K vs H Q E) : vs.length = 2 := Fn2.len vs H Q E h
theorem r_Lcell_at (vs : List V) (H : Hp) (Q : VK) (E : XK) (h : sp_Lcell_at K vs H Q E) : t_Lcell_at K (Ends.ret Q) (start N_Lcell_at vs) H := by
  obtain ⟨s, k, B, e, ⟨v1, _, rfl, h1, v2, _, rfl, h2, rfl⟩, hk, q⟩ := h
  obtain ⟨xs⟩ := s
  refine q_if (t_test (e_lt (e_var rfl h2) (e_lenSq (e_var rfl h1)))) e (fun hb B1 H1 u1 => ?_) fun hb B1 H1 u1 => ?_
  · have hlt : k < (xs.length : Int) := of_decide_eq_true hb
    have hi : atI xs k = some (cellAt xs k) := by
      unfold atI ixN cellAt
      rw [if_pos hk, if_pos hlt]
      show xs[k.toNat]? = _
      rw [List.getElem?_eq_getElem (by omega)]
      rfl
    exact p_ret (e_ixSq (x := cellAt xs k) (e_var rfl (Rep.mono u1.bb h1)) (e_var rfl (Rep.mono u1.bb h2)) hi) u1.bh fun v B2 H2 u2 hv => q v B2 H2 (u1.trans u2) hv
  · have hlt : ¬ k < (xs.length : Int) := of_decide_eq_false hb
    have hi : (0 : Int) = cellAt xs k := by
      unfold cellAt
      rw [List.getElem?_eq_none (by omega)]
      rfl
    show tRet (tC (.int 0)) (Ends.ret Q) (start N_Lcell_at [v1, v2]) H1
    exact p_ret (x := cellAt xs k) ((e_int (i := 0)).is hi) u1.bh fun v B2 H2 u2 hv => q v B2 H2 (u1.trans u2) hv
abbrev sp_Lbox (K : PySem.W.Frag) : Sp := fun vs H Q _ => ∃ (s : Sq Int) (k : Int) (B : Hp), Ex B H ∧ RCons K s (RCons K k RNil) vs B ∧ (0 ≤ k ∧ k ≤ 1000) ∧ ∀ b B2 H2, Up B H B2 H2 → H b = none → BoxAt 0 B2 H2 b → Q (.ref b) H2
def N_Lbox : List Str := ["_law_script", "_law_k", "_law_cell"]
def t_Lbox (K : PySem.W.Frag) : TS :=
  (tSeq (tAsg (tCall (sp_Lcell_at K) [] E0 (tCons (tVar 0) (tCons (tVar 1) tNil))) (gName 2))
    (tRet (tLst (tCons (tOp (rMulU) (tCB (rAbs) (tCons (tVar 2) tNil)) (tCB (rInt1) (tCons (tOp (rGeU K) (tCB (rAbs) (tCons (tVar 2) tNil)) (tOp (rI CPow fun i j => .int (i ^ j.toNat)) (tC (.int 10)) (tC (.int 18)))) tNil))) (tCons (tOp (rAddU K) (tOp (rAddU K) (tOp (rI (fun _ j => 0 < j) fun i j => .int (i % j)) (tVar 2) (tC (.int 2305843009213693951))) (tOp (rMulU) (tC (.int 15485863)) (tVar 1))) (tC (.int 29))) (tCons (tC (.int 0)) tNil))))))
theorem l_Lbox (vs : List V) (H : Hp) (Q : VK) (E : XK) (h : sp_Lbox K vs H Q E) : vs.length = 2 := by
  obtain ⟨x, y, B, e, ⟨v, r, rfl, h1, v2, r2, rfl, h2, rfl⟩, _⟩ := h
  rfl
theorem r_Lbox (vs : List V) (H : Hp) (Q : VK) (E : XK) (h : sp_Lbox K vs H Q E) : t_Lbox K (Ends.ret Q) (start N_Lbox vs) H := by
  obtain ⟨s, k, B, e, ⟨v1, _, rfl, h1, v2, _, rfl, h2, rfl⟩, ⟨k0, k1⟩, q⟩ := h
  refine q_set (e_call2 (e_var rfl h1) (e_var rfl h2) k0) e fun v B1 H1 u1 hv => ?_
  generalize cellAt s.items k = x at hv
  have h2' := Rep.mono u1.bb h2
  have p1 : ∃ g : Int, 0 ≤ g ∧ Pe K (tOp (rMulU) (tCB (rAbs) (tCons (tVar 2) tNil)) (tCB (rInt1) (tCons (tOp (rGeU K) (tCB (rAbs) (tCons (tVar 2) tNil)) (tOp (rI CPow fun i j => .int (i ^ j.toNat)) (tC (.int 10)) (tC (.int 18)))) tNil))) [some v1, some v2, some v] B1 g := by
    have hp : Pe K (tOp (rI CPow fun i j => .int (i ^ j.toNat)) (tC (.int 10)) (tC (.int 18))) [some v1, some v2, some v] B1 ((10 : Int) ^ (18 : Int).toNat) := e_powI e_int e_int ⟨by decide, by decide, by decide⟩
    generalize (10 : Int) ^ (18 : Int).toNat = z at hp
    have hg := e_intB (e_ge (e_abs (e_var (σ := [some v1, some v2, some v]) (i := 2) rfl hv)) hp)
    exact ⟨_, Int.mul_nonneg (abs0 x) (int01 _).1, e_mulI (e_abs (e_var rfl hv)) hg (cmul_small (int01 _).1 (int01 _).2)⟩
  have p2 : ∃ m : Int, 0 ≤ m ∧ m < 2 ^ 62 ∧ Pe K (tOp (rAddU K) (tOp (rAddU K) (tOp (rI (fun _ j => 0 < j) fun i j => .int (i % j)) (tVar 2) (tC (.int 2305843009213693951))) (tOp (rMulU) (tC (.int 15485863)) (tVar 1))) (tC (.int 29))) [some v1, some v2, some v] B1 m := by
    have e1 := Int.emod_nonneg x (b := 2305843009213693951) (by decide)
    have e2 := Int.emod_lt_of_pos x (b := 2305843009213693951) (by decide)
    exact ⟨_, by omega, by omega, e_addI (e_addI (e_modI (e_var rfl hv) e_int (by decide)) (e_mulI e_int (e_var rfl h2') (cmul_small k0 (by omega)))) e_int⟩
  obtain ⟨g, g0, p1⟩ := p1
  obtain ⟨m, m0, m1, p2⟩ := p2
  refine p_retI3 p1 p2 e_int u1.bh fun l B2 H2 u2 hl => ?_
  have u := u1.trans u2
  exact q l B2 _ (u.hold hl) (Evl.fresh_back u.hh hl) ⟨Evl.fresh_back u.bh hl, g, m, 0, upd_same, g0, m0, m1, by decide, by decide⟩
/-! ### of -/
/-- of a list that may change: the very object -/
def OfV (K : PySem.W.Frag) : Sp := fun vs H Q _ => ∃ b B c a ws, vs = [V.ref b, .ref a] ∧ Ex B H ∧ BoxAt c B H b ∧ c + 1 ≤ 2 ^ 40 ∧ a ≠ b ∧ H a = some (.lst ws) ∧ ws ≠ [] ∧ ws.length ≤ 1000000 ∧ ∀ (k : Nat) w B2 H2, ws[k]? = some w → Ub b B H B2 H2 → BoxAt (c + 1) B2 H2 b → Q w H2
abbrev sp_Lof (K : PySem.W.Frag) : Sp := fun vs H Q E => (∃ (α : Type) (_ : Rep α), FnB1 K 1 (fun s : Sq α => s.items ≠ [] ∧ s.items.length ≤ 1000000) (fun s (y : α) => y ∈ s.items) vs H Q E) ∨ OfV K vs H Q E
def N_Lof : List Str := ["_law_box_here", "_law_some"]
def t_Lof (K : PySem.W.Frag) : TS :=
  (tRet (tOp (rIxU K) (tVar 1) (tCall (sp_Ltake K) [] E0 (tCons (tVar 0) (tCons (tCB (rLenU K) (tCons (tVar 1) tNil)) tNil)))))
theorem l_Lof (vs : List V) (H : Hp) (Q : VK) (E : XK) (h : sp_Lof K vs H Q E) : vs.length = 2 := by
  rcases h with ⟨α, _, h⟩ | ⟨b, B, c, a, ws, rfl, _⟩
  · exact FnB1.len vs H Q E h
  · rfl
theorem r_Lof (vs : List V) (H : Hp) (Q : VK) (E : XK) (h : sp_Lof K vs H Q E) : t_Lof K (Ends.ret Q) (start N_Lof vs) H := by
  rcases h with ⟨α, _, b, B, c, s, e, bx, hc, ⟨v, rfl, hv⟩, ⟨hn, hn2⟩, q⟩ | ⟨b, B, c, a, ws, rfl, e, bx, hc, hab, ha, hn, hn2, q⟩
  · obtain ⟨xs⟩ := s
    have hpos : 0 < xs.length := List.length_pos_iff.mpr hn
    have hn2' : xs.length ≤ 1000000 := hn2
    refine ⟨_, rfl, ?_⟩
    refine e_callB1 (b := b) rfl (e_lenSq (e_var rfl hv)) ⟨by omega, by omega⟩ (by decide) H c e bx hc _ fun w y B1 H1 u1 ub1 ⟨y0, y1⟩ hw => ?_
    have hy : xs[y.toNat]? = some (xs[y.toNat]'(by omega)) := List.getElem?_eq_getElem (by omega)
    refine e_ixSq (σ := start N_Lof [.ref b, v]) (x := xs[y.toNat]'(by omega)) (e_const (Rep.mono u1.bb hv)) (e_const hw) ?_ H1 u1.bh _ fun z B2 H2 u2 hz => ?_
    · unfold atI ixN
      rw [if_pos y0, if_pos y1]
      exact hy
    · exact q z _ B2 H2 (u1.up ub1.ne u2) (u2.box ub1) (List.getElem_mem _) hz
  · have hpos : 0 < ws.length := List.length_pos_iff.mpr hn
    refine ⟨_, rfl, _, rfl, _, rfl, .inl ⟨_, ws.length, rfl, .inl ⟨ws, Evl.sq_of ha, rfl⟩, ?_⟩⟩
    show FnB1 K 1 (fun n : Int => 0 < n ∧ n < 1073741824) (fun n (k : Int) => 0 ≤ k ∧ k < n) ([V.ref b, .int (ws.length : Int)] ++ []) H _ E0
    refine ⟨b, B, c, (ws.length : Int), e, bx, hc, ⟨_, rfl, at_int.mpr rfl⟩, ⟨by omega, by omega⟩, fun w y B1 H1 u1 ub1 hy hw => ?_⟩
    obtain ⟨y0, y1⟩ := hy
    cases at_int.mp hw
    have hx : ws[y.toNat]? = some (ws[y.toNat]'(by omega)) := List.getElem?_eq_getElem (by omega)
    refine .inl ⟨a, ws, y, ws[y.toNat]'(by omega), rfl, rfl, Evl.sq_of (u1.hh a _ hab ha), ?_, q y.toNat _ B1 H1 hx u1 ub1⟩
    show (ixN ws.length y).bind (fun j => ws[j]?) = _
    unfold ixN
    rw [if_pos y0, if_pos y1]
    exact hx
theorem e_of {σ : L2.St} {B : Hp} {te : TE} {b : Addr} {i : Nat} {E : XK} {α : Type} [Rep α] {xs : List α} (hi : σ[i]? = some (some (.ref b))) (h : Pe K te σ B (Sq.mk xs)) (hn : xs ≠ []) (hz : xs.length ≤ 1000000) : Pb K b 1 (tCall (sp_Lof K) [] E (tCons (tVar i) (tCons te tNil))) σ B (fun y => y ∈ xs) := fun H c e bx hc Q q =>
  ⟨_, hi, h H e _ fun v B2 H2 u hv => .inl ⟨α, inferInstance, b, B2, c, Sq.mk xs, u.bh, u.box bx, hc, ⟨v, rfl, hv⟩, ⟨hn, hz⟩, fun w y B3 H3 u3 ub3 r3 hw => q w y B3 H3 (u.ub.trans (u.box bx).ne u3) ub3 r3 hw⟩⟩
end
end Ob
set_option Elab.async false
set_option linter.all false
set_option maxRecDepth 100000
set_option maxHeartbeats 4000000
/-! D3: strewn, names, presses. -/
namespace Ob
open PySem L2
open Evl (Ex)
open PySem.W (Datum Tup DatumOrd)
theorem erase_perm {α : Type} : ∀ {xs : List α} {k : Nat} {x : α}, xs[k]? = some x → (x :: xs.eraseIdx k).Perm xs
  | [], _, _, h => by simp at h
  | y :: ys, 0, x, h => by
    simp at h
    subst h
    exact List.Perm.refl _
  | y :: ys, k + 1, x, h => by
    have h' : ys[k]? = some x := by simpa using h
    show (x :: y :: ys.eraseIdx k).Perm (y :: ys)
    exact (List.Perm.swap y x _).trans ((erase_perm h').cons y)
section
variable {K : PySem.W.Frag}
/-! ### strewn -/
abbrev sp_Lstrewn (K : PySem.W.Frag) : Sp := fun vs H Q E => ∃ (α : Type) (_ : DecidableEq α) (_ : Datum α), Datum.depth (List α) ≤ 64 ∧ FnB1 K 10000 (fun s : Sq α => s.items.length ≤ 10000) (fun s (ys : List α) => ys.Perm s.items) vs H Q E
def N_Lstrewn : List Str := ["_law_box_here", "_law_some", "_law_left", "_law_drawn"]
def t_Lstrewn (K : PySem.W.Frag) : TS :=
  (tSeq (tPar 2 3 (tCons (tCB (rListU K) (tCons (tVar 1) tNil)) (tCons (tLst tNil) tNil)))
    (tSeq (tWhile (tTest (tOp (rNeP K) (tVar 2) (tLst tNil))) (tDrop (tBM K "list" (rAppend) (tVar 3) (tCons (tBM K "list" (rPopAt) (tVar 2) (tCons (tCall (sp_Ltake K) [] E0 (tCons (tVar 0) (tCons (tCB (rLenU K) (tCons (tVar 2) tNil)) tNil))) tNil)) tNil))))
    (tRet (tVar 3))))
theorem l_Lstrewn (vs : List V) (H : Hp) (Q : VK) (E : XK) (h : sp_Lstrewn K vs H Q E) : vs.length = 2 := by
  obtain ⟨α, _, _, _, h⟩ := h
  exact FnB1.len vs H Q E h
structure StrI {α : Type} [DecidableEq α] [Datum α] (K : PySem.W.Frag) (b : Addr) (c : Int) (B H : Hp) (r f : Addr) (xs rest found : List α) (B' H' : Hp) : Prop where
  u : Ub b B H B' H'
  bx : BoxAt (c + found.length) B' H' b
  br : B' r = none
  bf : B' f = none
  hr : ∃ vr, H' r = some (.lst vr) ∧ AtAll K B' vr rest
  hf : ∃ vf, H' f = some (.lst vf) ∧ AtAll K B' vf found
  pm : (found ++ rest).Perm xs
theorem r_Lstrewn (vs : List V) (H : Hp) (Q : VK) (E : XK) (h : sp_Lstrewn K vs H Q E) : t_Lstrewn K (Ends.ret Q) (start N_Lstrewn vs) H := by
  obtain ⟨α, _, _, hd, b, B, c, s, e, bx, hc, ⟨v, rfl, hv⟩, hn, q⟩ := h
  obtain ⟨xs⟩ := s
  have hn' : xs.length ≤ 10000 := hn
  -- the two lists
  obtain ⟨a, vr, rfl, hs, hx⟩ := hv
  refine ⟨_, rfl, .inl ⟨a, vr, rfl, hs.imp (Evl.ex_l e) (ex_tx e), fun r hr => ?_⟩⟩
  have u1 : Up B H B (upd H r (.lst vr)) := (Up.refl e).hold hr
  have br : B r = none := Evl.fresh_back e hr
  refine ⟨Nat.zero_le _, fun f hf => ⟨.ref r, .ref f, rfl, ?_⟩⟩
  have hfH : H f = none := Evl.fresh_back u1.hh hf
  have bf : B f = none := Evl.fresh_back e hfH
  have hrf : r ≠ f := fun z => by rw [← z, upd_same] at hf; cases hf
  have hbne := bx.ne
  have rb : r ≠ b := fun z => hbne (z ▸ hr)
  have fb : f ≠ b := fun z => hbne (z ▸ hfH)
  have u2 : Up B H B (upd (upd H r (.lst vr)) f (.lst [])) := u1.hold hf
  refine ⟨fun m σ' H' => ∃ rest found B', σ' = [some (.ref b), some (.ref a), some (.ref r), some (.ref f)] ∧ m = rest.length ∧ StrI K b c B H r f xs rest found B' H',
    ⟨xs.length, xs, [], B, rfl, rfl, u2.ub, (u2.box bx).le (by simp), br, bf, ⟨vr, by rw [upd_ne hrf, upd_same], hx⟩, ⟨[], upd_same, .nil⟩, List.Perm.refl _⟩, ?_⟩
  rintro m σ' H' ⟨rest, found, B', rfl, rfl, I⟩
  obtain ⟨wr, h1r, h2r⟩ := I.hr
  obtain ⟨wf, h1f, h2f⟩ := I.hf
  have hlen : found.length + rest.length = xs.length := by
    have := I.pm.length_eq
    rw [List.length_append] at this
    exact this
  have hlist : Rep.at_ K (upd B' r (.lst wr)) (.ref r) rest := at_list.mpr ⟨r, wr, rfl, Evl.sq_of upd_same, h2r.mono (Ex.new I.br)⟩
  refine (t_test (e_ne (e_var rfl hlist) (e_lst0 (α := α)) hd)).thaw I.br I.u.bh h1r fun H2 u3 h2 => ?_
  have I2f := (u3.out I.bf h1f).2
  cases hb : (!decide (rest = [])) with
  | true =>
    rw [if_pos rfl]
    have hpos : 0 < rest.length := by
      cases rest with
      | nil => simp at hb
      | cons _ _ => exact Nat.zero_lt_succ _
    refine ⟨_, fun _ _ h => h, ?_⟩
    refine ⟨_, rfl, .inl ⟨rfl, wf, Evl.sq_of I2f⟩, ?_⟩
    refine ⟨_, rfl, .inl ⟨rfl, wr, Evl.sq_of h2⟩, ?_⟩
    refine ⟨_, rfl, _, rfl, .inl ⟨.ref r, rest.length, rfl, .inl ⟨wr, Evl.sq_of h2, h2r.length.symm⟩, ?_⟩⟩
    have bx2 : BoxAt (c + found.length) B' H2 b := u3.box I.bx
    refine ⟨b, B', c + found.length, (rest.length : Int), u3.bh, bx2, by omega, ⟨_, rfl, at_int.mpr rfl⟩, ⟨by omega, by omega⟩, fun w y B3 H3 u4 bx4 ⟨y0, y1⟩ hw => ?_⟩
    cases at_int.mp hw
    obtain ⟨b3r, h3r⟩ := u4.out I.br h2 rb
    obtain ⟨b3f, h3f⟩ := u4.out I.bf I2f fb
    have hk : rest[y.toNat]? = some (rest[y.toNat]'(by omega)) := List.getElem?_eq_getElem (by omega)
    obtain ⟨z, hz, hzx⟩ := h2r.get hk
    have hix : ixN wr.length y = some y.toNat := by
      unfold ixN
      rw [if_pos y0, if_pos (by rw [h2r.length]; exact y1)]
    refine ⟨r, wr, y, y.toNat, z, rfl, rfl, h3r, by omega, by omega, (ixN_seq hix).1, hz, ?_⟩
    refine ⟨f, wf, z, rfl, rfl, by rw [upd_ne hrf.symm]; exact h3f, ?_, ?_⟩
    · rw [h2f.length, sizeLine_eq]
      omega
    · have w1 : Ub b B H B3 H3 := (I.u.up I.bx.ne u3).trans bx2.ne u4
      refine ⟨rest.length - 1, by omega, rest.eraseIdx y.toNat, found ++ [rest[y.toNat]'(by omega)], B3, rfl, ?_, (w1.put hr b3r).put hfH b3f, ?_, b3r, b3f, ⟨_, by rw [upd_ne hrf, upd_same], (h2r.mono u4.bb).eraseIdx _⟩, ⟨_, upd_same, (h2f.mono u4.bb).snoc (Rep.mono u4.bb hzx)⟩, ?_⟩
      · rw [List.length_eraseIdx, if_pos (by omega)]
      · refine BoxAt.put (BoxAt.put (bx4.le ?_) rb.symm) fb.symm
        rw [List.length_append, List.length_singleton]
        omega
      · refine List.Perm.trans ?_ I.pm
        rw [List.append_assoc]
        exact List.Perm.append_left found (erase_perm hk)
  | false =>
    rw [if_neg (by decide)]
    have he : rest = [] := by simpa using hb
    subst he
    have w1 := I.u.up I.bx.ne u3
    have bx2 : BoxAt (c + found.length) B' H2 b := u3.box I.bx
    obtain ⟨w2, e2⟩ := w1.freeze I2f hfH
    refine ⟨_, rfl, ?_⟩
    refine q (.ref f) found _ _ w2 ((bx2.frz fb.symm).le ?_) ?_ (at_list.mpr ⟨f, wf, rfl, Evl.sq_of upd_same, h2f.mono e2⟩)
    · have : found.length + 0 = xs.length := hlen
      omega
    · have := I.pm
      rw [List.append_nil] at this
      exact this
theorem e_strewn {σ : L2.St} {B : Hp} {te : TE} {b : Addr} {i : Nat} {E : XK} {α : Type} [DecidableEq α] [Datum α] {xs : List α} (hi : σ[i]? = some (some (.ref b))) (h : Pe K te σ B (Sq.mk xs)) (hn : xs.length ≤ 10000) (hz : Datum.depth (List α) ≤ 64 := by decide) : Pb K b 10000 (tCall (sp_Lstrewn K) [] E (tCons (tVar i) (tCons te tNil))) σ B (fun ys : List α => ys.Perm xs) := fun H c e bx hc Q q =>
  ⟨_, hi, h H e _ fun v B2 H2 u hv => ⟨α, inferInstance, inferInstance, hz, b, B2, c, Sq.mk xs, u.bh, u.box bx, hc, ⟨v, rfl, hv⟩, hn, fun w y B3 H3 u3 ub3 r3 hw => q w y B3 H3 (u.ub.trans (u.box bx).ne u3) ub3 r3 hw⟩⟩
/-! ### names -/
def poolN : List Str := ["a", "b", "c", "d", "e", "ab", "ba", "abc", "fan", "fans", "lamp", "x", "zz", "zzzzzz"]
abbrev sp_Lnames (K : PySem.W.Frag) : Sp := FnB1 K 10000 (fun n : Int => 1 ≤ n ∧ n ≤ 14) (fun n (ys : List Str) => Asc ys ∧ (ys.length : Int) = n ∧ ∀ y ∈ ys, y ∈ poolN)
def N_Lnames : List Str := ["_law_box_here", "_law_size", "_law_pool"]
def t_Lnames (K : PySem.W.Frag) : TS :=
  (tSeq (tAsg (tLst (tCons (tC (.str "a")) (tCons (tC (.str "b")) (tCons (tC (.str "c")) (tCons (tC (.str "d")) (tCons (tC (.str "e")) (tCons (tC (.str "ab")) (tCons (tC (.str "ba")) (tCons (tC (.str "abc")) (tCons (tC (.str "fan")) (tCons (tC (.str "fans")) (tCons (tC (.str "lamp")) (tCons (tC (.str "x")) (tCons (tC (.str "zz")) (tCons (tC (.str "zzzzzz")) tNil))))))))))))))) (gName 2))
    (tRet (tCB (rSortU K) (tCons (tSl (rSlU K) (tCall (sp_Lstrewn K) [] E0 (tCons (tVar 0) (tCons (tVar 2) tNil))) tNoPart (tPart (tVar 1))) tNil))))
theorem l_Lnames (vs : List V) (H : Hp) (Q : VK) (E : XK) (h : sp_Lnames K vs H Q E) : vs.length = 2 := FnB1.len vs H Q E h
theorem r_Lnames (vs : List V) (H : Hp) (Q : VK) (E : XK) (h : sp_Lnames K vs H Q E) : t_Lnames K (Ends.ret Q) (start N_Lnames vs) H := by
  obtain ⟨b, B, c, n, e, bx, hc, ⟨v, rfl, hv⟩, ⟨n1, n2⟩, q⟩ := h
  refine q_set (K := K) (e_strs poolN (by decide)) e fun w B1 H1 u1 hw => ?_
  refine p_retB (b := b) (n := 10000) (c := c) (R := fun ys : List Str => Asc ys ∧ (ys.length : Int) = n ∧ ∀ y ∈ ys, y ∈ poolN) (b_lift (fun te => tCB (rSortU K) (tCons (tSl (rSlU K) te tNoPart (tPart (tVar 1))) tNil)) (e_strewn (b := b) (i := 0) (xs := poolN) rfl ((e_var rfl hw).imp sq_list) (by decide)) fun ys hp v2 B2 b2 hv2 => ?_) u1.bh (u1.box bx) hc fun v3 x B3 H3 u3 ub r3 hv3 => q v3 x B3 H3 (u1.ub.trans (u1.box bx).ne u3) ub r3 hv3
  have hlen : ys.length = 14 := hp.length_eq
  have hnd : ys.Nodup := hp.nodup_iff.mpr (by decide)
  refine ⟨sortD (ys.take n.toNat), ⟨sortD_asc (hnd.sublist (List.take_sublist _ _)), ?_, fun y hy => hp.mem_iff.mp (List.mem_of_mem_take (mem_sortD.mp hy))⟩, e_sortSq ((((e_slL (e_const hv2) o_none (o_some (e_var rfl (Rep.mono (u1.bb.trans b2) hv))))).is ?_).imp sq_list) (sortable_str _)⟩
  · rw [sortD_len, List.length_take]
    omega
  · rw [show n = ((n.toNat : Nat) : Int) by omega, cutA_to]
    rfl
end
end Ob
set_option Elab.async false
set_option linter.all false
set_option maxRecDepth 100000
set_option maxHeartbeats 4000000
/-! Rr: a list that is read (frozen or not) times 0 or 1. -/
namespace L2
open PySem PySem.Spec PyProof.Rows
end L2
namespace Ob
open PySem L2
open Evl (Ex)
open PySem.W (Datum Tup DatumOrd)
/-- a dict from texts to lists of texts, each list tracked -/
structure TabR where
  kvs : List (Str × List Str)
def TabRAt (H : Hp) (ks : List (Key × V)) (d : List (Str × List Str)) : Prop := Paired (fun (p : Key × V) (q : Str × List Str) => p.1 = .inr q.1 ∧ ∃ l, p.2 = .ref l ∧ Rd H l (.lst (q.2.map V.str))) ks d
instance : Rep TabR := ⟨fun K H v d => ∃ a ks, v = .ref a ∧ Rd H a (.dK ks) ∧ ks.length ≤ 1000000 ∧ TabRAt H ks d.kvs,
  fun e ⟨a, ks, h1, h2, hz, h3⟩ => ⟨a, ks, h1, e.1 a _ rfl h2, hz, Paired.mapP h3 fun _ _ ⟨h, l, h4, h5⟩ => ⟨h, l, h4, e.1 l _ rfl h5⟩⟩⟩
end Ob
set_option Elab.async false
set_option linter.all false
set_option maxRecDepth 100000
set_option maxHeartbeats 4000000
/-! D4w: the wired family's table of rivals. -/
namespace Ob
open PySem L2
open Evl (Ex)
open PySem.W (Datum Tup DatumOrd)
section
variable {K : PySem.W.Frag} {H B B' : Hp} {v : V} {σ : L2.St} {te ta tb tc tk tv : TE} {tt tt1 tu : TT} {b : Addr} {n m : Int}
theorem rd_eq {α : Type} [DecidableEq α] [Datum α] {x y : α} (hz : Datum.depth α ≤ 64 := by decide) : RD K (rEqP K) x y (decide (x = y)) :=
  rd_val (.bl (decide (x = y))) (fun _ => at_bl.mpr rfl) fun B H v w e h1 h2 Q q => ⟨_, _, dp_mono e _ _ h1, dp_mono e _ _ h2, Datum.plain x, Datum.plain y, Nat.le_trans (Datum.depth_le x) hz, by rw [Datum.eqv]; exact q⟩
theorem rd_addI {i j : Int} : RD K (rAddU K) i j (i + j) := rd_val (.int (i + j)) (fun _ => at_int.mpr rfl) fun B H v w e h1 h2 Q q => .inl ⟨i, j, at_int.mp h1, at_int.mp h2, q⟩
/-- a comprehension whose item draws -/
theorem b_lcR {γ β : Type} [Rep γ] [DecidableEq β] [Datum β] {wi : TI} {g : TG} {vs : List Nat} {xs : List γ} {S : β → Prop} (h : ItD K wi σ B xs) (hz : xs.length ≤ 1000000) (hn : 0 ≤ n)
    (ht : ∀ x ∈ xs, ∀ v B1, Ex B B1 → Rep.at_ K B1 v x → ∃ σ2, (∀ H (Q : L2.St → Hp → Prop), Ex B1 H → Q σ2 H → g v (wipe σ vs) H Q) ∧ wipe σ2 vs = wipe σ vs ∧ Pb K b n te σ2 B1 S) :
    Pb K b (n * xs.length) (tLc wi g tYes te vs) σ B (fun ys : List β => ys.length = xs.length ∧ ∀ y ∈ ys, S y) := fun H c e bx hc Q q =>
  h H e _ fun J B1 H1 G Y up W hG hY D hD => by
    have hDH : H D = none := Evl.fresh_back up.hh hD
    have hDB : B1 D = none := Evl.fresh_back up.bh hD
    have bx1 := up.box bx
    have hne : b ≠ D := fun z => bx1.ne (z ▸ hD)
    have hmul : ∀ i : Nat, i ≤ xs.length → n * (i : Int) ≤ n * (xs.length : Int) := fun i hi => Int.mul_le_mul_of_nonneg_left (by omega) hn
    refine walk_w W (fun i H' => ∃ Bi ws out, Ex B1 Bi ∧ Ub b B1 H1 Bi H' ∧ BoxAt (c + n * (i : Int)) Bi H' b ∧ Bi D = none ∧ H' D = some (.lst ws) ∧ AtAll K Bi ws out ∧ out.length = i ∧ ∀ y ∈ out, S y)
      ⟨B1, [], [], Ex.refl _, (Ub.refl up.bh).put hD hDB, (bx1.put hne).le (by simp), hDB, upd_same, .nil, rfl, fun _ h => (by cases h)⟩ (fun i H' _ p => ?_) (fun i x Hx H' hi p hy => ?_) (fun H' p => ?_)
    · obtain ⟨Bi, ws, out, b1, u, _⟩ := p
      exact hG H' (b1.trans u.bh)
    · obtain ⟨Bi, ws, out, b1, u, ubi, bD, eD, hA, ho, hS⟩ := p
      obtain ⟨d, hd, hB⟩ := hY i x Hx H' hi (b1.trans u.bh) hy
      obtain ⟨B2, u2, hx⟩ := hB Bi b1 u.bh
      obtain ⟨o1, o2⟩ := u2.out bD eD
      obtain ⟨σ2, hg, hw, hte⟩ := ht d (mem_of_get hd) x B2 ((up.bb.trans b1).trans u2.bb) hx
      refine hg H' _ u2.bh ⟨hw, ?_⟩
      have hi1 := hmul (i + 1) hi
      have e1 : n * ((i + 1 : Nat) : Int) = n * (i : Int) + n := by
        rw [show ((i + 1 : Nat) : Int) = (i : Int) + 1 by omega, Int.mul_add, Int.mul_one]
      refine hte H' (c + n * (i : Int)) u2.bh (u2.box ubi) (by omega) _ fun w y B3 H3 u3 ub3 r3 hw3 => ⟨ws, (u3.out o1 o2 hne.symm).2, ?_, B3, ws ++ [w], out ++ [y], (b1.trans u2.bb).trans u3.bb, ?_, ?_, (u3.out o1 o2 hne.symm).1, upd_same, ?_, ?_, ?_⟩
      · rw [hA.length, ho, sizeLine_eq]
        omega
      · exact ((u.up ubi.ne u2).trans (u2.box ubi).ne u3).put hD (u3.out o1 o2 hne.symm).1
      · exact (ub3.le (by omega)).put hne
      · exact (hA.mono (u2.bb.trans u3.bb)).snoc hw3
      · rw [List.length_append, List.length_singleton, ho]
      · intro z hz
        rcases List.mem_append.mp hz with hz | hz
        · exact hS z hz
        · rw [List.mem_singleton] at hz
          rw [hz]
          exact r3
    · obtain ⟨Bi, ws, out, b1, u, ubi, bD, eD, hA, ho, hS⟩ := p
      obtain ⟨u4, e4⟩ := (up.ub.trans bx1.ne u).freeze eD hDH
      exact q (.ref D) out _ H' u4 (ubi.frz hne) ⟨ho, hS⟩ (at_list.mpr ⟨D, ws, rfl, Evl.sq_of upd_same, hA.mono e4⟩)
end
section
variable {K : PySem.W.Frag}
theorem rangeI_len (lo : Int) (n : Nat) : (rangeI lo n).length = n := by simp [rangeI]
/-! ### the law's table of rivals -/
end
end Ob
set_option Elab.async false
set_option linter.all false
set_option maxRecDepth 100000
set_option maxHeartbeats 4000000
/-! M5: states stay states; more exclusions, fewer on. Plain Lean. -/
set_option Elab.async false
set_option linter.all false
set_option maxRecDepth 100000
set_option maxHeartbeats 4000000
/-! D5w: the wired family: what D5 holds without the law's state. -/
namespace Ob
open PySem L2
open Evl (Ex)
open PySem.W (Datum Tup DatumOrd)
section
variable {K : PySem.W.Frag}
structure PanG (m : Int) (p : Pan) : Prop where
  asc : Asc p.sw
  ne : p.sw ≠ []
  len : (p.sw.length : Int) ≤ m
  ex : ∀ e ∈ p.ex, (e.1 ∈ p.sw ∧ e.2 ∈ p.sw) ∧ ltS e.1 e.2 = true
  so : sortD p.ex = p.ex
  el : p.ex.length ≤ 300
  xn : p.ex.Nodup
  nm : ∀ x ∈ p.sw, x ∈ poolN
end
end Ob
set_option Elab.async false
set_option linter.all false
set_option maxRecDepth 100000
set_option maxHeartbeats 4000000
/-! M4: the order of pairs of texts; least and greatest of two; neighbours in a list. -/
namespace Ob
open PySem L2
open PySem.W (Datum Tup DatumOrd)
abbrev SS : Type := Str × Str
def ltP (p q : SS) : Bool := if p.1 = q.1 then ltS p.2 q.2 else ltS p.1 q.1
theorem ltP_irr (p : SS) : ltP p p = false := by
  unfold ltP
  rw [if_pos rfl, ltS_irr]
theorem ltP_tr {p q r : SS} (h : ltP p q = true) (k : ltP q r = true) : ltP p r = true := by
  unfold ltP at *
  by_cases e1 : p.1 = q.1
  · rw [if_pos e1] at h
    by_cases e2 : q.1 = r.1
    · rw [if_pos e2] at k
      rw [if_pos (e1.trans e2)]
      exact ltS_tr h k
    · rw [if_neg e2] at k
      rw [if_neg (fun z => e2 (e1.symm.trans z)), e1]
      exact k
  · rw [if_neg e1] at h
    by_cases e2 : q.1 = r.1
    · rw [if_pos e2] at k
      rw [← e2, if_neg e1]
      exact h
    · rw [if_neg e2] at k
      have h3 := ltS_tr h k
      by_cases e3 : p.1 = r.1
      · rw [e3, ltS_irr] at h3
        cases h3
      · rw [if_neg e3]
        exact h3
theorem ltP_tri (p q : SS) : ltP p q = true ∨ p = q ∨ ltP q p = true := by
  unfold ltP
  by_cases e : p.1 = q.1
  · rw [if_pos e, if_pos e.symm]
    rcases ltS_tri p.2 q.2 with h | h | h
    · exact .inl h
    · exact .inr (.inl (Prod.ext e h))
    · exact .inr (.inr h)
  · rw [if_neg e, if_neg (fun z => e z.symm)]
    rcases ltS_tri p.1 q.1 with h | h | h
    · exact .inl h
    · exact absurd h e
    · exact .inr (.inr h)
theorem ltP_asy {x y : SS} (h : ltP x y = true) : ltP y x = false := by
  cases k : ltP y x with
  | false => rfl
  | true =>
    have := ltP_tr h k
    rw [ltP_irr] at this
    cases this
def leP (x y : SS) : Bool := !ltP y x
theorem leP_total (x y : SS) : (leP x y || leP y x) = true := by
  unfold leP
  rcases ltP_tri x y with h | h | h
  · rw [ltP_asy h]; rfl
  · rw [h, ltP_irr]; rfl
  · rw [ltP_asy h]; simp
theorem leP_trans (x y z : SS) (h : leP x y = true) (k : leP y z = true) : leP x z = true := by
  unfold leP at *
  simp only [Bool.not_eq_true'] at *
  rcases ltP_tri z x with a | a | a
  · rcases ltP_tri y z with b | b | b
    · rw [ltP_tr b a] at h; cases h
    · rw [b] at h; rw [h] at a; cases a
    · rw [b] at k; cases k
  · rw [a]; exact ltP_irr _
  · exact ltP_asy a
theorem leP_anti {x y : SS} (h : leP x y = true) (k : leP y x = true) : x = y := by
  unfold leP at *
  simp only [Bool.not_eq_true'] at *
  rcases ltP_tri x y with a | a | a
  · rw [a] at k; cases k
  · exact a
  · rw [a] at h; cases h
theorem sortP_sorted (xs : List SS) : (sortD xs).Pairwise fun x y => leP x y = true := List.pairwise_mergeSort leP_trans leP_total xs
theorem perm_sortP {xs ys : List SS} (h : xs.Perm ys) : sortD xs = sortD ys :=
  ((sortD_perm xs).trans (h.trans (sortD_perm ys).symm)).eq_of_pairwise (fun x y _ _ h k => leP_anti h k) (sortP_sorted xs) (sortP_sorted ys)
theorem sortP_idem (xs : List SS) : sortD (sortD xs) = sortD xs := perm_sortP (sortD_perm xs)
theorem min_max {x y : Str} (h : x ≠ y) : ltS (minS x y) (maxS x y) = true ∧ (minS x y = x ∧ maxS x y = y ∨ minS x y = y ∧ maxS x y = x) := by
  unfold minS maxS
  rcases ltS_tri x y with a | a | a
  · rw [ltS_asy a, a]
    exact ⟨a, .inl ⟨rfl, rfl⟩⟩
  · exact absurd a h
  · rw [ltS_asy a, a]
    exact ⟨a, .inr ⟨rfl, rfl⟩⟩
end Ob
set_option Elab.async false
set_option linter.all false
set_option maxRecDepth 100000
set_option maxHeartbeats 4000000
/-! M6: the pairs of a path, a ring, a star: no pair twice. Plain Lean. -/
namespace Ob
open PySem L2
open PySem.W (Datum Tup DatumOrd)
def mm (x y : Str) : SS := (minS x y, maxS x y)
theorem mm_inj {x y a b : Str} (h1 : x ≠ y) (h2 : a ≠ b) (h : mm x y = mm a b) : (x = a ∧ y = b) ∨ (x = b ∧ y = a) := by
  have e1 : minS x y = minS a b := congrArg Prod.fst h
  have e2 : maxS x y = maxS a b := congrArg Prod.snd h
  obtain ⟨_, k1⟩ := min_max h1
  obtain ⟨_, k2⟩ := min_max h2
  rcases k1 with ⟨p1, p2⟩ | ⟨p1, p2⟩
  · rcases k2 with ⟨q1, q2⟩ | ⟨q1, q2⟩
    · exact .inl ⟨by rw [← p1, e1, q1], by rw [← p2, e2, q2]⟩
    · exact .inr ⟨by rw [← p1, e1, q1], by rw [← p2, e2, q2]⟩
  · rcases k2 with ⟨q1, q2⟩ | ⟨q1, q2⟩
    · exact .inr ⟨by rw [← p2, e2, q2], by rw [← p1, e1, q1]⟩
    · exact .inl ⟨by rw [← p2, e2, q2], by rw [← p1, e1, q1]⟩
theorem map_nd {α β : Type} {f : α → β} {xs : List α} (nd : xs.Nodup) (hi : ∀ x ∈ xs, ∀ y ∈ xs, f x = f y → x = y) : (xs.map f).Nodup := by
  induction xs with
  | nil => exact .nil
  | cons x xs ih =>
    rw [List.nodup_cons] at nd
    rw [List.map_cons, List.nodup_cons]
    refine ⟨fun h => ?_, ih nd.2 fun a ha b hb => hi a (List.mem_cons_of_mem _ ha) b (List.mem_cons_of_mem _ hb)⟩
    obtain ⟨y, hy, e⟩ := List.mem_map.mp h
    have := hi y (List.mem_cons_of_mem _ hy) x List.mem_cons_self e
    exact nd.1 (this ▸ hy)
theorem nd_idx {α : Type} {xs : List α} (nd : xs.Nodup) {i j : Nat} {x : α} (h1 : xs[i]? = some x) (h2 : xs[j]? = some x) : i = j := by
  obtain ⟨l1, e1⟩ := List.getElem?_eq_some_iff.mp h1
  obtain ⟨l2, e2⟩ := List.getElem?_eq_some_iff.mp h2
  exact (List.getElem_inj (h₀ := l1) (h₁ := l2) nd).mp (by rw [e1, e2])
theorem star_nd {os : List Str} (nd : os.Nodup) {o : Str} (h : ∀ z ∈ os, o ≠ z) : (os.map fun z => mm o z).Nodup := by
  refine map_nd nd fun x hx y hy e => ?_
  rcases mm_inj (h x hx) (h y hy) e with ⟨_, b⟩ | ⟨a, b⟩
  · exact b
  · exact absurd a (h y hy)
end Ob
set_option Elab.async false
set_option linter.all false
set_option maxRecDepth 100000
set_option maxHeartbeats 4000000
/-! D6w: the wired family: what D6 holds without the law's panel. -/
namespace Ob
open PySem L2
open Evl (Ex)
open PySem.W (Datum Tup DatumOrd)
section
variable {K : PySem.W.Frag} {H B B' : Hp} {v : V} {σ : L2.St} {te ta tb tc tk tv : TE} {tt tt1 tu : TT} {b : Addr} {n m : Int}
/-- a comprehension whose list stays open -/
theorem lcU {γ β : Type} [Rep γ] [DecidableEq β] [Datum β] {wi : TI} {g : TG} {vs : List Nat} {xs : List γ} {Q : VK} (f : γ → Bool) (y : γ → β) (h : ItD K wi σ B xs) (e : Ex B H) (hz : xs.length ≤ 1000000)
    (ht : ∀ x ∈ xs, ∀ v B1, Ex B B1 → Rep.at_ K B1 v x → TurnD K g tt te vs σ B1 v (f x) (y x))
    (q : ∀ D ws B1 H1, Up B H B1 H1 → B1 D = none → H D = none → H1 D = some (.lst ws) → AtAll K B1 ws ((xs.filter f).map y) → Q (.ref D) H1) : tLc wi g tt te vs σ H Q :=
  h H e _ fun J B1 H1 G Y up W hG hY D hD => by
    have hDH : H D = none := Evl.fresh_back up.hh hD
    have hDB : B1 D = none := Evl.fresh_back up.bh hD
    refine walk_w W (fun i H' => ∃ Bi ws, Ex B1 Bi ∧ Gw K B1 H1 D Bi H' ws (((xs.take i).filter f).map y))
      ⟨B1, [], Ex.refl _, fun _ h => .inl h, hDB, ex_upd up.bh hDB, Ex.new hD, upd_same, .nil⟩ (fun i H' _ p => ?_) (fun i x Hx H' hi p hy => ?_) (fun H' p => ?_)
    · obtain ⟨Bi, ws, b1, gw⟩ := p
      exact hG H' (b1.trans gw.bh)
    · obtain ⟨Bi, ws, b1, gw⟩ := p
      obtain ⟨d, hd, hB⟩ := hY i x Hx H' hi (b1.trans gw.bh) hy
      obtain ⟨B2, u2, hx⟩ := hB Bi b1 gw.bh
      have gw2 := gw.up u2
      obtain ⟨σ2, hg, hw, htt, hte⟩ := ht d (mem_of_get hd) x B2 ((up.bb.trans b1).trans u2.bb) hx
      refine hg H' _ u2.bh ⟨hw, htt.stay u2.bh fun H3 u3 => ?_⟩
      have gw3 := gw2.up u3
      cases hf : f d with
      | false =>
        refine ⟨B2, ws, b1.trans u2.bb, ?_⟩
        rw [take_snoc hd, List.filter_append, List.map_append, List.filter_cons, if_neg (by rw [hf]; decide)]
        show Gw K B1 H1 D B2 H3 ws (_ ++ [])
        rw [List.append_nil]
        exact gw3
      | true =>
        rw [hf] at hte
        refine (hte rfl) H3 gw3.bh _ fun w B4 H4 u4 hw4 => ⟨ws, (gw3.up u4).eD, ?_, B4, ws ++ [w], (b1.trans u2.bb).trans u4.bb, ?_⟩
        · have h1 := gw.al.length
          rw [List.length_map] at h1
          have h2 := List.length_filter_le f (xs.take i)
          have h3 := List.length_take_le i xs
          have : (sizeLine : Nat) = 16777216 := sizeLine_eq
          omega
        · rw [take_snoc hd, List.filter_append, List.map_append, List.filter_cons, if_pos hf]
          exact (gw3.up u4).push hD hw4
    · obtain ⟨Bi, ws, b1, gw⟩ := p
      have hA := gw.al
      rw [List.take_length] at hA
      refine q D ws Bi H' ⟨up.bb.trans b1, gw.bh, up.hh.trans gw.hh, fun a ha => ?_⟩ gw.bD hDH gw.eD hA
      rcases gw.nw a ha with z | z
      · exact up.nw a z
      · exact .inr (Evl.fresh_back up.hh z)
theorem rd_addL {α : Type} [DecidableEq α] [Datum α] {xs ys : List α} (hz : xs.length + ys.length ≤ 1000000) : RD K (rAddU K) xs ys (xs ++ ys) := fun B H v w e h1 h2 Q q => by
  obtain ⟨a, vs, rfl, hs, hx⟩ := at_list.mp h1
  obtain ⟨b, ws, rfl, hs2, hy⟩ := at_list.mp h2
  refine .inr (.inr (.inl ⟨a, b, vs, ws, rfl, rfl, Evl.ex_l e hs, Evl.ex_l e hs2, ?_, fun p hp => ?_⟩))
  · rw [hx.length, hy.length]
    exact Nat.le_trans hz (by rw [sizeLine_eq]; decide)
  · have u := Up.new (o := .lst (vs ++ ws)) e hp
    exact q _ _ _ u (at_list.mpr ⟨p, _, rfl, Evl.sq_of upd_same, (hx.append hy).mono u.bb⟩)
end
theorem good_mm {ns : List Str} {x y : Str} (hx : x ∈ ns) (hy : y ∈ ns) (h : x ≠ y) : (minS x y ∈ ns ∧ maxS x y ∈ ns) ∧ ltS (minS x y) (maxS x y) = true := by
  obtain ⟨h1, h2⟩ := min_max h
  refine ⟨?_, h1⟩
  rcases h2 with ⟨e1, e2⟩ | ⟨e1, e2⟩
  · rw [e1, e2]; exact ⟨hx, hy⟩
  · rw [e1, e2]; exact ⟨hy, hx⟩
section
variable {K : PySem.W.Frag}
theorem atI_nat {α : Type} {xs : List α} {k : Int} {x : α} (k0 : 0 ≤ k) (h : xs[k.toNat]? = some x) : atI xs k = some x := by
  obtain ⟨l, _⟩ := List.getElem?_eq_some_iff.mp h
  unfold atI ixN
  rw [if_pos k0, if_pos (by omega)]
  exact h
end
end Ob
set_option Elab.async false
set_option linter.all false
set_option maxRecDepth 100000
set_option maxHeartbeats 4000000
/-! D7: what the laws' last defs need: pairs unpacked, two draws at once, tuples joined, all() over the boxes. -/
namespace Ob
open PySem L2
open Evl (Ex)
open PySem.W (Datum Tup DatumOrd)
section
variable {K : PySem.W.Frag} {H B B' : Hp} {v : V} {σ : L2.St} {te ta tb tc tk tv : TE} {tt tt1 tu : TT} {b : Addr} {n m : Int}
/-- _law_right: it holds -/
def RightP (K : PySem.W.Frag) : Sp := fun vs H Q _ => ∃ b B, vs = [.ref b] ∧ Ex B H ∧ BoxAt 0 B H b ∧ ∀ B2 H2, Ub b B H B2 H2 → Q (.bl true) H2
theorem RightP.len (vs : List V) (H : Hp) (Q : VK) (E : XK) (h : RightP K vs H Q E) : vs.length = 1 := by
  obtain ⟨b, B, rfl, _⟩ := h
  rfl
theorem e_right {s : Sq Int} {k : Int} {E E' : XK} (h1 : Pe K ta σ B s) (h2 : Pe K tb σ B k) (k0 : 0 ≤ k) (k1 : k ≤ 1000) : Pe K (tCall (RightP K) [] E (tCons (tCall (sp_Lbox K) [] E' (tCons ta (tCons tb tNil))) tNil)) σ B true := fun H e Q q =>
  a_2 h1 h2 H e (fun vs H1 => sp_Lbox K (vs ++ []) H1 (fun v H2 => RightP K ([v] ++ []) H2 Q E) E') fun vs B1 H1 u hv => by
    rw [List.append_nil]
    exact ⟨s, k, B1, u.bh, hv, ⟨k0, k1⟩, fun b B2 H2 u2 hn bx => ⟨b, B2, rfl, u2.bh, bx, fun B3 H3 u3 => q _ B3 H3 (u.trans (Ub.new u2 hn bx.ne u3)) (at_bl.mpr rfl)⟩⟩
/-- all([_law_right(_law_box(script, k)) for k in range(1 + min(j, len(script)))]) -/
theorem e_law {s : Sq Int} {j : Int} {i0 i1 : Nat} {vs : List Nat} {E E' : XK} {vsc : V} (hi : σ[i0]? = some (some vsc)) (hs : Rep.at_ K B vsc s) (j0 : 0 ≤ j) (j1 : j ≤ 100)
    (hset : ∀ w, ((wipe σ vs).set i1 (some w))[i0]? = some (some vsc) ∧ ((wipe σ vs).set i1 (some w))[i1]? = some (some w) ∧ wipe ((wipe σ vs).set i1 (some w)) vs = wipe σ vs) :
    Pe K (tCB (rAll K) (tCons (tLc (iRng1 (tCons (tOp (rAddU K) (tC (.int 1)) (tCB (rMinU) (tCons (tC (.int j)) (tCons (tCB (rLenU K) (tCons (tVar i0) tNil)) tNil)))) tNil)) (gName i1) tYes (tCall (RightP K) [] E (tCons (tCall (sp_Lbox K) [] E' (tCons (tVar i0) (tCons (tVar i1) tNil))) tNil)) vs) tNil)) σ B true := by
  have hm : 0 ≤ (if (s.items.length : Int) < j then (s.items.length : Int) else j) ∧ (if (s.items.length : Int) < j then (s.items.length : Int) else j) ≤ j := by split <;> omega
  refine (e_all (e_lc (fun _ => true) (fun _ : Int => true) (it_rng1 (e_addI e_int (e_minI e_int (e_lenSq (e_var hi hs)))) (by omega) (by omega)) (by rw [rangeI_len]; omega) fun k hk w B1 b1 hw => turn_name rfl (hset w).2.2 t_yes fun _ => ?_)).is ?_
  · obtain ⟨z, hz, rfl⟩ := List.mem_map.mp hk
    rw [List.mem_range] at hz
    exact e_right (e_var (hset w).1 (Rep.mono b1 hs)) (e_var (hset w).2.1 hw) (by omega) (by omega)
  · rw [all_map_id]
    simp
end
section
variable {K : PySem.W.Frag}
/-- the law, of its script -/
abbrev sp_law (K : PySem.W.Frag) : Sp := Fn1 K (fun _ : Sq Int => True) fun _ => true
theorem l_law (vs : List V) (H : Hp) (Q : VK) (E : XK) (h : sp_law K vs H Q E) : vs.length = 1 := Fn1.len vs H Q E h
abbrev sp_Lright (K : PySem.W.Frag) : Sp := RightP K
theorem l_Lright (vs : List V) (H : Hp) (Q : VK) (E : XK) (h : sp_Lright K vs H Q E) : vs.length = 1 := RightP.len vs H Q E h
def N_law : List Str := ["_law_script", "_law_k"]
def t_law (K : PySem.W.Frag) : TS :=
  (tRet (tCB (rAll K) (tCons (tLc (iRng1 (tCons (tOp (rAddU K) (tC (.int 1)) (tCB (rMinU) (tCons (tC (.int 2)) (tCons (tCB (rLenU K) (tCons (tVar 0) tNil)) tNil)))) tNil)) (gName 1) tYes (tCall (sp_Lright K) [] E0 (tCons (tCall (sp_Lbox K) [] E0 (tCons (tVar 0) (tCons (tVar 1) tNil))) tNil)) [1]) tNil)))
theorem r_law (vs : List V) (H : Hp) (Q : VK) (E : XK) (h : sp_law K vs H Q E) : t_law K (Ends.ret Q) (start N_law vs) H := by
  obtain ⟨s, B, e, ⟨v, _, rfl, h1, rfl⟩, _, q⟩ := h
  exact p_ret (e_law (s := s) rfl h1 (by decide) (by decide) (fun w => ⟨rfl, rfl, rfl⟩)) e q
end
end Ob
set_option Elab.async false
set_option linter.all false
set_option maxRecDepth 100000
set_option maxHeartbeats 4000000
/-! S1: the state as one record: slots by what they hold, objects that may change, what stood at the start. -/
namespace Ob
open PySem L2
open Evl (Ex)
open PySem.W (Datum Tup DatumOrd)
/-! ### slots -/
structure Cell where
  α : Type
  inst : Rep α
  x : α
abbrev ce {α : Type} [r : Rep α] (x : α) : Option Cell := some ⟨α, r, x⟩
abbrev ca (l : Addr) : Option Cell := ce (Any.mk (.ref l))
def At1 (K : PySem.W.Frag) (B : Hp) (o : Option V) (c : Option Cell) : Prop := ∀ d, c = some d → ∃ v, o = some v ∧ @Rep.at_ d.α d.inst K B v d.x
inductive Slots (K : PySem.W.Frag) (B : Hp) : L2.St → List (Option Cell) → Prop where
  | nil : Slots K B [] []
  | cons {o : Option V} {c : Option Cell} {σ : L2.St} {Γ : List (Option Cell)} (a : At1 K B o c) (t : Slots K B σ Γ) : Slots K B (o :: σ) (c :: Γ)
def cg : List (Option Cell) → Nat → Option Cell
  | [], _ => none
  | c :: _, 0 => c
  | _ :: Γ, n + 1 => cg Γ n
def cs : List (Option Cell) → Nat → Option Cell → List (Option Cell)
  | [], _, _ => []
  | _ :: Γ, 0, c => c :: Γ
  | d :: Γ, n + 1, c => d :: cs Γ n c
def cw (Γ : List (Option Cell)) : List Nat → List (Option Cell)
  | [] => Γ
  | v :: vs => cs (cw Γ vs) v none
section
variable {K : PySem.W.Frag} {B B' H : Hp} {σ : L2.St} {Γ : List (Option Cell)} {te ta tb tc tk tv : TE} {tt tu : TT}
theorem At1.none {o : Option V} : At1 K B o none := fun _ h => by cases h
theorem At1.some {α : Type} [r : Rep α] {v : V} {x : α} (h : Rep.at_ K B v x) : At1 K B (some v) (ce x) := fun d e => by
  cases e
  exact ⟨v, rfl, h⟩
theorem Slots.mono (s : Slots K B σ Γ) (e : Ex B B') : Slots K B' σ Γ := by
  induction s with
  | nil => exact .nil
  | cons h t ih => exact .cons (fun d hd => by
      obtain ⟨v, h1, h2⟩ := h d hd
      exact ⟨v, h1, @Rep.mono d.α d.inst _ _ _ _ _ e h2⟩) ih
theorem Slots.get : ∀ {σ : L2.St} {Γ : List (Option Cell)}, Slots K B σ Γ → ∀ {i : Nat} {d : Cell}, cg Γ i = some d → ∃ v, σ[i]? = some (some v) ∧ @Rep.at_ d.α d.inst K B v d.x
  | _, _, .nil, _, _, h => by cases h
  | _, _, .cons a t, 0, d, h => by
    obtain ⟨v, h1, h2⟩ := a d h
    exact ⟨v, by rw [h1]; rfl, h2⟩
  | _, _, .cons a t, n + 1, d, h => by
    obtain ⟨v, h1, h2⟩ := Slots.get t (i := n) h
    exact ⟨v, by simpa using h1, h2⟩
theorem Slots.put : ∀ {σ : L2.St} {Γ : List (Option Cell)}, Slots K B σ Γ → ∀ (i : Nat) {o : Option V} {c : Option Cell}, At1 K B o c → Slots K B (σ.set i o) (cs Γ i c)
  | _, _, .nil, _, _, _, _ => .nil
  | _, _, .cons a t, 0, _, _, h => .cons h t
  | _, _, .cons a t, n + 1, _, _, h => .cons a (Slots.put t n h)
theorem Slots.set {α : Type} [r : Rep α] (s : Slots K B σ Γ) (i : Nat) {v : V} {x : α} (h : Rep.at_ K B v x) : Slots K B (σ.set i (some v)) (cs Γ i (ce x)) := s.put i (At1.some h)
theorem Slots.wipe (s : Slots K B σ Γ) : ∀ vs : List Nat, Slots K B (wipe σ vs) (cw Γ vs)
  | [] => s
  | v :: vs => (Slots.wipe s vs).put v At1.none
theorem Slots.wiped : ∀ (vs : List Nat) {σ : L2.St} {Γ : List (Option Cell)}, Slots K B σ Γ → Slots K B σ (cw Γ vs)
  | [], _, _, s => s
  | v :: vs, σ, Γ, s => by
    have h := Slots.wiped vs s
    have key : ∀ {σ : L2.St} {Γ : List (Option Cell)}, Slots K B σ Γ → ∀ i, Slots K B σ (cs Γ i none) := by
      intro σ Γ s
      induction s with
      | nil => intro i; exact .nil
      | cons a t ih =>
        intro i
        cases i with
        | zero => exact .cons At1.none t
        | succ n => exact .cons a (ih n)
    exact key h v
/-- the slot i, read -/
theorem Slots.v {α : Type} [r : Rep α] {x : α} (s : Slots K B σ Γ) (i : Nat) (h : cg Γ i = ce x) : Pe K (tVar i) σ B x := by
  obtain ⟨v, h1, h2⟩ := s.get h
  exact e_var h1 h2
theorem Slots.rf {l : Addr} (s : Slots K B σ Γ) (i : Nat) (h : cg Γ i = ca l) : σ[i]? = some (some (.ref l)) := by
  obtain ⟨v, h1, h2⟩ := s.get h
  have : v = .ref l := h2
  rw [h1, this]
theorem set_none_comm {σ : L2.St} {i : Nat} : ∀ {vs : List Nat}, i ∈ vs → ∀ o, L2.wipe (σ.set i o) vs = L2.wipe σ vs
  | v :: vs, h, o => by
    unfold L2.wipe
    by_cases hi : i ∈ vs
    · rw [set_none_comm hi o]
    · have hv : i = v := (List.mem_cons.mp h).resolve_right hi
      subst hv
      have key : ∀ {vs : List Nat}, i ∉ vs → L2.wipe (σ.set i o) vs = (L2.wipe σ vs).set i o := by
        intro vs
        induction vs with
        | nil => intro _; rfl
        | cons w ws ih =>
          intro hn
          rw [List.mem_cons, not_or] at hn
          unfold L2.wipe
          rw [ih hn.2, List.set_comm _ _ (fun z => hn.1 z)]
      rw [key hi, List.set_set]
theorem wipe_wipe {σ : L2.St} {vs : List Nat} : L2.wipe (L2.wipe σ vs) vs = L2.wipe σ vs := by
  have key : ∀ ws : List Nat, (∀ w ∈ ws, w ∈ vs) → L2.wipe (L2.wipe σ ws) vs = L2.wipe σ vs := by
    intro ws
    induction ws with
    | nil => intro _; rfl
    | cons w ws ih =>
      intro h
      show L2.wipe ((L2.wipe σ ws).set w none) vs = _
      rw [set_none_comm (h w List.mem_cons_self)]
      exact ih fun z hz => h z (List.mem_cons_of_mem _ hz)
  exact key vs fun _ h => h
/-! ### comprehensions by slots -/
section
variable {β γ : Type} [DecidableEq β] [Datum β] [Rep γ] {wi : TI} {xs : List γ} {j : Nat}
theorem Slots.turn (s : Slots K B σ Γ) {v : V} {x : γ} (h : Rep.at_ K B v x) : Slots K B ((L2.wipe σ [j]).set j (some v)) (cs (cw Γ [j]) j (ce x)) := (s.wipe [j]).set j h
theorem Slots.lc (s : Slots K B σ Γ) (f : γ → Bool) (y : γ → β) (h : ItD K wi σ B xs) (hz : xs.length ≤ 1000000)
    (ht : ∀ x ∈ xs, ∀ σ2 B1, Ex B B1 → Slots K B1 σ2 (cs (cw Γ [j]) j (ce x)) → Pt tt σ2 B1 (f x) ∧ (f x = true → Pe K te σ2 B1 (y x))) : Pe K (tLc wi (gName j) tt te [j]) σ B ((xs.filter f).map y) :=
  e_lc f y h hz fun x hx v B1 b1 hv => by
    obtain ⟨h1, h2⟩ := ht x hx _ B1 b1 ((s.mono b1).turn hv)
    exact turn_name rfl (by rw [set_none_comm (List.mem_singleton.mpr rfl), wipe_wipe]) h1 h2
/-- without a test -/
theorem Slots.lcA (s : Slots K B σ Γ) (y : γ → β) (h : ItD K wi σ B xs) (hz : xs.length ≤ 1000000)
    (ht : ∀ x ∈ xs, ∀ σ2 B1, Ex B B1 → Slots K B1 σ2 (cs (cw Γ [j]) j (ce x)) → Pe K te σ2 B1 (y x)) : Pe K (tLc wi (gName j) tYes te [j]) σ B (xs.map y) :=
  (s.lc (fun _ => true) y h hz fun x hx σ2 B1 b1 s2 => ⟨t_yes, fun _ => ht x hx σ2 B1 b1 s2⟩).is (by rw [List.filter_eq_self.mpr fun _ _ => rfl])
end
section
variable {β : Type} [DecidableEq β] [Datum β] {wi : TI} {xs : List β} {j : Nat}
/-- the items themselves, by a test -/
theorem Slots.lcF (s : Slots K B σ Γ) (f : β → Bool) (h : ItD K wi σ B xs) (hz : xs.length ≤ 1000000)
    (ht : ∀ x ∈ xs, ∀ σ2 B1, Ex B B1 → Slots K B1 σ2 (cs (cw Γ [j]) j (ce x)) → Pt tt σ2 B1 (f x) ∧ cg (cs (cw Γ [j]) j (ce x)) j = ce x) : Pe K (tLc wi (gName j) tt (tVar j) [j]) σ B (xs.filter f) :=
  (s.lc f (fun x => x) h hz fun x hx σ2 B1 b1 s2 => ⟨(ht x hx σ2 B1 b1 s2).1, fun _ => s2.v j (ht x hx σ2 B1 b1 s2).2⟩).is (List.map_id' _)
end
section
variable {α β γ : Type} [DecidableEq α] [Datum α] [DecidableEq β] [Datum β] [DecidableEq γ] [Datum γ] {wi : TI} {xs : List (α × γ)} {i j : Nat}
/-- the target two names, the items pairs -/
theorem Slots.lc2 (s : Slots K B σ Γ) (f : α × γ → Bool) (y : α × γ → β) (h : ItD K wi σ B xs) (hz : xs.length ≤ 1000000)
    (ht : ∀ x ∈ xs, ∀ σ2 B1, Ex B B1 → Slots K B1 σ2 (cs (cs (cw Γ [i, j]) i (ce x.1)) j (ce x.2)) → Pt tt σ2 B1 (f x) ∧ (f x = true → Pe K te σ2 B1 (y x))) : Pe K (tLc wi (gUnp K 2 (gCons (gName i) (gCons (gName j) gNil))) tt te [i, j]) σ B ((xs.filter f).map y) :=
  e_lc f y h hz fun x hx v B1 b1 hv => turn_pairU hv fun v1 v2 k1 k2 => by
    obtain ⟨h1, h2⟩ := ht x hx _ B1 b1 ((((s.mono b1).wipe [i, j]).set i k1).set j k2)
    exact ⟨by rw [set_none_comm (by simp), set_none_comm (by simp), wipe_wipe], h1, h2⟩
end
end
/-! ### objects that may change -/
structure OC where
  l : Addr
  P : Hp → HO → Prop
  mono : ∀ {B B' : Hp} {o : HO}, Ex B B' → P B o → P B' o
def lstC (K : PySem.W.Frag) (l : Addr) {α : Type} [Rep α] (xs : List α) : OC := ⟨l, fun B o => ∃ vs, o = .lst vs ∧ AtAll K B vs xs, fun e ⟨vs, h1, h2⟩ => ⟨vs, h1, h2.mono e⟩⟩
def boxC (b : Addr) (c : Int) : OC := ⟨b, fun _ o => ∃ g m k : Int, o = .lst [.int g, .int m, .int k] ∧ 0 ≤ g ∧ 0 ≤ m ∧ m < 2 ^ 62 ∧ 0 ≤ k ∧ k ≤ c, fun _ h => h⟩
structure St (K : PySem.W.Frag) (W0 : List Addr) (B0 H0 : Hp) (os : List OC) (Γ : List (Option Cell)) (σ : L2.St) (B H : Hp) : Prop where
  bb : Ex B0 B
  bh : Ex B H
  hh : ∀ a u, a ∉ W0 → H0 a = some u → H a = some u
  dm : ∀ a, H0 a ≠ none → H a ≠ none
  nw : ∀ a, B a ≠ none → B0 a ≠ none ∨ H0 a = none
  own : ∀ o ∈ os, B o.l = none ∧ (o.l ∈ W0 ∨ H0 o.l = none) ∧ ∃ ob, H o.l = some ob ∧ o.P B ob
  nd : (os.map (·.l)).Nodup
  sl : Slots K B σ Γ
section
variable {K : PySem.W.Frag} {W0 : List Addr} {B0 H0 : Hp} {os : List OC} {Γ : List (Option Cell)} {σ : L2.St} {B H B1 H1 : Hp} {te ta tb tc tk tv : TE} {tt : TT} {D : Ends} {tu tw tz : TS}
theorem St.up (s : St K W0 B0 H0 os Γ σ B H) (u : Up B H B1 H1) : St K W0 B0 H0 os Γ σ B1 H1 where
  bb := s.bb.trans u.bb
  bh := u.bh
  hh a x h h0 := u.hh a x (s.hh a x h h0)
  dm a h := by
    cases q : H a with
    | none => exact absurd q (s.dm a h)
    | some o =>
      rw [u.hh a o q]
      exact fun z => nomatch z
  nw a h := by
    rcases u.nw a h with z | z
    · exact s.nw a z
    · cases q : H0 a with
      | none => exact .inr rfl
      | some o => exact absurd z (s.dm a (by rw [q]; exact fun z => nomatch z))
  own o ho := by
    obtain ⟨h1, h2, ob, h3, h4⟩ := s.own o ho
    exact ⟨(u.out h1 h3).1, h2, ob, (u.out h1 h3).2, o.mono u.bb h4⟩
  nd := s.nd
  sl := s.sl.mono u.bb
theorem St.slot (s : St K W0 B0 H0 os Γ σ B H) {σ' : L2.St} {Γ' : List (Option Cell)} (h : Slots K B σ' Γ') : St K W0 B0 H0 os Γ' σ' B H := ⟨s.bb, s.bh, s.hh, s.dm, s.nw, s.own, s.nd, h⟩
theorem St.fg (s : St K W0 B0 H0 os Γ σ B H) (vs : List Nat) : St K W0 B0 H0 os (cw Γ vs) σ B H := s.slot (s.sl.wiped vs)
theorem St.put (s : St K W0 B0 H0 os Γ σ B H) {α : Type} [Rep α] (i : Nat) {v : V} {x : α} (h : Rep.at_ K B v x) : St K W0 B0 H0 os (cs Γ i (ce x)) (σ.set i (some v)) B H := s.slot (s.sl.set i h)
/-- the slot i, read -/
theorem St.v (s : St K W0 B0 H0 os Γ σ B H) {α : Type} [r : Rep α] {x : α} (i : Nat) (h : cg Γ i = ce x) : Pe K (tVar i) σ B x := s.sl.v i h
/-- a turn's own record, joined with that from the start -/
theorem St.comp (s : St K W0 B0 H0 os Γ σ B H) {os' : List OC} {Γ' : List (Option Cell)} {σ' : L2.St} (w : St K (os.map (·.l)) B H os' Γ' σ' B1 H1) : St K W0 B0 H0 os' Γ' σ' B1 H1 where
  bb := s.bb.trans w.bb
  bh := w.bh
  hh a x h h0 := by
    refine w.hh a x (fun hm => ?_) (s.hh a x h h0)
    obtain ⟨o, ho, rfl⟩ := List.mem_map.mp hm
    rcases (s.own o ho).2.1 with z | z
    · exact h z
    · rw [z] at h0
      cases h0
  dm a h := w.dm a (s.dm a h)
  nw a h := by
    rcases w.nw a h with z | z
    · exact s.nw a z
    · cases q : H0 a with
      | none => exact .inr rfl
      | some o => exact absurd z (s.dm a (by rw [q]; exact fun z => nomatch z))
  own o ho := by
    obtain ⟨h1, h2, h3⟩ := w.own o ho
    refine ⟨h1, ?_, h3⟩
    rcases h2 with z | z
    · obtain ⟨o', ho', e⟩ := List.mem_map.mp z
      have := (s.own o' ho').2.1
      rw [e] at this
      exact this
    · cases q : H0 o.l with
      | none => exact .inr rfl
      | some x => exact absurd z (s.dm _ (by rw [q]; exact fun z => nomatch z))
  nd := w.nd
  sl := w.sl
/-- a turn's own record, at its start -/
theorem St.here (s : St K W0 B0 H0 os Γ σ B H) : St K (os.map (·.l)) B H os Γ σ B H where
  bb := Ex.refl B
  bh := s.bh
  hh _ _ _ h := h
  dm _ h := h
  nw _ h := .inl h
  own o ho := ⟨(s.own o ho).1, .inl (List.mem_map.mpr ⟨o, ho, rfl⟩), (s.own o ho).2.2⟩
  nd := s.nd
  sl := s.sl
theorem St.toUp (s : St K [] B0 H0 os Γ σ B H) : Up B0 H0 B H := ⟨s.bb, s.bh, fun a u h => s.hh a u (by simp) h, s.nw⟩
theorem St.toUb {b : Addr} (s : St K [b] B0 H0 os Γ σ B H) : Ub b B0 H0 B H := ⟨s.bb, s.bh, fun a u ne h => s.hh a u (by simpa using ne) h, s.nw⟩
theorem St.box {b : Addr} {c : Int} (s : St K W0 B0 H0 (boxC b c :: os) Γ σ B H) : BoxAt c B H b := by
  obtain ⟨h1, _, ob, h3, g, m, k, rfl, h4⟩ := s.own _ List.mem_cons_self
  exact ⟨h1, g, m, k, h3, h4⟩
theorem boxC_of {b : Addr} {c : Int} (x : BoxAt c B H b) : B b = none ∧ ∃ ob, H b = some ob ∧ (boxC b c).P B ob := by
  obtain ⟨f, g, m, k, h1, h2⟩ := x
  exact ⟨f, _, h1, g, m, k, rfl, h2⟩
/-- behind a draw -/
theorem St.ub {b : Addr} {c d : Int} (s : St K W0 B0 H0 (boxC b c :: os) Γ σ B H) (u : Ub b B H B1 H1) (x : BoxAt d B1 H1 b) : St K W0 B0 H0 (boxC b d :: os) Γ σ B1 H1 := by
  have hb := s.own _ List.mem_cons_self
  have hH : H b ≠ none := s.box.ne
  refine ⟨s.bb.trans u.bb, u.bh, fun a w h h0 => ?_, fun a h => ?_, fun a h => ?_, fun o ho => ?_, s.nd, s.sl.mono u.bb⟩
  · refine u.hh a w (fun z => ?_) (s.hh a w h h0)
    subst z
    rcases hb.2.1 with z | z
    · exact h z
    · have z' : H0 a = none := z
      rw [z'] at h0
      cases h0
  · by_cases e : a = b
    · rw [e]
      exact x.ne
    · cases q : H a with
      | none => exact absurd q (s.dm a h)
      | some o =>
        rw [u.hh a o e q]
        exact fun z => nomatch z
  · rcases u.nw a h with z | z
    · exact s.nw a z
    · cases q : H0 a with
      | none => exact .inr rfl
      | some o => exact absurd z (s.dm a (by rw [q]; exact fun z => nomatch z))
  · rcases List.mem_cons.mp ho with rfl | ho
    · obtain ⟨h1, h2⟩ := boxC_of x
      exact ⟨h1, hb.2.1, h2⟩
    · obtain ⟨h1, h2, ob, h3, h4⟩ := s.own o (List.mem_cons_of_mem _ ho)
      have ne : o.l ≠ b := fun z => by
        have := s.nd
        rw [List.map_cons, List.nodup_cons] at this
        exact this.1 (List.mem_map.mpr ⟨o, ho, z⟩)
      exact ⟨(u.out h1 h3 ne).1, h2, ob, (u.out h1 h3 ne).2, o.mono u.bb h4⟩
theorem St.le {b : Addr} {c d : Int} (s : St K W0 B0 H0 (boxC b c :: os) Γ σ B H) (h : c ≤ d) : St K W0 B0 H0 (boxC b d :: os) Γ σ B H := s.ub (Ub.refl s.bh) (s.box.le h)
/-- a new object that may change -/
theorem St.add (s : St K W0 B0 H0 os Γ σ B H) {p : Addr} {ob : HO} (hp : H p = none) (o : OC) (ho : o.l = p) (hP : o.P B ob) : St K W0 B0 H0 (os ++ [o]) Γ σ B (upd H p ob) := by
  have hB : B p = none := Evl.fresh_back s.bh hp
  have h0 : H0 p = none := by
    cases q : H0 p with
    | none => rfl
    | some x => exact absurd hp (s.dm p (by rw [q]; exact fun z => nomatch z))
  refine ⟨s.bb, ex_upd s.bh hB, fun a u h hu => ?_, fun a h => ?_, s.nw, fun o' ho' => ?_, ?_, s.sl⟩
  · have ne : a ≠ p := fun z => by rw [z, h0] at hu; cases hu
    rw [upd_ne ne]
    exact s.hh a u h hu
  · by_cases e : a = p
    · rw [e, upd_same]
      exact fun z => nomatch z
    · rw [upd_ne e]
      exact s.dm a h
  · rcases List.mem_append.mp ho' with h | h
    · obtain ⟨h1, h2, x, h3, h4⟩ := s.own o' h
      have ne : o'.l ≠ p := fun z => by rw [z, hp] at h3; cases h3
      exact ⟨h1, h2, x, by rw [upd_ne ne]; exact h3, h4⟩
    · rw [List.mem_singleton.mp h, ho]
      exact ⟨hB, .inr h0, ob, upd_same, hP⟩
  · rw [List.map_append, List.nodup_append]
    refine ⟨s.nd, by simp, fun a ha c hc e => ?_⟩
    obtain ⟨o', h, rfl⟩ := List.mem_map.mp ha
    have : c = p := by
      have : c = o.l := List.mem_singleton.mp hc
      rw [this, ho]
    obtain ⟨_, _, x, h3, _⟩ := s.own o' h
    rw [e, this, hp] at h3
    cases h3
theorem set_mem {os : List OC} : ∀ {k : Nat} {o x : OC}, os[k]? = some o → ∀ y, y ∈ os.set k x → y = x ∨ (y ∈ os ∧ ((os.map (·.l)).Nodup → y.l ≠ o.l)) := by
  induction os with
  | nil => intro k o x h; simp at h
  | cons w os ih =>
    intro k o x h y hy
    cases k with
    | zero =>
      simp at h
      subst h
      rcases List.mem_cons.mp hy with e | e
      · exact .inl e
      · refine .inr ⟨List.mem_cons_of_mem _ e, fun nd z => ?_⟩
        rw [List.map_cons, List.nodup_cons] at nd
        exact nd.1 (List.mem_map.mpr ⟨y, e, z⟩)
    | succ k =>
      have h' : os[k]? = some o := by simpa using h
      rcases List.mem_cons.mp hy with e | e
      · refine .inr ⟨by rw [e]; exact List.mem_cons_self, fun nd z => ?_⟩
        rw [List.map_cons, List.nodup_cons] at nd
        rw [e] at z
        exact nd.1 (List.mem_map.mpr ⟨o, List.mem_of_getElem? h', z.symm⟩)
      · rcases ih (x := x) h' y e with r | ⟨r1, r2⟩
        · exact .inl r
        · refine .inr ⟨List.mem_cons_of_mem _ r1, fun nd => ?_⟩
          rw [List.map_cons, List.nodup_cons] at nd
          exact r2 nd.2
/-- the object k is changed -/
theorem St.chg (s : St K W0 B0 H0 os Γ σ B H) {k : Nat} {o o' : OC} {ob : HO} (h : os[k]? = some o) (hl : o'.l = o.l) (hP : o'.P B ob) : St K W0 B0 H0 (os.set k o') Γ σ B (upd H o.l ob) := by
  obtain ⟨h1, h2, x, h3, h4⟩ := s.own o (List.mem_of_getElem? h)
  refine ⟨s.bb, ex_upd s.bh h1, fun a u ha hu => ?_, fun a ha => ?_, s.nw, fun y hy => ?_, ?_, s.sl⟩
  · have ne : a ≠ o.l := fun z => by
      rcases h2 with w | w
      · exact ha (z ▸ w)
      · rw [z, w] at hu; cases hu
    rw [upd_ne ne]
    exact s.hh a u ha hu
  · by_cases e : a = o.l
    · rw [e, upd_same]
      exact fun z => nomatch z
    · rw [upd_ne e]
      exact s.dm a ha
  · rcases set_mem h y hy with e | ⟨e, ne⟩
    · rw [e, hl]
      exact ⟨h1, h2, ob, upd_same, hP⟩
    · obtain ⟨g1, g2, w, g3, g4⟩ := s.own y e
      exact ⟨g1, g2, w, by rw [upd_ne (ne s.nd)]; exact g3, g4⟩
  · have e : (os.set k o').map (·.l) = os.map (·.l) := by
      rw [List.map_set, hl]
      refine List.ext_getElem? fun i => ?_
      rw [List.getElem?_set]
      split
      · next e =>
        subst e
        rw [List.getElem?_map, h]
        split
        · rfl
        · next z => exact absurd (by rw [List.length_map]; exact (List.getElem?_eq_some_iff.mp h).1) z
      · rfl
    rw [e]
    exact s.nd
/-! ### the start of a def -/
theorem start_slots : ∀ (vs : List V) (cs : List (Option Cell)) (n : Nat), Slots K B (vs.map some) cs → Slots K B (vs.map some ++ List.replicate n none) (cs ++ List.replicate n none)
  | [], [], n, .nil => by
    show Slots K B (List.replicate n none) (List.replicate n none)
    induction n with
    | zero => exact .nil
    | succ n ih => exact .cons At1.none ih
  | _ :: vs, _ :: cs, n, .cons a t => .cons a (start_slots vs cs n t)
theorem St.pure (e : Ex B H) (s : Slots K B σ Γ) : St K [] B H [] Γ σ B H := ⟨Ex.refl B, e, fun _ _ _ h => h, fun _ h => h, fun _ h => .inl h, fun _ h => (by cases h), List.nodup_nil, s⟩
theorem St.draw {b : Addr} {c : Int} (e : Ex B H) (x : BoxAt c B H b) (s : Slots K B σ Γ) : St K [b] B H [boxC b c] Γ σ B H :=
  ⟨Ex.refl B, e, fun _ _ _ h => h, fun _ h => h, fun _ h => .inl h, fun o ho => by
    rw [List.mem_singleton.mp ho]
    obtain ⟨h1, h2⟩ := boxC_of x
    exact ⟨h1, .inl (by simp [boxC]), h2⟩, by simp, s⟩
section
variable {α β γ δ : Type} [Rep α] [Rep β] [Rep γ] [Rep δ]
/-! ### statements -/
theorem St.set {i : Nat} {x : α} (s : St K W0 B0 H0 os Γ σ B H) (h : Pe K te σ B x) (k : ∀ σ1 B1 H1, St K W0 B0 H0 os (cs Γ i (ce x)) σ1 B1 H1 → tz D σ1 H1) : tSeq (tAsg te (gName i)) tz D σ H :=
  h H s.bh _ fun v B1 H1 u hv => k _ B1 H1 ((s.up u).put i hv)
theorem St.setL {i : Nat} {x : α} (s : St K W0 B0 H0 os Γ σ B H) (h : Pe K te σ B x) (k : ∀ σ1 B1 H1, St K W0 B0 H0 os (cs Γ i (ce x)) σ1 B1 H1 → D.nx σ1 H1) : tAsg te (gName i) D σ H :=
  h H s.bh _ fun v B1 H1 u hv => k _ B1 H1 ((s.up u).put i hv)
theorem St.setB {b : Addr} {c n : Int} {R : α → Prop} {i : Nat} (s : St K W0 B0 H0 (boxC b c :: os) Γ σ B H) (h : Pb K b n te σ B R) (hc : c + n ≤ 2 ^ 40) (k : ∀ x, R x → ∀ σ1 B1 H1, St K W0 B0 H0 (boxC b (c + n) :: os) (cs Γ i (ce x)) σ1 B1 H1 → tz D σ1 H1) : tSeq (tAsg te (gName i)) tz D σ H :=
  h H c s.bh s.box hc _ fun v x B1 H1 u ub r hv => k x r _ B1 H1 ((s.ub u ub).put i hv)
theorem St.parB {b : Addr} {c n m : Int} {R1 : α → Prop} {R2 : β → Prop} {i j : Nat} (s : St K W0 B0 H0 (boxC b c :: os) Γ σ B H) (h1 : Pb K b n ta σ B R1) (h2 : Pb K b m tb σ B R2) (hm : 0 ≤ m) (hc : c + n + m ≤ 2 ^ 40)
    (k : ∀ x y, R1 x → R2 y → ∀ σ1 B1 H1, St K W0 B0 H0 (boxC b (c + n + m) :: os) (cs (cs Γ i (ce x)) j (ce y)) σ1 B1 H1 → tz D σ1 H1) : tSeq (tPar i j (tCons ta (tCons tb tNil))) tz D σ H :=
  h1 H c s.bh s.box (by omega) _ fun v x B1 H1 u1 ub1 r1 hv => (h2.mono u1.bb) H1 (c + n) u1.bh ub1 hc _ fun w y B2 H2 u2 ub2 r2 hw =>
    ⟨v, w, rfl, k x y r1 r2 _ B2 H2 ((((s.ub u1 ub1).ub u2 ub2).put i (Rep.mono u2.bb hv)).put j hw)⟩
/-- (a, b) unpacked, each of the two may draw -/
theorem St.unpB {b : Addr} {c n m : Int} {R1 : α → Prop} {R2 : β → Prop} {i j : Nat} (s : St K W0 B0 H0 (boxC b c :: os) Γ σ B H) (h1 : Pb K b n ta σ B R1) (h2 : Pb K b m tb σ B R2) (hm : 0 ≤ m) (hc : c + n + m ≤ 2 ^ 40)
    (k : ∀ x y, R1 x → R2 y → ∀ σ1 B1 H1, St K W0 B0 H0 (boxC b (c + n + m) :: os) (cs (cs Γ i (ce x)) j (ce y)) σ1 B1 H1 → tz D σ1 H1) : tSeq (tAsg (tTup (tCons ta (tCons tb tNil))) (gUnp K 2 (gCons (gName i) (gCons (gName j) gNil)))) tz D σ H :=
  h1 H c s.bh s.box (by omega) _ fun v x B1 H1 u1 ub1 r1 hv => (h2.mono u1.bb) H1 (c + n) u1.bh ub1 hc _ fun w y B2 H2 u2 ub2 r2 hw =>
    ⟨by show 2 ≤ sizeLine; rw [sizeLine_eq]; decide, fun t ht => .inl ⟨t, [v, w], rfl, Evl.st_of upd_same, rfl, _, _, rfl, _, _, rfl, rfl, by
      have w3 := Up.new (o := .tup [v, w]) u2.bh ht
      exact k x y r1 r2 _ _ _ (((((s.ub u1 ub1).ub u2 ub2).up w3).put i (Rep.mono (u2.bb.trans w3.bb) hv)).put j (Rep.mono w3.bb hw))⟩⟩
theorem St.unp {i j : Nat} {x : α} {y : β} (s : St K W0 B0 H0 os Γ σ B H) (h1 : Pe K ta σ B x) (h2 : Pe K tb σ B y) (k : ∀ σ1 B1 H1, St K W0 B0 H0 os (cs (cs Γ i (ce x)) j (ce y)) σ1 B1 H1 → tz D σ1 H1) : tSeq (tAsg (tTup (tCons ta (tCons tb tNil))) (gUnp K 2 (gCons (gName i) (gCons (gName j) gNil)))) tz D σ H :=
  h1.both h2 s.bh fun v w B2 H2 u2 hv hw =>
    ⟨by show 2 ≤ sizeLine; rw [sizeLine_eq]; decide, fun t ht => .inl ⟨t, [v, w], rfl, Evl.st_of upd_same, rfl, _, _, rfl, _, _, rfl, rfl, by
      have w3 := Up.new (o := .tup [v, w]) u2.bh ht
      exact k _ _ _ ((((s.up u2).up w3).put i (Rep.mono w3.bb hv)).put j (Rep.mono w3.bb hw))⟩⟩
theorem St.drop {x : α} (s : St K W0 B0 H0 os Γ σ B H) (h : Pe K te σ B x) (k : ∀ B1 H1, St K W0 B0 H0 os Γ σ B1 H1 → tz D σ H1) : tSeq (tDrop te) tz D σ H := h H s.bh _ fun v B1 H1 u hv => k B1 H1 (s.up u)
theorem St.ret {x : α} (s : St K W0 B0 H0 os Γ σ B H) (h : Pe K te σ B x) (k : ∀ v B1 H1, St K W0 B0 H0 os Γ σ B1 H1 → Rep.at_ K B1 v x → D.rt v H1) : tRet te D σ H := h H s.bh _ fun v B1 H1 u hv => k v B1 H1 (s.up u) hv
theorem St.retB {b : Addr} {c n : Int} {R : α → Prop} (s : St K W0 B0 H0 (boxC b c :: os) Γ σ B H) (h : Pb K b n te σ B R) (hc : c + n ≤ 2 ^ 40) (k : ∀ v x, R x → ∀ B1 H1, St K W0 B0 H0 (boxC b (c + n) :: os) Γ σ B1 H1 → Rep.at_ K B1 v x → D.rt v H1) : tRet te D σ H :=
  h H c s.bh s.box hc _ fun v x B1 H1 u ub r hv => k v x r B1 H1 (s.ub u ub) hv
/-- if ..: return: the test is false -/
theorem St.no (s : St K W0 B0 H0 os Γ σ B H) (h : Pt tt σ B false) (k : ∀ B1 H1, St K W0 B0 H0 os Γ σ B1 H1 → tz D σ H1) : tSeq (tIfS tt tu tNext) tz D σ H := h H s.bh (fun b H1 => if b = true then tu { D with nx := tz D } σ H1 else tNext { D with nx := tz D } σ H1) fun B1 H1 u => k B1 H1 (s.up u)
theorem St.noL (s : St K W0 B0 H0 os Γ σ B H) (h : Pt tt σ B false) (k : ∀ B1 H1, St K W0 B0 H0 os Γ σ B1 H1 → tw D σ H1) : tIfS tt tu tw D σ H := h H s.bh (fun b H1 => if b = true then tu D σ H1 else tw D σ H1) fun B1 H1 u => k B1 H1 (s.up u)
theorem St.ite {b : Bool} (s : St K W0 B0 H0 os Γ σ B H) (h : Pt tt σ B b) (k1 : b = true → ∀ B1 H1, St K W0 B0 H0 os Γ σ B1 H1 → tu { D with nx := tz D } σ H1) (k2 : b = false → ∀ B1 H1, St K W0 B0 H0 os Γ σ B1 H1 → tw { D with nx := tz D } σ H1) : tSeq (tIfS tt tu tw) tz D σ H :=
  q_if h s.bh (fun hb B1 H1 u => k1 hb B1 H1 (s.up u)) fun hb B1 H1 u => k2 hb B1 H1 (s.up u)
theorem St.iteL {b : Bool} (s : St K W0 B0 H0 os Γ σ B H) (h : Pt tt σ B b) (k1 : b = true → ∀ B1 H1, St K W0 B0 H0 os Γ σ B1 H1 → tu D σ H1) (k2 : b = false → ∀ B1 H1, St K W0 B0 H0 os Γ σ B1 H1 → tw D σ H1) : tIfS tt tu tw D σ H :=
  p_if h s.bh (fun hb B1 H1 u => k1 hb B1 H1 (s.up u)) fun hb B1 H1 u => k2 hb B1 H1 (s.up u)
/-! ### loops -/
theorem St.forG {δ : Type} {wi : TI} {g : TG} {xs : List α} (s : St K W0 B0 H0 os Γ σ B H) (h : ItD K wi σ B xs) (oz : List α → δ → List OC) (Γz : List α → δ → List (Option Cell)) (P : List α → δ → Prop)
    (h0 : ∃ d, P [] d ∧ ∀ B1 H1, St K W0 B0 H0 os Γ σ B1 H1 → St K W0 B0 H0 (oz [] d) (Γz [] d) σ B1 H1)
    (hs : ∀ done x rest d, xs = done ++ x :: rest → P done d → ∀ (v : V) (σ' : L2.St) (B' H' : Hp) (N : L2.St → Hp → Prop), (∀ (d' : δ) {σ3 : L2.St} {B3 H3 : Hp}, P (done ++ [x]) d' → St K ((oz done d).map (·.l)) B' H' (oz (done ++ [x]) d') (Γz (done ++ [x]) d') σ3 B3 H3 → N σ3 H3) →
      St K W0 B0 H0 (oz done d) (Γz done d) σ' B' H' → Rep.at_ K B' v x → g v σ' H' fun σ2 H2 => tu { D with nx := N, ct := N, bk := D.nx } σ2 H2)
    (k : ∀ d, P xs d → ∀ σ' B' H', St K W0 B0 H0 (oz xs d) (Γz xs d) σ' B' H' → D.nx σ' H') : tFor wi g tu D σ H := by
  refine p_for h s.bh fun B1 H1 u => ⟨fun done σ' B' H' => ∃ d, P done d ∧ St K W0 B0 H0 (oz done d) (Γz done d) σ' B' H', ?_, fun done x rest v σ' B' Hx B2 H2 ex b1 bx hP u2 hv => ?_, fun σ' B' H' b1 bx hP => ?_⟩
  · obtain ⟨d, hd, hk⟩ := h0
    exact ⟨d, hd, hk B1 H1 (s.up u)⟩
  · obtain ⟨d, hd, s'⟩ := hP
    have s2 := s'.up u2
    exact hs done x rest d ex hd v σ' B2 H2 _ (fun d' {σ3 B3 H3} hd' s3 => ⟨B3, b1.trans (u2.bb.trans s3.bb), s3.bh, d', hd', s2.comp s3⟩) s2 hv
  · obtain ⟨d, hd, s'⟩ := hP
    exact k d hd σ' B' H' s'
end
/-! ### lists that grow -/
theorem Slots.re {α : Type} [r : Rep α] {x : α} {v : V} : ∀ {σ : L2.St} {Γ : List (Option Cell)} {i : Nat}, Slots K B σ Γ → σ[i]? = some (some v) → Rep.at_ K B v x → Slots K B σ (cs Γ i (ce x))
  | _, _, _, .nil, _, _ => .nil
  | o :: _, _, 0, .cons a t, h, hx => .cons (by
      have h' : o = some v := by simpa using h
      rw [h']
      exact At1.some hx) t
  | _, _, n + 1, .cons a t, h, hx => .cons a (Slots.re (i := n) t (by simpa using h) hx)
section
variable {α : Type} [Rep α]
theorem St.new {i : Nat} (s : St K W0 B0 H0 os Γ σ B H) (α : Type) [Rep α] (k : ∀ l σ1 H1, St K W0 B0 H0 (os ++ [lstC K l ([] : List α)]) (cs Γ i (ca l)) σ1 B H1 → tz D σ1 H1) : tSeq (tAsg (tLst tNil) (gName i)) tz D σ H :=
  ⟨Nat.zero_le _, fun p hp => k p _ _ (St.put (s.add (ob := .lst []) hp (lstC K p ([] : List α)) rfl ⟨[], rfl, .nil⟩) i rfl)⟩
theorem St.lst (s : St K W0 B0 H0 os Γ σ B H) {k : Nat} {l : Addr} {xs : List α} (h : os[k]? = some (lstC K l xs)) : B l = none ∧ ∃ vs, H l = some (.lst vs) ∧ AtAll K B vs xs := by
  obtain ⟨h1, _, x, h3, vs, rfl, h4⟩ := s.own _ (List.mem_of_getElem? h)
  exact ⟨h1, vs, h3, h4⟩
theorem St.app {i k : Nat} {l : Addr} {xs : List α} {x : α} (s : St K W0 B0 H0 os Γ σ B H) (h : os[k]? = some (lstC K l xs)) (hi : cg Γ i = ca l) (he : Pe K te σ B x) (hz : xs.length ≤ 1000000)
    (q : ∀ B1 H1, St K W0 B0 H0 (os.set k (lstC K l (xs ++ [x]))) Γ σ B1 H1 → D.nx σ H1) : tDrop (tBM K "list" rAppend (tVar i) (tCons te tNil)) D σ H := by
  obtain ⟨_, vs, hl, hA⟩ := s.lst h
  exact app_var (s.sl.rf i hi) hl s.bh he (by rw [hA.length]; exact hz) fun v B1 H1 u hv => q B1 _ ((s.up u).chg (ob := .lst (vs ++ [v])) h rfl ⟨vs ++ [v], rfl, (hA.mono u.bb).snoc hv⟩)
end
section
variable {α β : Type} [DecidableEq α] [Datum α] [Rep β] [Thaw β]
theorem St.fz {i k : Nat} {l : Addr} {xs : List α} (s : St K W0 B0 H0 os Γ σ B H) (h : os[k]? = some (lstC K l xs)) (hi : cg Γ i = ca l) : ∃ vs, B l = none ∧ H l = some (.lst vs) ∧ AtAll K B vs xs ∧ Ex B (upd B l (.lst vs)) ∧ Slots K (upd B l (.lst vs)) σ (cs Γ i (ce xs)) := by
  obtain ⟨hb, vs, hl, hA⟩ := s.lst h
  have e : Ex B (upd B l (.lst vs)) := Ex.new hb
  exact ⟨vs, hb, hl, hA, e, (s.sl.mono e).re (s.sl.rf i hi) (at_list.mpr ⟨l, vs, rfl, Evl.sq_of upd_same, hA.mono e⟩)⟩
theorem St.appT {i k : Nat} {l : Addr} {xs : List α} {x : α} [Thaw α] (s : St K W0 B0 H0 os Γ σ B H) (h : os[k]? = some (lstC K l xs)) (hi : cg Γ i = ca l) (ht : ∀ B', Ex B B' → Slots K B' σ (cs Γ i (ce xs)) → Pe K te σ B' x) (hz : xs.length ≤ 1000000)
    (q : ∀ B1 H1, St K W0 B0 H0 (os.set k (lstC K l (xs ++ [x]))) Γ σ B1 H1 → D.nx σ H1) : tDrop (tBM K "list" rAppend (tVar i) (tCons te tNil)) D σ H := by
  obtain ⟨vs, hb, hl, hA, e, s2⟩ := s.fz h hi
  exact app_self (s.sl.rf i hi) hl hb s.bh (ht _ e s2) (by rw [hA.length]; exact hz) fun v B1 H1 u _ hv => q B1 _ ((s.up u).chg (ob := .lst (vs ++ [v])) h rfl ⟨vs ++ [v], rfl, (hA.mono u.bb).snoc hv⟩)
theorem St.frz {i k : Nat} {l : Addr} {xs : List α} (s : St K W0 B0 H0 os Γ σ B H) (h : os[k]? = some (lstC K l xs)) (hi : cg Γ i = ca l) (hw : l ∉ W0) : ∃ B1, Ex B B1 ∧ St K W0 B0 H0 (os.eraseIdx k) (cs Γ i (ce xs)) σ B1 H := by
  obtain ⟨vs, hb, hl, hA, e, s2⟩ := s.fz h hi
  have h0 : H0 l = none := by
    rcases (s.own _ (List.mem_of_getElem? h)).2.1 with z | z
    · exact absurd z hw
    · exact z
  refine ⟨_, e, s.bb.trans e, ex_in s.bh hl, s.hh, s.dm, fun a ha => ?_, fun o ho => ?_, s.nd.sublist ((List.eraseIdx_sublist os k).map _), s2⟩
  · by_cases z : a = l
    · exact .inr (z ▸ h0)
    · rw [upd_ne z] at ha
      exact s.nw a ha
  · have hm := (List.eraseIdx_sublist os k).subset ho
    obtain ⟨g1, g2, w, g3, g4⟩ := s.own o hm
    have ne : o.l ≠ l := by
      intro z
      have nd := s.nd
      have hlt := (List.getElem?_eq_some_iff.mp h).1
      have e1 : os = os.take k ++ lstC K l xs :: os.drop (k + 1) := by
        have e2 : os.drop k = lstC K l xs :: os.drop (k + 1) := by
          rw [List.drop_eq_getElem_cons hlt]
          congr 1
          exact (List.getElem?_eq_some_iff.mp h).2
        rw [← e2, List.take_append_drop]
      rw [List.eraseIdx_eq_take_drop_succ] at ho
      rw [e1, List.map_append, List.map_cons, List.nodup_append, List.nodup_cons] at nd
      rcases List.mem_append.mp ho with w | w
      · exact nd.2.2 _ (List.mem_map.mpr ⟨o, w, z⟩) _ List.mem_cons_self rfl
      · exact nd.2.1.1 (List.mem_map.mpr ⟨o, w, z⟩)
    exact ⟨by rw [upd_ne ne]; exact g1, g2, w, g3, o.mono e g4⟩
theorem St.ne {k : Nat} {l b : Addr} {c : Int} {xs : List α} (s : St K W0 B0 H0 (boxC b c :: os) Γ σ B H) (h : os[k]? = some (lstC K l xs)) : l ≠ b := fun z => by
  have nd := s.nd
  rw [List.map_cons, List.nodup_cons] at nd
  exact nd.1 (List.mem_map.mpr ⟨_, List.mem_of_getElem? h, z⟩)
end
end
/-! ### the start of a def, by its promise -/
section
variable {K : PySem.W.Frag} {α β γ δ : Type} [Rep α] [Rep β] [Rep γ] [Rep δ] {vs : List V} {H : Hp} {Q : VK} {E : XK}
theorem Fn1.st {pre : α → Prop} {f : α → β} (h : Fn1 K pre f vs H Q E) (N : List Str) : ∃ x B, pre x ∧ St K [] B H [] ([ce x] ++ List.replicate (N.length - 1) none) (start N vs) B H ∧ ∀ v B2 H2, Up B H B2 H2 → Rep.at_ K B2 v (f x) → Q v H2 := by
  obtain ⟨x, B, e, ⟨v, _, rfl, h1, rfl⟩, hp, q⟩ := h
  exact ⟨x, B, hp, St.pure e (start_slots [v] [ce x] _ (.cons (At1.some h1) .nil)), q⟩
theorem Fn2.st {pre : α → β → Prop} {f : α → β → γ} (h : Fn2 K pre f vs H Q E) (N : List Str) : ∃ x y B, pre x y ∧ St K [] B H [] ([ce x, ce y] ++ List.replicate (N.length - 2) none) (start N vs) B H ∧ ∀ v B2 H2, Up B H B2 H2 → Rep.at_ K B2 v (f x y) → Q v H2 := by
  obtain ⟨x, y, B, e, ⟨v, _, rfl, h1, v2, _, rfl, h2, rfl⟩, hp, q⟩ := h
  exact ⟨x, y, B, hp, St.pure e (start_slots [v, v2] [ce x, ce y] _ (.cons (At1.some h1) (.cons (At1.some h2) .nil))), q⟩
theorem FnB1.st {n : Int} {pre : α → Prop} {R : α → β → Prop} (h : FnB1 K n pre R vs H Q E) (N : List Str) : ∃ b c x B, pre x ∧ c + n ≤ 2 ^ 40 ∧ St K [b] B H [boxC b c] ([ca b, ce x] ++ List.replicate (N.length - 2) none) (start N vs) B H ∧
    ∀ v y os Γ σ B2 H2, St K [b] B H (boxC b (c + n) :: os) Γ σ B2 H2 → R x y → Rep.at_ K B2 v y → Q v H2 := by
  obtain ⟨b, B, c, x, e, bx, hc, ⟨v, rfl, hv⟩, hp, q⟩ := h
  exact ⟨b, c, x, B, hp, hc, St.draw e bx (start_slots [.ref b, v] [ca b, ce x] _ (.cons (At1.some rfl) (.cons (At1.some hv) .nil))), fun v y os Γ σ B2 H2 s r hv => q v y B2 H2 s.toUb s.box r hv⟩
theorem FnB2.st {n : Int} {pre : α → β → Prop} {R : α → β → γ → Prop} (h : FnB2 K n pre R vs H Q E) (N : List Str) : ∃ b c x y B, pre x y ∧ c + n ≤ 2 ^ 40 ∧ St K [b] B H [boxC b c] ([ca b, ce x, ce y] ++ List.replicate (N.length - 3) none) (start N vs) B H ∧
    ∀ v z os Γ σ B2 H2, St K [b] B H (boxC b (c + n) :: os) Γ σ B2 H2 → R x y z → Rep.at_ K B2 v z → Q v H2 := by
  obtain ⟨b, B, c, x, y, e, bx, hc, ⟨v, w, rfl, hv, hw⟩, hp, q⟩ := h
  exact ⟨b, c, x, y, B, hp, hc, St.draw e bx (start_slots [.ref b, v, w] [ca b, ce x, ce y] _ (.cons (At1.some rfl) (.cons (At1.some hv) (.cons (At1.some hw) .nil)))), fun v y os Γ σ B2 H2 s r hv => q v y B2 H2 s.toUb s.box r hv⟩
theorem RightP.st (h : RightP K vs H Q E) (N : List Str) : ∃ b B, St K [b] B H [boxC b 0] ([ca b] ++ List.replicate (N.length - 1) none) (start N vs) B H ∧ ∀ os Γ σ B2 H2, St K [b] B H os Γ σ B2 H2 → Q (.bl true) H2 := by
  obtain ⟨b, B, rfl, e, bx, q⟩ := h
  exact ⟨b, B, St.draw e bx (start_slots [.ref b] [ca b] _ (.cons (At1.some rfl) .nil)), fun os Γ σ B2 H2 s => q B2 H2 s.toUb⟩
end
end Ob
set_option Elab.async false
set_option linter.all false
set_option maxRecDepth 100000
set_option maxHeartbeats 4000000
/-! P4: are_rivals, rivals_of, press. -/
set_option Elab.async false
set_option linter.all false
set_option maxRecDepth 100000
set_option maxHeartbeats 4000000
/-! P5: component_of, components, groups. -/
namespace Ob
open PySem L2
open Evl (Ex)
open PySem.W (Datum Tup DatumOrd)
/-- x leads to y over rivals among some switches -/
inductive Reach (rv : Str → List Str) (sw : List Str) (x : Str) : Str → Prop where
  | refl : Reach rv sw x x
  | step {y z : Str} (h : Reach rv sw x y) (hz : z ∈ rv y) (hs : z ∈ sw) : Reach rv sw x z
theorem Reach.sw {rv : Str → List Str} {sw : List Str} {x y : Str} (h : Reach rv sw x y) (hx : x ∈ sw) : y ∈ sw := by
  cases h with
  | refl => exact hx
  | step _ _ hs => exact hs
theorem Reach.trans {rv : Str → List Str} {sw : List Str} {x y z : Str} (h : Reach rv sw x y) (k : Reach rv sw y z) : Reach rv sw x z := by
  induction k with
  | refl => exact h
  | step _ hz hs ih => exact .step ih hz hs
open Classical in
noncomputable def compO (rv : Str → List Str) (sw : List Str) (x : Str) : List Str := sortD (sw.filter fun y => decide (Reach rv sw x y))
theorem mem_compO {rv : Str → List Str} {sw : List Str} {x y : Str} : y ∈ compO rv sw x ↔ y ∈ sw ∧ Reach rv sw x y := by
  unfold compO
  rw [mem_sortD, List.mem_filter]
  simp
theorem compO_asc {rv : Str → List Str} {sw : List Str} {x : Str} (nd : sw.Nodup) : Asc (compO rv sw x) := sortD_asc (nd.filter _)
/-- what the search has found up to now -/
structure CompI (rv : Str → List Str) (sw : List Str) (x : Str) (found : List Str) (k : Nat) : Prop where
  nd : found.Nodup
  rc : ∀ y ∈ found, Reach rv sw x y
  x0 : x ∈ found
  sub : ∀ y ∈ found, y ∈ sw
  kl : k ≤ found.length
  cl : ∀ j y, j < k → found[j]? = some y → ∀ z ∈ rv y, z ∈ sw → z ∈ found
theorem CompI.step {rv : Str → List Str} {sw : List Str} {x : Str} {found : List Str} {k : Nat} {y : Str} (I : CompI rv sw x found k) (hy : found[k]? = some y) (hnd : (rv y).Nodup) :
    CompI rv sw x (found ++ (rv y).filter (fun z => decide (z ∈ sw) && !decide (z ∈ found))) (k + 1) := by
  have hm : ∀ z, z ∈ (rv y).filter (fun z => decide (z ∈ sw) && !decide (z ∈ found)) ↔ z ∈ rv y ∧ z ∈ sw ∧ z ∉ found := fun z => by
    rw [List.mem_filter]
    simp
  have hlt : k < found.length := (List.getElem?_eq_some_iff.mp hy).1
  refine ⟨List.nodup_append.mpr ⟨I.nd, hnd.filter _, fun a ha b hb e => ((hm b).mp hb).2.2 (e ▸ ha)⟩, fun z hz => ?_, List.mem_append_left _ I.x0, fun z hz => ?_, ?_, fun j w hj hw z hz hs => ?_⟩
  · rcases List.mem_append.mp hz with h | h
    · exact I.rc z h
    · obtain ⟨h1, h2, _⟩ := (hm z).mp h
      exact .step (I.rc y (List.mem_of_getElem? hy)) h1 h2
  · rcases List.mem_append.mp hz with h | h
    · exact I.sub z h
    · exact ((hm z).mp h).2.1
  · rw [List.length_append]
    omega
  · have hw' : found[j]? = some w := by
      rw [List.getElem?_append_left (by omega)] at hw
      exact hw
    by_cases hzf : z ∈ found
    · exact List.mem_append_left _ hzf
    · by_cases hjk : j = k
      · subst hjk
        rw [hy] at hw'
        cases hw'
        exact List.mem_append_right _ ((hm z).mpr ⟨hz, hs, hzf⟩)
      · exact List.mem_append_left _ (I.cl j w (by omega) hw' z hz hs)
theorem CompI.done {rv : Str → List Str} {sw : List Str} {x : Str} {found : List Str} (I : CompI rv sw x found found.length) (nd : sw.Nodup) : sortD found = compO rv sw x := by
  refine asc_ext (sortD_asc I.nd) (compO_asc nd) fun z => ?_
  rw [mem_sortD, mem_compO]
  have key : ∀ z, Reach rv sw x z → z ∈ found := fun z h => by
    induction h with
    | refl => exact I.x0
    | step h1 hz hs ih =>
      obtain ⟨j, hj⟩ := List.getElem?_of_mem ih
      exact I.cl j _ (List.getElem?_eq_some_iff.mp hj).1 hj _ hz hs
  exact ⟨fun h => ⟨I.sub z h, I.rc z h⟩, fun h => key z h.2⟩
end Ob
set_option Elab.async false
set_option linter.all false
set_option maxRecDepth 100000
set_option maxHeartbeats 4000000
/-! P6: components, groups. -/
set_option Elab.async false
set_option linter.all false
set_option maxRecDepth 100000
set_option maxHeartbeats 4000000
/-! M7: section 1 of the law k04, in plain Lean: presses one by one, two presses exchanged, groups. -/
set_option Elab.async false
set_option linter.all false
set_option maxRecDepth 100000
set_option maxHeartbeats 4000000
/-! M8: what a history does to each switch (section 1 of the proof): sem. Plain Lean. -/
namespace Ob
open PySem L2
open PySem.W (Datum Tup DatumOrd)
/-! ### effects -/
structure EffIs (e : Eff) (f : Str → Option Bool) : Prop where
  a1 : Asc e.1.items
  a2 : Asc e.2.items
  m1 : ∀ z, z ∈ e.1.items ↔ f z = some true
  m2 : ∀ z, z ∈ e.2.items ↔ f z = some false
theorem EffIs.ext {e e' : Eff} {f f' : Str → Option Bool} (h : EffIs e f) (k : EffIs e' f') (hf : ∀ z, f z = f' z) : e = e' := by
  obtain ⟨⟨a⟩, ⟨b⟩⟩ := e
  obtain ⟨⟨c⟩, ⟨d⟩⟩ := e'
  have e1 : a = c := asc_ext h.a1 k.a1 fun z => (h.m1 z).trans (by rw [hf]; exact (k.m1 z).symm)
  have e2 : b = d := asc_ext h.a2 k.a2 fun z => (h.m2 z).trans (by rw [hf]; exact (k.m2 z).symm)
  rw [e1, e2]
/-- equal effects do the same -/
theorem EffIs.inj {e : Eff} {f f' : Str → Option Bool} (h : EffIs e f) (k : EffIs e f') (z : Str) : f z = f' z := by
  have h1 := (h.m1 z).symm.trans (k.m1 z)
  have h2 := (h.m2 z).symm.trans (k.m2 z)
  cases hf : f z with
  | none =>
    cases hg : f' z with
    | none => rfl
    | some b => rw [hf, hg] at h1 h2; cases b <;> simp at h1 h2
  | some c =>
    cases hg : f' z with
    | none => rw [hf, hg] at h1 h2; cases c <;> simp at h1 h2
    | some b => rw [hf, hg] at h1 h2; cases b <;> cases c <;> simp at h1 h2 <;> rfl
end Ob
set_option Elab.async false
set_option linter.all false
set_option maxRecDepth 100000
set_option maxHeartbeats 4000000
/-! S2: more rules over the record; calls by their meaning. -/
namespace Ob
open PySem L2
open Evl (Ex)
open PySem.W (Datum Tup DatumOrd)
section
variable {K : PySem.W.Frag} {W0 : List Addr} {B0 H0 : Hp} {os : List OC} {Γ : List (Option Cell)} {σ : L2.St} {B H B1 H1 : Hp} {te ta tb tc tk tv : TE} {tt : TT} {D : Ends} {tu tw tz : TS} {b : Addr} {c n : Int}
theorem Slots.lcB {γ β : Type} [Rep γ] [DecidableEq β] [Datum β] {wi : TI} {j : Nat} {xs : List γ} {S : β → Prop} (s : Slots K B σ Γ) (h : ItD K wi σ B xs) (hz : xs.length ≤ 1000000) (hn : 0 ≤ n)
    (ht : ∀ x ∈ xs, ∀ σ2 B1, Ex B B1 → Slots K B1 σ2 (cs (cw Γ [j]) j (ce x)) → Pb K b n te σ2 B1 S) : Pb K b (n * xs.length) (tLc wi (gName j) tYes te [j]) σ B (fun ys : List β => ys.length = xs.length ∧ ∀ y ∈ ys, S y) :=
  b_lcR h hz hn fun x hx v B1 b1 hv => ⟨_, fun H Q _ q => q, by rw [set_none_comm (List.mem_singleton.mpr rfl), wipe_wipe], ht x hx _ B1 b1 ((s.mono b1).turn hv)⟩
/-! calls -/
end
/-! ### a drawn panel -/
theorem PanG.ok {m : Int} {p : Pan} (g : PanG m p) (hm : m ≤ 50) : PanS p := by
  have := g.len
  exact ⟨⟨asc_nodup g.asc, fun e he => (g.ex e he).1, by omega, by have := g.el; omega⟩, by omega, by have := g.el; omega⟩
/-! ### effects of a panel -/
structure EffS (p : Pan) (e : Eff) (f : Str → Option Bool) : Prop extends EffIs e f where
  sw : ∀ z, f z ≠ none → z ∈ p.sw
theorem EffS.l1 {p : Pan} {e : Eff} {f : Str → Option Bool} (h : EffS p e f) : e.1.items.length ≤ p.sw.length := (asc_nodup h.a1).length_le_of_subset fun z hz => h.sw z (by rw [(h.m1 z).mp hz]; exact fun w => nomatch w)
theorem EffS.l2 {p : Pan} {e : Eff} {f : Str → Option Bool} (h : EffS p e f) : e.2.items.length ≤ p.sw.length := (asc_nodup h.a2).length_le_of_subset fun z hz => h.sw z (by rw [(h.m2 z).mp hz]; exact fun w => nomatch w)
end Ob
set_option Elab.async false
set_option linter.all false
set_option maxRecDepth 100000
set_option maxHeartbeats 4000000
/-! Ws: xs[a:c] = ys with c beyond the end; xs.insert; min of a list of texts. -/
set_option Elab.async false
set_option linter.all false
set_option maxRecDepth 100000
set_option maxHeartbeats 4000000
/-! Ls: xs[a:c] = ys; a slice turned round in its place; new lists that change. -/
namespace Ob
open PySem L2
open Evl (Ex)
open PySem.W (Datum Tup DatumOrd)
def gSl (to : TE) (tl th : TO) : TG := fun v σ H Q => to σ H fun o H1 => tl σ H1 fun a H2 => th σ H2 fun c H3 => ∃ (l b : Addr) (xs ys : List V) (i k : Nat), o = .ref l ∧ v = .ref b ∧ l ≠ b ∧ H3 l = some (.lst xs) ∧ H3 b = some (.lst ys) ∧ a = some (i : Int) ∧ c = some (k : Int) ∧ i ≤ k ∧ i ≤ xs.length ∧ xs.length + ys.length ≤ sizeLine ∧
  Q σ (upd H3 l (.lst (xs.take i ++ ys ++ xs.drop k)))
section
variable {K : PySem.W.Frag} {W0 : List Addr} {B0 H0 : Hp} {os : List OC} {Γ : List (Option Cell)} {σ : L2.St} {B H B1 H1 : Hp} {te ta tb tc tk tv : TE} {tt : TT} {D : Ends} {tu tw tz : TS} {b : Addr} {c n : Int}
theorem cutV_str (xs : List Str) (a c : Nat) (h1 : a ≤ c) (h2 : a ≤ xs.length) : cutV (xs.map V.str) (some (a : Int)) (some (c : Int)) = ((xs.drop a).take (c - a)).map V.str := by
  unfold cutV
  rw [List.length_map, HT.sIx_nat, HT.sIx_nat, Nat.min_eq_left h2, List.map_take, List.map_drop]
  by_cases hc : c ≤ xs.length
  · rw [Nat.min_eq_left hc]
  · rw [Nat.min_eq_right (by omega), List.take_of_length_le (by rw [List.length_drop, List.length_map]; exact Nat.le_refl _), List.take_of_length_le (by rw [List.length_drop, List.length_map]; omega)]
/-- xs[a:c] = xs[a:c][::-1] -/
theorem St.turn {i k : Nat} {l : Addr} {xs : List Str} {a c : Nat} (s : St K W0 B0 H0 os Γ σ B H) (h : os[k]? = some (lstC K l xs)) (hi : cg Γ i = ca l) (ha : Pe K ta σ B (a : Int)) (hc : Pe K tb σ B (c : Int)) (h1 : a ≤ c) (h2 : a ≤ xs.length) (hz : xs.length ≤ 100000)
    (q : ∀ B1 H1, St K W0 B0 H0 (os.set k (lstC K l (xs.take a ++ ((xs.drop a).take (c - a)).reverse ++ xs.drop c))) Γ σ B1 H1 → D.nx σ H1) :
    tAsg (tRevL K (tSl (rSlU K) (tVar i) (tPart ta) (tPart tb))) (gSl (tVar i) (tPart ta) (tPart tb)) D σ H := by
  obtain ⟨hb, vs, hl, hA⟩ := s.lst h
  have ev := atAll_strs hA
  subst ev
  have hσ := s.sl.rf i hi
  refine ⟨_, hσ, ha H s.bh _ fun v1 B1 H1 u1 e1 => ⟨_, at_int.mp e1, hc H1 (u1.bb.trans u1.bh) _ fun v2 B2 H2 u2 e2 => ⟨_, at_int.mp e2, .inl ⟨l, _, rfl, Evl.sq_of (u2.hh _ _ (u1.hh _ _ hl)), fun p hp => ?_⟩⟩⟩⟩
  have u12 : Up B H B H2 := ⟨Ex.refl B, s.bh.trans (u1.hh.trans u2.hh), u1.hh.trans u2.hh, fun _ h => .inl h⟩
  have up := u12.hold (o := .lst (cutV (xs.map V.str) (some (a : Int)) (some (c : Int)))) hp
  refine ⟨p, _, rfl, Evl.sq_of upd_same, fun p2 hp2 => ?_⟩
  rw [cutV_str xs a c h1 h2] at up hp2 ⊢
  have up2 := up.hold (o := .lst (((xs.drop a).take (c - a)).map V.str).reverse) hp2
  have hl2 := up2.hh _ _ hl
  have hne : l ≠ p2 := fun z => by rw [z] at hl; have := up.hh _ _ hl; rw [hp2] at this; cases this
  refine ⟨_, hσ, ha _ up2.bh _ fun v3 B3 H3 u3 e3 => ⟨_, at_int.mp e3, hc H3 (u3.bb.trans u3.bh) _ fun v4 B4 H4 u4 e4 => ⟨_, at_int.mp e4, ?_⟩⟩⟩
  have u34 : Up B H B H4 := ⟨Ex.refl B, up2.bh.trans (u3.hh.trans u4.hh), up2.hh.trans (u3.hh.trans u4.hh), fun _ h => .inl h⟩
  refine ⟨l, p2, xs.map V.str, (((xs.drop a).take (c - a)).map V.str).reverse, a, c, rfl, rfl, hne, u4.hh _ _ (u3.hh _ _ hl2), u4.hh _ _ (u3.hh _ _ upd_same), rfl, rfl, h1, by rw [List.length_map]; exact h2, ?_, ?_⟩
  · rw [List.length_reverse, List.length_map, List.length_map, List.length_take, List.length_drop, sizeLine_eq]
    omega
  · have e : (xs.map V.str).take a ++ (((xs.drop a).take (c - a)).map V.str).reverse ++ (xs.map V.str).drop c = (xs.take a ++ ((xs.drop a).take (c - a)).reverse ++ xs.drop c).map V.str := by
      simp only [List.map_append, List.map_take, List.map_reverse, List.map_drop]
    rw [e]
    exact q B _ ((s.up u34).chg (ob := .lst _) h rfl ⟨_, rfl, strs_atAll _⟩)
end
end Ob
set_option Elab.async false
set_option linter.all false
set_option maxRecDepth 100000
set_option maxHeartbeats 4000000
/-! Ss: len(set(xs)), sorted(set(xs)) of a list of texts. -/
namespace Ob
open PySem PySem.Spec PyProof.Rows L2 PySem.Froz
open Evl (Ex)
theorem tail_perm (ep : Nat) (es1 : Array (Int × Value)) (t2 : SetTable) (d : Bool) : (tailTx ep es1 t2 d).1.toList.Perm es1.toList := by
  unfold tailTx
  by_cases c : (!d && t2.tooFull) = true
  · rw [if_pos c]; exact relayAll_perm _ _ _
  · rw [if_neg c]
theorem tail_ris (ep : Nat) (es1 : Array (Int × Value)) (t2 : SetTable) (d : Bool) (r : Ris t2.place.toList) : Ris (tailTx ep es1 t2 d).2.2.place.toList := by
  unfold tailTx
  by_cases c : (!d && t2.tooFull) = true
  · rw [if_pos c]; exact relayAll_ris _ _ _
  · rw [if_neg c]; exact r
theorem tail_led (ep : Nat) (es1 : Array (Int × Value)) (t2 : SetTable) (d : Bool) : (tailTx ep es1 t2 d).2.2.led = t2.led := by
  unfold tailTx
  by_cases c : (!d && t2.tooFull) = true
  · rw [if_pos c]; exact relayAll_led _ _ _
  · rw [if_neg c]
theorem addTx_perm (h : Int) (v : Value) (D : SD) : (addTx h v D).1.toList.Perm ((h, v) :: D.1.toList) := by
  have hp := layNew_perm D.2.2 D.1 h v
  rw [Array.toList_push] at hp
  exact (tail_perm _ _ _ _).trans (hp.trans (List.perm_append_singleton _ _))
theorem addTx_ris (h : Int) (v : Value) (D : SD) (r : Ris D.2.2.place.toList) : Ris (addTx h v D).2.2.place.toList := by
  have h1 := layNew_ris D.2.2 D.1 h v r
  refine tail_ris _ _ _ _ ?_
  by_cases c : (layNew D.2.2 D.1 h v).2.1.plain = true
  · rw [if_pos c]; exact h1
  · rw [if_neg c]; exact h1
theorem addTx_led (h : Int) (v : Value) (D : SD) : (addTx h v D).2.2.led = D.2.2.led := by
  have h1 := layNew_led D.2.2 D.1 h v
  refine (tail_led _ _ _ _).trans ?_
  by_cases c : (layNew D.2.2 D.1 h v).2.1.plain = true
  · rw [if_pos c]; exact h1
  · rw [if_neg c]; exact h1
/-- values that are the texts, one by one -/
def TxtIs (v : Value) (k : Str) : Prop := ∃ t, v = .str k t
/-- a set of the texts l -/
structure SetS (P : Program) (w : World) (h : Heap) (a : Addr) (l : List Str) : Prop where
  ex : ∃ D : SD, h.get? a = some (sObj "set" D) ∧ TxOk P w D l ∧ Ris D.2.2.place.toList ∧ (w.params.followText "set-order" = true ∨ D.2.2.led = true) ∧ ∃ us, (D.1.toList.map (·.2)).Perm us ∧ PySem.W.EachIs TxtIs us l
theorem SetS.at {P : Program} {w : World} {h h' : Heap} {a : Addr} {l : List Str} (R : SetS P w h a l) (k : ∀ o, h.get? a = some o → h'.get? a = some o) : SetS P w h' a l := by
  obtain ⟨D, h1, h2⟩ := R.ex
  exact ⟨D, k _ h1, h2⟩
theorem setS_new {P : Program} {w : World} {h : Heap} {a : Addr} (ho : h.get? a = some { cls := .type "set", dict := none, data := .set #[] 0 (.fresh 0 0 (!w.params.followText "set-order")) }) : SetS P w h a [] :=
  ⟨(#[], 0, .fresh 0 0 (!w.params.followText "set-order")), ho, TxOk.nil (by rfl), List.Pairwise.nil, by
    show _ ∨ (!w.params.followText "set-order") = true
    cases w.params.followText "set-order"
    · exact .inr rfl
    · exact .inl rfl, [], List.Perm.nil, .nil⟩
section
variable {P : Program} {w : World} {A : Around} {E : Value → Shared → Prop} {s : Shared}
/-- a text put in, new or not -/
theorem setS_put {a : Addr} {l : List Str} {k : Str} {u : Tok} {Q : Bool → Shared → Prop} (R : SetS P w s.heap a l) (hb : l.length + 1 < scanBound)
    (h : ∀ h' b, Heap.SameBut a s.heap h' → SetS P w h' a (if k ∈ l then l else k :: l) → Q b { s with heap := h' }) : wpAny (model P w) A (setAddHashed a (.str k u) (hashStr w k)) Q E s := by
  obtain ⟨D, ho, F, r, hl, us, hp, hu⟩ := R.ex
  by_cases hk : k ∈ l
  · rw [if_pos hk] at h
    obtain ⟨es, ep, t⟩ := D
    have hd : (sObj "set" (es, ep, t)).data = .set es ep t := rfl
    have hf : t.fits es.size = true := F.fit
    have hel : ElemsOf (PySem.strKind P w) es.toList := F.el
    have hsz : es.size = l.length := F.sz
    have hb0 : es.size < scanBound := by omega
    have hkey : (PySem.strKind P w).is k (.str k u) = true := is_str k u
    obtain ⟨e0, he0, hq0⟩ := (F.mem k).mp hk
    unfold setAddHashed setAddHashedIn
    refine wpAny_holding (wpAny_bind (wpAny_setState_of ho hd hf ?_))
    dsimp only
    rw [byScan_of rfl hb0 hel]
    simp only [↓reduceIte]
    unfold setAddByScan
    refine wpAny_bind ?_
    refine wpAny_bind (wpAny_rule ?_)
    refine wpAny_bind (wpAny_setScan_of (knd := PySem.strKind P w) (k := k) hkey ho hd hf hel ?_)
    cases hfi : List.findIdx? (fun e => (PySem.strKind P w).is k e.2) es.toList with
    | none =>
      have c := List.findIdx?_eq_none_iff.mp hfi e0 he0
      rw [hq0] at c
      cases c
    | some j =>
      dsimp only
      exact wpAny_pure (wpAny_pure (h s.heap _ (Heap.SameBut.refl a s.heap) R))
  · rw [if_neg hk] at h
    refine add_x ho F hk hb (h _ true (Heap.SameBut.update ..) ⟨_, get_upd _ ho rfl, add_ok u F, addTx_ris _ _ _ r, by rw [addTx_led]; exact hl, .str k u :: us, ?_, .cons ⟨u, rfl⟩ hu⟩)
    have := (addTx_perm (hashStr w k) (.str k u) D).map (·.2)
    exact this.trans (hp.cons _)
/-- the texts that came, each once -/
def outK : List Str → List Str → List Str
  | l, [] => l
  | l, k :: ks => outK (if k ∈ l then l else k :: l) ks
theorem setS_update {I : Addr} {fp wr : List Addr} {G : Array GenState → Array GenState → Prop} {n : Nat} {Pv : Nat → Value → Prop} {St : Nat → Shared → Prop} {R : Result → Shared → Prop}
    (W : WalksS P w A.in1 I fp wr G n Pv St) (S : Addr) (hSf : S ∉ fp) (ns : List Str) (hn : n = ns.length) (hb : ns.length + 1 < scanBound) (hval : ∀ i v, Pv i v → ∃ k t, ns[i]? = some k ∧ v = .str k t) :
    ∀ (m i : Nat) (s : Shared) (l : List Str), n - i = m → i ≤ n → St i s → l.length ≤ i → SetS P w s.heap S l →
      (∀ s', Moved (S :: wr) G s s' → SetS P w s'.heap S (outK l (ns.drop i)) → R (.ok (.ret .none)) s') → codeAny (model P w) A (.builtin "set.update.loop" ⟨[.ref S, .ref I], []⟩) R s := by
  have hSw : S ∉ wr := fun h => hSf (W.sub _ h)
  have hsub : ∀ b ∈ wr, b ∈ S :: wr := fun b hb => List.mem_cons_of_mem _ hb
  intro m
  induction m with
  | zero =>
    intro i s l hm hi hst hl hS hR
    have hin : i = n := by omega
    subst hin
    refine codeAny_builtin F.entry_set_update_loop ?_
    rw [Around.under_plainId F.plain_set_update_loop _]
    show wpAny _ A.in1 (pyNext (.ref I) >>= _) _ _ s
    refine wpAny_bind (W.done s _ _ hst fun s' hmv => ?_)
    show wpAny _ A.in1 (ret Value.none) _ _ s'
    have e : ns.drop i = [] := List.drop_eq_nil_of_le (by omega)
    rw [e] at hR
    exact wpAny_pure (hR s' (hmv.mono hsub) (hS.at fun o e => hmv.heap S o hSw e))
  | succ m ih =>
    intro i s l hm hi hst hl hS hR
    have hlt : i < n := by omega
    refine codeAny_builtin F.entry_set_update_loop ?_
    rw [Around.under_plainId F.plain_set_update_loop _]
    show wpAny _ A.in1 (pyNext (.ref I) >>= _) _ _ s
    refine wpAny_bind (W.item i s _ _ hlt hst fun v s' hP hst' hmv => ?_)
    obtain ⟨z, t, hz, rfl⟩ := hval i v hP
    have hS' : SetS P w s'.heap S l := hS.at fun o e => hmv.heap S o hSw e
    show wpAny _ A.in1 (holding [Value.str z t] (setAdd S (.str z t)) >>= _) _ _ s'
    refine wpAny_bind (wpAny_holding ?_)
    unfold setAdd
    refine wpAny_holding ?_
    refine wpAny_bind ((PySem.strKind P w).pyHash (k := z) (is_str _ _) ?_)
    refine setS_put (s := { s' with toks := s'.toks + 1 }) hS' (by omega) fun h' bb hsb hS2 => ?_
    have hl2 : (if z ∈ l then l else z :: l).length ≤ i + 1 := by
      by_cases c : z ∈ l
      · rw [if_pos c]; omega
      · rw [if_neg c, List.length_cons]; omega
    have hdr : ns.drop i = z :: ns.drop (i + 1) := by
      rw [List.drop_eq_getElem_cons (by omega)]
      congr 1
      have := hz
      rw [List.getElem?_eq_getElem (by omega)] at this
      exact Option.some.inj this
    rw [hdr] at hR
    refine wpAny_pure ⟨plainId_quiet F.plain_set_update_loop _, ih (i + 1) _ _ (by omega) hlt (W.frame _ s' _ _ hst' (Nat.le_succ _) fun b hb o e => ?_) hl2 hS2 fun s'' hm'' hS'' => ?_⟩
    · rw [hsb.2 b (fun h : b = S => hSf (by rw [← h]; exact hb))]; exact e
    · refine hR s'' (Moved.trans W.gtrans ((hmv.mono hsub).then_heap (Nat.le_succ _) fun b o hb e => ?_) hm'') hS''
      rw [hsb.2 b (fun h : b = S => hb (by rw [h]; exact List.mem_cons_self))]; exact e
theorem each_perm {us vs : List Value} (p : vs.Perm us) : ∀ {ks : List Str}, PySem.W.EachIs TxtIs us ks → ∃ ks', ks'.Perm ks ∧ PySem.W.EachIs TxtIs vs ks' := by
  have q := p.symm
  clear p
  induction q with
  | nil => intro ks h; exact ⟨ks, List.Perm.refl _, h⟩
  | cons x p ih =>
    intro ks h
    cases h with
    | cons a t =>
      obtain ⟨ks', h1, h2⟩ := ih t
      exact ⟨_, h1.cons _, .cons a h2⟩
  | swap x y l =>
    intro ks h
    cases h with
    | cons a t =>
      cases t with
      | cons b t => exact ⟨_, List.Perm.swap _ _ _, .cons b (.cons a t)⟩
  | trans p1 p2 ih1 ih2 =>
    intro ks h
    obtain ⟨k1, h1, h2⟩ := ih1 h
    obtain ⟨k2, h3, h4⟩ := ih2 h2
    exact ⟨k2, h3.trans h1, h4⟩
theorem sortable_strs (xs : List Str) : PySem.W.Sortable (xs.map PyData.str) := .inr fun d hd => by
  obtain ⟨x, _, rfl⟩ := List.mem_map.mp hd
  exact ⟨fun z => (by cases z), fun _ z => (by cases z)⟩
open PySem.W in
theorem setS_sorted {a : Addr} {ks : List Str} {Q : Value → Shared → Prop} (R : SetS P w s.heap a ks) (hh : A.handled = none) (hb : ks.length < 4000) (hu : A.units + 100 < cLine)
    (hQ : ∀ (s' : Shared) (p : Addr) (out : List Value) (c : Nat), (∀ b o, s.heap.get? b = some o → s'.heap.get? b = some o) → s'.gens = s.gens → s'.os = s.os → s.heap.objs.size ≤ p →
      s'.heap.get? p = some (seqObj "list" out.toArray c) → PySem.W.EachIs TxtIs out (sortD ks) → Q (.ref p) s') : wpAny (model P w) A (call (.builtin "sorted") [.ref a]) Q E s := by
  obtain ⟨D, ho, F, r, hl, us, hp, hus⟩ := R.ex
  have hsz : D.1.size = ks.length := F.sz
  refine Calls.call_function_entry kind_sorted plain_sorted entry_sorted (args_sorted1 _) ?_
  unfold Builtin.«sorted»
  refine wpAny_bind (m := checkCount "sorted" 1 1 _) (wpAny_pure ?_)
  refine wpAny_bind (collect_set (A := A.in1) hh ⟨_, ho, rfl, rfl⟩ F.fit (by rw [hsz]; unfold scanBound; omega) r hl fun s1 vs k1 hz g1 o1 pm => ?_)
  obtain ⟨ks', hk', he⟩ := each_perm (pm.trans hp) hus
  have hvl : vs.length = ks.length := by rw [he.length, hk'.length_eq]
  have hL : vs.length ≤ sizeLine := by rw [hvl, sizeLine_eq]; omega
  refine wpAny_bind (wpAny_newList ?_ hL)
  have hoL : (s1.heap.push (seqObj "list" vs.toArray 0)).get? s1.heap.objs.size = some (seqObj "list" vs.toArray 0) := Heap.get?_push_size _ rfl
  have her : ∀ h : Heap, EachIs (fun v d => ∃ as, Reads h v d as) vs (ks'.map PyData.str) := fun h => by
    have : ∀ {vs : List Value} {ks : List Str}, EachIs TxtIs vs ks → EachIs (fun v d => ∃ as, Reads h v d as) vs (ks.map PyData.str) := by
      intro vs ks e
      induction e with
      | nil => exact .nil
      | cons a t ih =>
        obtain ⟨tk, rfl⟩ := a
        exact .cons ⟨_, Reads.str _ tk⟩ ih
    exact this he
  have hal : AllAlike (ks'.map PyData.str) := AllAlike.of fun b b' => DatumOrd.alike b b'
  have body : ∀ E' : Value → Shared → Prop, wpAny (model P w) A.in1.in1 (Builtin.«list.sort» ⟨[.ref s1.heap.objs.size], []⟩) (fun f s' => f = .done (.ret .none) ∧ Q (.ref s1.heap.objs.size) s') E' { s1 with heap := s1.heap.push (seqObj "list" vs.toArray 0) } := fun E' => by
    have S : SortsAt P w A.in1.in1 { s1 with heap := sortingHeap (s1.heap.push (seqObj "list" vs.toArray 0)) s1.heap.objs.size vs } (dataKind (sortingHeap (s1.heap.push (seqObj "list" vs.toArray 0)) s1.heap.objs.size vs) (ks'.map PyData.str)) vs :=
      SortsAt.data (her _) hal (sortable_strs ks') fun d hd => by
        obtain ⟨x, _, rfl⟩ := List.mem_map.mp hd
        show A.units + 2 + 0 < _
        omega
    refine list_sort_vals (s := { s1 with heap := s1.heap.push (seqObj "list" vs.toArray 0) }) hoL S hL ⟨rfl, ?_⟩
    have er : ∀ h : Heap, EachIs (fun v b => ∃ as, Reads h v (PyData.str b) as) vs ks' := fun h => he.mono fun v k ⟨t, e⟩ => by rw [e]; exact ⟨_, Reads.str _ t⟩
    have eo := sortVals_data (h' := sortingHeap (s1.heap.push (seqObj "list" vs.toArray 0)) s1.heap.objs.size vs) (R := TxtIs) (enc := PyData.str) false he (er _) hal
    generalize sortVals (dataKind (sortingHeap (s1.heap.push (seqObj "list" vs.toArray 0)) s1.heap.objs.size vs) (ks'.map PyData.str)) false vs vs = out at eo ⊢
    have e2 : ks'.mergeSort (dataLe false PyData.str) = sortD ks := by
      have e3 : dataLe (β := Str) false PyData.str = fun a b => !DatumOrd.lt b a := dataLe_lt
      rw [e3]
      exact sorted_uniq ((List.mergeSort_perm ks' _).trans (hk'.trans (sortD_perm ks).symm)) (sortD_sorted ks') (sortD_sorted ks)
    rw [e2] at eo
    obtain ⟨c, hc⟩ := sortedHeap_at (vs := vs) (out := out.toArray) hoL
    refine hQ _ _ out c (fun b u e => ?_) g1 o1 hz hc eo
    have q := k1 b u e
    have hlt := Heap.lt_size q
    show (sortedHeap (s1.heap.push (seqObj "list" vs.toArray 0)) s1.heap.objs.size vs out.toArray).get? b = some u
    rw [sortedHeap_old (Nat.ne_of_lt hlt) (by rw [size_push']; exact Nat.lt_succ_of_lt hlt)]
    exact Heap.get?_push_of_some _ q
  refine wpAny_bind (wpAny_holding (wpAny_call_entry slot_list_sort ⟨_, hoL, rfl⟩ entry_list_sort ?bd (args_list_sort _)))
  case bd =>
    show wpAny (model P w) A.in1.in1 (Builtin.«list.sort» ⟨[.ref s1.heap.objs.size], []⟩) _ _ _
    refine wpAny_mono (body _) (fun f s' hf => ?_) fun _ _ e => e
    obtain ⟨rfl, hq⟩ := hf
    exact ⟨_, rfl, wpAny_pure ⟨_, rfl, hq⟩⟩
end
theorem outK_len : ∀ (ks l : List Str), (outK l ks).length ≤ l.length + ks.length
  | [], l => Nat.le_refl _
  | k :: ks, l => by
    unfold outK
    have h := outK_len ks (if k ∈ l then l else k :: l)
    have h2 : (if k ∈ l then l else k :: l).length ≤ l.length + 1 := by
      by_cases c : k ∈ l
      · rw [if_pos c]; omega
      · rw [if_neg c, List.length_cons]; omega
    rw [List.length_cons]
    omega
theorem txt_of : ∀ {ys : List Str} {us : List Value}, Vals (ys.map V.str) us → PySem.W.EachIs TxtIs us ys
  | [], _, .nil => .nil
  | y :: ys, _, .cons r t => by
    obtain ⟨k, rfl⟩ := r
    exact .cons ⟨k, rfl⟩ (txt_of t)
theorem of_txt : ∀ {ys : List Str} {us : List Value}, PySem.W.EachIs TxtIs us ys → Vals (ys.map V.str) us
  | _, _, .nil => .nil
  | _, _, .cons ⟨t, e⟩ r => .cons (by rw [e]; exact ⟨t, rfl⟩) (of_txt r)
/-! ### over the layer -/
end Ob
set_option Elab.async false
set_option linter.all false
set_option maxRecDepth 100000
set_option maxHeartbeats 4000000
/-! M9: presses exchanged, put in; which switches an order leaves on, place by place. Plain Lean. -/
set_option Elab.async false
set_option linter.all false
set_option maxRecDepth 100000
set_option maxHeartbeats 4000000
/-! S3: more rules over the record. -/
namespace Ob
open PySem L2
open Evl (Ex)
open PySem.W (Datum Tup DatumOrd)
section
variable {K : PySem.W.Frag} {W0 : List Addr} {B0 H0 : Hp} {os : List OC} {Γ : List (Option Cell)} {σ : L2.St} {B H B1 H1 : Hp} {te ta tb tc tk tv : TE} {tt : TT} {D : Ends} {tu tw tz : TS} {b : Addr} {c n : Int}
theorem x_take {E : XK} {i : Nat} {n : Int} (hi : cg Γ i = ca b) (s : Slots K B σ Γ) (h : Pe K te σ B n) (h0 : 0 < n) (h1 : n < 1073741824) : Pb K b 1 (tCall (sp_Ltake K) [] E (tCons (tVar i) (tCons te tNil))) σ B (fun k : Int => 0 ≤ k ∧ k < n) := e_callB1 (s.rf i hi) h ⟨h0, h1⟩
end
end Ob
set_option Elab.async false
set_option linter.all false
set_option maxRecDepth 100000
set_option maxHeartbeats 4000000
/-! Xs: xs.extend(ys), ys any list. -/
namespace PySem.AutoSeq1
end PySem.AutoSeq1
set_option Elab.async false
set_option linter.all false
set_option maxRecDepth 100000
set_option maxHeartbeats 4000000
/-! S4: range of a drawn number, extend, insert, a new list beside a drawn thing; promises by a relation; a thing or None. -/
namespace Ob
open PySem L2
open Evl (Ex)
open PySem.W (Datum Tup DatumOrd)
theorem op_isNr {X : Cx} : OpR X (compareOp .Is) rIsN := op_isN
/-- None or a thing -/
structure Mb (α : Type) where
  o : Option α
def mbAt (K : PySem.W.Frag) {α : Type} [Rep α] (B : Hp) (v : V) : Option α → Prop
  | none => v = .non
  | some x => Rep.at_ K B v x
instance {α : Type} [Rep α] : Rep (Mb α) := ⟨fun K B v m => mbAt K B v m.o, fun {K B B' v m} e h => by
  obtain ⟨o⟩ := m
  cases o with
  | none => exact h
  | some x => exact Rep.monoR (α := α) e h⟩
section
variable {K : PySem.W.Frag} {W0 : List Addr} {B0 H0 : Hp} {os : List OC} {Γ : List (Option Cell)} {σ : L2.St} {B H B1 H1 : Hp} {te ta tb tc tk tv : TE} {tt : TT} {D : Ends} {tu tw tz : TS} {b : Addr} {c n m : Int}
/-- a reading that gives something of which R holds -/
def Pq {α : Type} [Rep α] (K : PySem.W.Frag) (te : TE) (σ : L2.St) (B : Hp) (R : α → Prop) : Prop := ∀ H, Ex B H → ∀ Q : VK, (∀ v x B2 H2, Up B H B2 H2 → R x → Rep.at_ K B2 v x → Q v H2) → te σ H Q
theorem Pq.is {α : Type} [Rep α] {R : α → Prop} {x : α} (h : Pq K te σ B R) (k : ∀ y, R y → y = x) : Pe K te σ B x := fun H e Q q => h H e Q fun v y B2 H2 u r hv => q v B2 H2 u (k y r ▸ hv)
def Fn3R {α β γ δ : Type} [Rep α] [Rep β] [Rep γ] [Rep δ] (K : PySem.W.Frag) (pre : α → β → γ → Prop) (R : α → β → γ → δ → Prop) : Sp := fun vs H Q _ => ∃ x y z B, Ex B H ∧ RCons K x (RCons K y (RCons K z RNil)) vs B ∧ pre x y z ∧ ∀ v r B2 H2, Up B H B2 H2 → R x y z r → Rep.at_ K B2 v r → Q v H2
section
variable {α β γ δ : Type} [Rep α] [Rep β] [Rep γ] [Rep δ] {vs : List V} {Q : VK} {E : XK}
theorem Fn3R.len {pre : α → β → γ → Prop} {R : α → β → γ → δ → Prop} (vs : List V) (H : Hp) (Q : VK) (E : XK) (h : Fn3R K pre R vs H Q E) : vs.length = 3 := by
  obtain ⟨x, y, z, B, e, ⟨v, r, rfl, h1, v2, r2, rfl, h2, v3, r3, rfl, h3, rfl⟩, _⟩ := h
  rfl
end
end
end Ob
set_option Elab.async false
set_option linter.all false
set_option maxRecDepth 100000
set_option maxHeartbeats 4000000
/-! S5: loops with what follows; an if whose two ways meet. -/
namespace Ob
open PySem L2
open Evl (Ex)
open PySem.W (Datum Tup DatumOrd)
section
variable {K : PySem.W.Frag} {W0 : List Addr} {B0 H0 : Hp} {os : List OC} {Γ : List (Option Cell)} {σ : L2.St} {B H B1 H1 : Hp} {te ta tb tc tk tv : TE} {tt : TT} {D : Ends} {tu tw tz : TS}
/-- the two ways of an if meet again -/
theorem St.iteJ {b : Bool} (os' : List OC) (Γ' : List (Option Cell)) (s : St K W0 B0 H0 os Γ σ B H) (h : Pt tt σ B b) (J : ∀ σ1 B1 H1, St K W0 B0 H0 os' Γ' σ1 B1 H1 → tz D σ1 H1)
    (k1 : b = true → ∀ (N : L2.St → Hp → Prop), (∀ {σ1 B1 H1}, St K W0 B0 H0 os' Γ' σ1 B1 H1 → N σ1 H1) → ∀ B1 H1, St K W0 B0 H0 os Γ σ B1 H1 → tu { D with nx := N } σ H1)
    (k2 : b = false → ∀ (N : L2.St → Hp → Prop), (∀ {σ1 B1 H1}, St K W0 B0 H0 os' Γ' σ1 B1 H1 → N σ1 H1) → ∀ B1 H1, St K W0 B0 H0 os Γ σ B1 H1 → tw { D with nx := N } σ H1) : tSeq (tIfS tt tu tw) tz D σ H :=
  s.ite h (fun hb B1 H1 s1 => k1 hb (tz D) (fun {σ1 B1 H1} s2 => J σ1 B1 H1 s2) B1 H1 s1) fun hb B1 H1 s1 => k2 hb (tz D) (fun {σ1 B1 H1} s2 => J σ1 B1 H1 s2) B1 H1 s1
end
end Ob
set_option Elab.async false
set_option linter.all false
set_option maxRecDepth 100000
set_option maxHeartbeats 4000000
/-! S6: defs of four parameters, the last one None or a thing; calls that leave it out or name it. -/
namespace Ob
open PySem PySem.Spec PyProof.Rows L2
open Evl (Ex)
open PySem.W (Datum Tup DatumOrd)
section
variable {K : PySem.W.Frag} {x qual : Str} {params : Arguments} {body : List Stmt} {scope : Scope} {kws : List (Str × V)} {f : Addr} {fd : FuncData} {ps : List Str}
/-- a call that names all keyword-only parameters -/
theorem kbindsN (F : FunD K x qual params body scope [] kws f fd) (n : Nat) (ks : List Str)
    (h : ∀ (kV doc pm : Value) (an : Option Addr) (cdv ct : Value) (us ws : List Value), us.length = n → ws.length = ks.length → bindArgs (PySem.W.fnOf x qual params body scope .none kV doc pm an cdv ct) ⟨us, ks.zip ws⟩ = pure (ps.zip (us ++ ws))) : KBn K fd ps n ks (fun us ws => us ++ ws) (fun vs zs => vs ++ zs) := by
  obtain ⟨oc, od, dV, kV, doc, pm, an, cdv, ct, osl, rfl, lk, hcd, hD, hK⟩ := F.ex
  rcases hD with ⟨_, rfl⟩ | ⟨e, _⟩
  · exact ⟨fun s us ws _ l1 l2 => .of_eq (h kV doc pm an cdv ct us ws l1 l2), fun r1 r2 => r1.append r2⟩
  · exact absurd rfl e
end
section
variable {K : PySem.W.Frag} {W0 : List Addr} {B0 H0 : Hp} {os : List OC} {Γ : List (Option Cell)} {σ : L2.St} {B H B1 H1 : Hp} {te ta tb tc td tk tv : TE} {tt : TT} {D : Ends} {tu tw tz : TS}
section
variable {α β γ δ ε : Type} [Rep α] [Rep β] [Rep γ] [Rep δ] [Rep ε] {vs : List V} {Q : VK} {E : XK}
def Fn4 (K : PySem.W.Frag) (pre : α → β → γ → δ → Prop) (f : α → β → γ → δ → ε) : Sp := fun vs H Q _ => ∃ x y z t B, Ex B H ∧ RCons K x (RCons K y (RCons K z (RCons K t RNil))) vs B ∧ pre x y z t ∧ ∀ v B2 H2, Up B H B2 H2 → Rep.at_ K B2 v (f x y z t) → Q v H2
theorem Fn4.len {pre : α → β → γ → δ → Prop} {f : α → β → γ → δ → ε} (vs : List V) (H : Hp) (Q : VK) (E : XK) (h : Fn4 K pre f vs H Q E) : vs.length = 4 := by
  obtain ⟨x, y, z, t, B, e, ⟨v, r, rfl, h1, v2, r2, rfl, h2, v3, r3, rfl, h3, v4, r4, rfl, h4, rfl⟩, _⟩ := h
  rfl
end
end
end Ob
set_option Elab.async false
set_option linter.all false
set_option maxRecDepth 100000
set_option maxHeartbeats 4000000
/-! Kw: calls by names only, in any order. -/
namespace Ob
open PySem PySem.Spec PyProof.Rows L2
open Evl (Ex)
/-- the items at these places -/
def permL {α : Type} : List Nat → List α → List α
  | [], _ => []
  | i :: is, ws => (ws[i]?).toList ++ permL is ws
theorem permL_vals {zs : List V} {ws : List Value} (r : Vals zs ws) : ∀ is : List Nat, Vals (permL is zs) (permL is ws)
  | [] => .nil
  | i :: is => by
    have ih := permL_vals r is
    unfold permL
    cases h : zs[i]? with
    | none =>
      have : ws[i]? = none := by
        rw [List.getElem?_eq_none_iff] at h ⊢
        rw [← r.length]
        exact h
      rw [this]
      exact ih
    | some x =>
      obtain ⟨u, hu, ru⟩ := r.get h
      rw [hu]
      exact .cons ru ih
section
variable {K : PySem.W.Frag} {x qual : Str} {params : Arguments} {body : List Stmt} {scope : Scope} {kws : List (Str × V)} {f : Addr} {fd : FuncData} {ps : List Str}
theorem kbinds0 (F : FunD K x qual params body scope [] kws f fd) (ks : List Str) (is : List Nat)
    (h : ∀ (kV doc pm : Value) (an : Option Addr) (cdv ct : Value) (ws : List Value), ws.length = ks.length → bindArgs (PySem.W.fnOf x qual params body scope .none kV doc pm an cdv ct) ⟨[], ks.zip ws⟩ = pure (ps.zip (permL is ws))) : KBn K fd ps 0 ks (fun _ ws => permL is ws) (fun _ zs => permL is zs) := by
  obtain ⟨oc, od, dV, kV, doc, pm, an, cdv, ct, osl, rfl, lk, hcd, hD, hK⟩ := F.ex
  rcases hD with ⟨_, rfl⟩ | ⟨e, _⟩
  · exact ⟨fun s us ws _ l1 l2 => .of_eq (by rw [List.eq_nil_of_length_eq_zero l1]; exact h kV doc pm an cdv ct ws l2), fun _ r2 => permL_vals r2 is⟩
  · exact absurd rfl e
end
section
variable {X : Cx} {CX : CXT} {k n : Nat} {f : Addr} {fd : FuncData} {ps ks : List Str} {k1 k2 k3 k4 : Str} {sp : Sp} {E : XK} {x : Str} {p pos : Pos} {kws : List Keyword} {tk : TA} {g : List Value → List Value → List Value} {gV : List V → List V → List V}
/-- f(k = v, ..) -/
theorem pe_callK0 (F : FnOk X.prog X.w X.K X.mg X.base CX k f fd ps sp) (hr : Room k X.A) (hg : Gl X x) (hm : X.mg x = some (.ref f)) (hk : PySem.W.keepIn X.K (.ref f) = true) (hb : KBn X.K fd ps 0 ks g gV) (hx : Passes CX X E)
    (hkw : PK X kws tk) (hall : (backToKw pos (keywordEach kws X.env)).all (·.1.isSome) = true) (hks : (backToKw pos (keywordEach kws X.env)).filterMap (·.1) = ks)
    (hdb : (x == ("__debug__" : Str)) = false) (hpl : ((backTo pos (starEach [] X.env)).any (·.1) || (backToKw pos (keywordEach kws X.env)).any (·.1.isNone)) = false) :
    PE X (.Call (.Name x p) [] kws pos) (tCallN 0 ks.length sp gV E tNil tk) := by
  refine ⟨fun pins s σ H Q I h => ?_⟩
  refine wpAny_Call_Name_kw (ld_glob I hg hm ?_ hdb)
  refine PySem.W.callWith_KW0 (h₀ := X.base) I.ok.mod.kin hk hall ?_ hpl
  refine thn (hkw.run pos pins s σ H _ I h) fun ws s2 ⟨zs, H2, I2, rz, l1, l2, q2⟩ => ⟨I2.kIn, ?_⟩
  rw [hks]
  exact run_fnN F hr hb hx I2 .nil rz l1 l2 q2
theorem pe_callK0_1 (F : FnOk X.prog X.w X.K X.mg X.base CX k f fd ps sp) (hr : Room k X.A) (hg : Gl X x) (hm : X.mg x = some (.ref f)) (hk : PySem.W.keepIn X.K (.ref f) = true) (hb : KBn X.K fd ps 0 [k1] g gV) (hx : Passes CX X E)
    (hkw : PK X kws tk) (hall : (backToKw pos (keywordEach kws X.env)).all (·.1.isSome) = true := by rfl) (hks : (backToKw pos (keywordEach kws X.env)).filterMap (·.1) = [k1] := by rfl)
    (hdb : (x == ("__debug__" : Str)) = false := by decide) (hpl : ((backTo pos (starEach [] X.env)).any (·.1) || (backToKw pos (keywordEach kws X.env)).any (·.1.isNone)) = false := by rfl) :
    PE X (.Call (.Name x p) [] kws pos) (tCallN 0 1 sp gV E tNil tk) := pe_callK0 (ks := [k1]) F hr hg hm hk hb hx hkw hall hks hdb hpl
end
section
variable {K : PySem.W.Frag} {σ : L2.St} {B : Hp} {ta tb tc : TE} {E : XK}
variable {α β γ δ : Type} [Rep α] [Rep β] [Rep γ] [Rep δ]
theorem e_kw1 {pre : α → Prop} {f : α → β} {x : α} (h : Pe K ta σ B x) (hp : pre x) : Pe K (tCallN 0 1 (Fn1 K pre f) (fun _ zs => permL [0] zs) E tNil (tCons ta tNil)) σ B (f x) := fun H e Q q => by
  show tCons ta tNil σ H (fun zs H2 => ([] : List V).length = 0 ∧ zs.length = 1 ∧ Fn1 K pre f (permL [0] zs) H2 Q E)
  refine a_1 h H e _ fun vs B1 H1 u hv => ?_
  obtain ⟨v, _, rfl, h1, rfl⟩ := hv
  exact ⟨rfl, rfl, x, B1, u.bh, ⟨v, _, rfl, h1, rfl⟩, hp, fun v B2 H2 u2 h2 => q v B2 H2 (u.trans u2) h2⟩
end
end Ob
set_option Elab.async false
set_option linter.all false
set_option maxRecDepth 100000
set_option maxHeartbeats 4000000
/-! Xc: try .. except (A, B, C) as error: caught = error; the exception held behind the try; isinstance of it; raise X(). -/
namespace L2
open PySem PySem.Spec PyProof.Rows
/-- an exception of class cls, its dict d, caught and held at a -/
def exH (a : Addr) (cls : Value) (d : Option Addr) : HO := .ext fun h => ∃ (oe : Obj) (vs : Array Value), h.get? a = some oe ∧ Zc cls d oe ∧ oe.data = .fields vs
theorem exH_ok {P : Program} {w : World} {H : Hp} {h : Heap} {a : Addr} {cls : Value} {d : Option Addr} {oe : Obj} {vs : Array Value} (e : h.get? a = some oe) (z : Zc cls d oe) (hd : oe.data = .fields vs) : ObjOk P w H h a (exH a cls d) :=
  ⟨⟨oe, vs, e, z, hd⟩, ⟨oe, e⟩, fun _ _ ⟨o, v, q, r⟩ k => ⟨o, v, k o q, r⟩⟩
theorem flying_push {base h : Heap} {l : List Env} {e : Addr} {Z : Obj → Prop} {o : Obj} (x : HandSPX.FlyingZ base l e Z h) : HandSPX.FlyingZ base l e Z (h.push o) := by
  obtain ⟨k1, k2, k3, oe, vs, T, oT, ts, he, hz, hd, h1, hnT, hTe, hT, hdT, h3⟩ := x
  exact ⟨fun b o q => Heap.get?_push_of_some _ (k1 b o q), k2, Heap.FunFrames.of_keeps (fun b o e _ => ⟨o, Heap.get?_push_of_some _ e, rfl⟩) k3, oe, vs, T, oT, ts, Heap.get?_push_of_some _ he, hz, hd, h1, hnT, hTe, Heap.get?_push_of_some _ hT, hdT, h3⟩
section
variable {X : Cx} {pins : List (Addr × Obj)} {σ : St} {H : Hp} {s : Shared}
theorem Inv.track (I : Inv X pins σ H s) {a : Addr} {oe : Obj} {vs : Array Value} {cls : Value} {d : Option Addr} (ha : s.heap.get? a = some oe) (hz : Zc cls d oe) (hd : oe.data = .fields vs) (na : H a = none) (nL : a ≠ X.env.locals)
    (n0 : X.s_0.heap.get? a = none) (nP : ∀ p ∈ X.pn ++ pins, p.1 ≠ a) : Inv X pins σ (upd H a (exH a cls d)) s :=
  ⟨I.ok, I.os, I.bare, ⟨I.base.keep, I.base.slot, fun b o e n hq => by
      rw [upd_ne (fun z => by rw [z, n0] at e; cases e)]
      exact I.base.free b o e n hq, I.base.there, fun b xs e => by
      have q := I.base.tups b xs e
      rw [upd_ne (ne_of_none q na)]
      exact q, fun b o u e => by
      have q := I.base.frzs b o u e
      rw [upd_ne (ne_of_none q na)]
      exact q, fun b ps e => by
      obtain ⟨m, q⟩ := I.base.tbls b ps e
      exact ⟨m, by rw [upd_ne (ne_of_none q na)]; exact q⟩⟩, I.loc, I.cell, by
    rw [upd_ne (Ne.symm nL)]
    exact I.free, fun x c e => by
    obtain ⟨v, o, ho, hv⟩ := I.cell x c e
    rw [upd_ne (fun z => by
      rw [z, ha] at ho
      cases ho
      rw [hd] at hv
      cases hv)]
    exact I.freeC x c e, fun p hp => by
    obtain ⟨e, n, r⟩ := I.pin p hp
    exact ⟨e, by rw [upd_ne (nP p hp)]; exact n, r⟩, I.hok.laidN (fun _ _ q => q) na (exH_ok ha hz hd), I.len⟩
theorem PS.nox {st : Stmt} {t : TS} (h : PS X.nox st t) : PS X st t := ⟨fun pins s σ H D I hw =>
  wpAny_mono (h.run pins s σ H D (I.wish _) hw) (fun _ _ q => q.unwish) fun _ _ z => False.elim z⟩
end
/-- what 'except (..) as n' wishes of an exception of the body; behind its suite the exception is held -/
def wHold (K : PySem.W.Frag) (cs : List Value) (i : Nat) (ts : Addr → Value → Option Addr → TS) (Wout : WX) (D : Ends) : WX := fun cls d σ H =>
  ∃ b, PySem.W.exmAny K cls cs = some b ∧ (b = true → ∀ a, H a = none → ts a cls d { nx := fun σ' H' => H' a = none → D.nx (σ'.set i none) (upd H' a (exH a cls d)), rt := D.rt, bk := fun σ' H' => D.bk (σ'.set i none) H', ct := fun σ' H' => D.ct (σ'.set i none) H' } (σ.set i (some (.ref a))) H) ∧
    (b = false → Wout cls d σ H)
/-- isinstance(e, c), e an exception that is held -/
def rIsH (K : PySem.W.Frag) : List V → Hp → VK → Prop := fun xs H Q => ∃ (a D : Addr) (c : V) (cv : Value) (b : Bool), xs = [.ref a, c] ∧ H a = some (exH a (.ref D) none) ∧ ExcC K D ∧ (∀ u, RelV c u → u = cv) ∧ PySem.W.kitOne K (.ref D) cv = some b ∧ Q (.bl b) H
theorem call_isH {X : Cx} : CallR X (.builtin "isinstance") (rIsH X.K) := by
  intro pins s σ H xs us Q I r h
  obtain ⟨a, D, c, cv, b, rfl, ha, C, hcv, e, q⟩ := h
  cases r with
  | cons rx rr =>
    cases rr with
    | cons rt rr =>
      cases rr
      cases rx
      have ec := hcv _ rt
      subst ec
      have x : ObjOk X.prog X.w H s.heap a (exH a (.ref D) none) := I.hok a _ ha
      obtain ⟨⟨oe, vs, hget, hz, hv⟩, _⟩ := x
      have J : PySem.W.InstAt s.heap a oe D none := by
        obtain ⟨oc, od, oda, osl⟩ := oe
        obtain ⟨h1, h2⟩ := hz
        dsimp only at h1 h2 hv
        subst h1 h2 hv
        exact ⟨hget, rfl, rfl, trivial⟩
      exact PySem.W.kia_one (PySem.W.handS_kitx_exc C.hg C.hk C.hs C.hd C.ha C.hn C.ht C.hm) I.kIn J e (fun z => nomatch z) fun tk => ⟨.bl b, H, I.kept (t' := tk) fun _ _ z => z, rfl, q⟩
end L2
set_option Elab.async false
set_option linter.all false
set_option maxRecDepth 100000
set_option maxHeartbeats 4000000
/-! Lam: sorted(xs, key=lambda x: (-far[x], x)): the lambda's code object, kept in the maker's table; the order. -/
namespace Ob
open PySem PySem.Spec PyProof.Rows L2
open Evl (Ex)
open LamX (CodeO TabB)
open PySem.W (Datum Tup DatumOrd)
/-- the table at P: the code objects that it tells are frozen -/
structure LtAt (q : Str) (B H : Hp) (P : Addr) : Prop where
  fb : B P = none
  tb : ∃ ps : Array Value, H P = some (.tbl ps) ∧ TriplesOk ps.toList ∧ ∀ (pos : Pos) (cv : Value), codeAmong pos ps.toList = some cv → ∃ c, cv = .ref c ∧ B c = some (CodeO c q)
theorem LtAt.ne {q : Str} {B H : Hp} {P : Addr} (t : LtAt q B H P) : H P ≠ none := by
  obtain ⟨ps, h, _⟩ := t.tb
  rw [h]
  exact fun z => nomatch z
theorem LtAt.up {q : Str} {B H B1 H1 : Hp} {P : Addr} (t : LtAt q B H P) (u : Up B H B1 H1) : LtAt q B1 H1 P := by
  obtain ⟨ps, h, h2, h3⟩ := t.tb
  refine ⟨(u.out t.fb h).1, ps, (u.out t.fb h).2, h2, fun pos cv e => ?_⟩
  obtain ⟨c, e1, e2⟩ := h3 pos cv e
  exact ⟨c, e1, u.bb _ _ e2⟩
/-! ### one call of the key -/
end Ob
set_option Elab.async false
set_option linter.all false
set_option maxRecDepth 100000
set_option maxHeartbeats 8000000
/-! Dc2: {k: v for .. in .. if .. for .. in .. if ..}: a dict comprehension with two fors. Modelled on the layer's rules for one for, and for lists. -/
set_option Elab.async false
set_option linter.all false
set_option maxRecDepth 100000
set_option maxHeartbeats 4000000
/-! Xd: dicts with tuples of texts as keys: {k: v}, k in d, d[k] = v. -/
namespace Ob
open PySem PySem.Spec PyProof.Rows L2
open Evl (Ex)
open PySem.W (Datum Tup DatumOrd)
/-- a set of tuples of texts, held as the keys of a dict -/
structure TSet where
  ks : List (List Str)
def kT (x : List Str) : List Key := x.map Sum.inr
instance : Rep TSet := ⟨fun K B v S => ∃ a kvs, v = .ref a ∧ Rd B a (.dT kvs) ∧ kvs.map (·.1) = S.ks.map kT, fun e ⟨a, kvs, h1, h2, h3⟩ => ⟨a, kvs, h1, e.1 a _ rfl h2, h3⟩⟩
end Ob
set_option Elab.async false
set_option linter.all false
set_option maxRecDepth 100000
set_option maxHeartbeats 4000000
/-! S7: while in the record; names set at once of which one is new and changes; a dict frozen. -/
namespace Ob
open PySem L2
open Evl (Ex)
open PySem.W (Datum Tup DatumOrd)
section
variable {K : PySem.W.Frag} {W0 : List Addr} {B0 H0 : Hp} {os : List OC} {Γ : List (Option Cell)} {σ : L2.St} {B H B1 H1 : Hp} {te ta tb tc tk tv : TE} {tt : TT} {D : Ends} {tu tw tz : TS}
theorem St.qforG {α δ : Type} [Rep α] {wi : TI} {g : TG} {xs : List α} (s : St K W0 B0 H0 os Γ σ B H) (h : ItD K wi σ B xs) (oz : List α → δ → List OC) (Γz : List α → δ → List (Option Cell)) (P : List α → δ → Prop)
    (h0 : ∃ d, P [] d ∧ ∀ B1 H1, St K W0 B0 H0 os Γ σ B1 H1 → St K W0 B0 H0 (oz [] d) (Γz [] d) σ B1 H1)
    (hs : ∀ done x rest d, xs = done ++ x :: rest → P done d → ∀ (v : V) (σ' : L2.St) (B' H' : Hp) (N : L2.St → Hp → Prop), (∀ (d' : δ) {σ3 : L2.St} {B3 H3 : Hp}, P (done ++ [x]) d' → St K ((oz done d).map (·.l)) B' H' (oz (done ++ [x]) d') (Γz (done ++ [x]) d') σ3 B3 H3 → N σ3 H3) →
      St K W0 B0 H0 (oz done d) (Γz done d) σ' B' H' → Rep.at_ K B' v x → g v σ' H' fun σ2 H2 => tu { D with nx := N, ct := N, bk := tz D } σ2 H2)
    (k : ∀ d, P xs d → ∀ σ' B' H', St K W0 B0 H0 (oz xs d) (Γz xs d) σ' B' H' → tz D σ' H') : tSeq (tFor wi g tu) tz D σ H := s.forG (D := { D with nx := tz D }) h oz Γz P h0 hs k
end
end Ob
set_option Elab.async false
set_option linter.all false
set_option maxRecDepth 100000
set_option maxHeartbeats 4000000
/-! Dd: dicts from texts to ints that grow: {x: n for ..} with one for and with two, update by new keys. -/
set_option Elab.async false
set_option linter.all false
set_option maxRecDepth 100000
set_option maxHeartbeats 4000000
/-! Dr: dicts from texts to ints that grow, in the record. -/
namespace Ob
open PySem L2
open Evl (Ex)
open PySem.W (Datum Tup DatumOrd)
section
variable {K : PySem.W.Frag} {W0 : List Addr} {B0 H0 : Hp} {os : List OC} {Γ : List (Option Cell)} {σ : L2.St} {B H B1 H1 : Hp} {te ta tb tc tk tv : TE} {tt tt1 : TT} {D : Ends} {tu tw tz : TS}
/-- a new object that a reading made, kept as one that may change -/
theorem St.adopt (s : St K W0 B0 H0 os Γ σ B H) (u : Up B H B1 H1) {p : Addr} {ob : HO} (hb : B1 p = none) (hn : H p = none) (hp : H1 p = some ob) (o : OC) (ho : o.l = p) (hP : o.P B1 ob) : St K W0 B0 H0 (os ++ [o]) Γ σ B1 H1 := by
  have s1 := s.up u
  have h0 : H0 p = none := by
    cases q : H0 p with
    | none => rfl
    | some x => exact absurd hn (s.dm p (by rw [q]; exact fun z => nomatch z))
  refine ⟨s1.bb, s1.bh, s1.hh, s1.dm, s1.nw, fun o' ho' => ?_, ?_, s1.sl⟩
  · rcases List.mem_append.mp ho' with h | h
    · exact s1.own o' h
    · rw [List.mem_singleton.mp h, ho]
      exact ⟨hb, .inr h0, ob, hp, hP⟩
  · rw [List.map_append, List.nodup_append]
    refine ⟨s1.nd, by simp, fun a ha c hc e => ?_⟩
    obtain ⟨o', h, rfl⟩ := List.mem_map.mp ha
    have : c = p := (List.mem_singleton.mp hc).trans ho
    obtain ⟨_, _, x, h3, _⟩ := s.own o' h
    rw [e, this, hn] at h3
    cases h3
end
end Ob
set_option Elab.async false
set_option linter.all false
set_option maxRecDepth 100000
set_option maxHeartbeats 4000000
/-! Tb: promises of defs behind which a lambda is made: the maker's table may grow. -/
namespace Ob
open PySem PySem.Spec PyProof.Rows L2
open Evl (Ex)
open LamX (CodeO TabB)
open PySem.W (Datum Tup DatumOrd)
def tabC (q : Str) (P : Addr) : OC := ⟨P, fun B o => ∃ ps : Array Value, o = .tbl ps ∧ TriplesOk ps.toList ∧ ∀ (pos : Pos) (cv : Value), codeAmong pos ps.toList = some cv → ∃ c, cv = .ref c ∧ B c = some (CodeO c q), fun e ⟨ps, h1, h2, h3⟩ => ⟨ps, h1, h2, fun pos cv h => by
  obtain ⟨c, e1, e2⟩ := h3 pos cv h
  exact ⟨c, e1, e _ _ e2⟩⟩⟩
theorem LtAt.put {q : Str} {B H : Hp} {P a : Addr} {o : HO} (t : LtAt q B H P) (ne : P ≠ a) : LtAt q B (upd H a o) P := ⟨t.fb, by
  obtain ⟨ps, h, h2⟩ := t.tb
  exact ⟨ps, by rw [upd_ne ne]; exact h, h2⟩⟩
theorem LtAt.frz {q : Str} {B H : Hp} {P a : Addr} {o : HO} (t : LtAt q B H P) (ne : P ≠ a) (e : Ex B (upd B a o)) : LtAt q (upd B a o) H P := ⟨by rw [upd_ne ne]; exact t.fb, by
  obtain ⟨ps, h, h2, h3⟩ := t.tb
  refine ⟨ps, h, h2, fun pos cv z => ?_⟩
  obtain ⟨c, e1, e2⟩ := h3 pos cv z
  exact ⟨c, e1, e _ _ e2⟩⟩
theorem LtAt.own {q : Str} {B H : Hp} {P : Addr} (t : LtAt q B H P) : B P = none ∧ ∃ ob, H P = some ob ∧ (tabC q P).P B ob := by
  obtain ⟨ps, h, h2, h3⟩ := t.tb
  exact ⟨t.fb, _, h, ps, rfl, h2, h3⟩
/-- a reading behind which the table may have grown -/
def PqT {α : Type} [Rep α] (K : PySem.W.Frag) (q : Str) (P : Addr) (te : TE) (σ : L2.St) (B : Hp) (R : α → Prop) : Prop := ∀ H, Ex B H → LtAt q B H P → ∀ Q : VK, (∀ v x B2 H2, Ub P B H B2 H2 → LtAt q B2 H2 P → R x → Rep.at_ K B2 v x → Q v H2) → te σ H Q
section
variable {α β γ δ ε : Type} [Rep α] [Rep β] [Rep γ] [Rep δ] [Rep ε]
def FnT3R (K : PySem.W.Frag) (q : Str) (P : Addr) (pre : α → β → γ → Prop) (R : α → β → γ → δ → Prop) : Sp := fun vs H Q _ => ∃ x y z B, Ex B H ∧ LtAt q B H P ∧ RCons K x (RCons K y (RCons K z RNil)) vs B ∧ pre x y z ∧ ∀ v r B2 H2, Ub P B H B2 H2 → LtAt q B2 H2 P → R x y z r → Rep.at_ K B2 v r → Q v H2
def FnT4R (K : PySem.W.Frag) (q : Str) (P : Addr) (pre : α → β → γ → δ → Prop) (R : α → β → γ → δ → ε → Prop) : Sp := fun vs H Q _ => ∃ x y z t B, Ex B H ∧ LtAt q B H P ∧ RCons K x (RCons K y (RCons K z (RCons K t RNil))) vs B ∧ pre x y z t ∧ ∀ v r B2 H2, Ub P B H B2 H2 → LtAt q B2 H2 P → R x y z t r → Rep.at_ K B2 v r → Q v H2
end
section
variable {K : PySem.W.Frag} {W0 : List Addr} {B0 H0 : Hp} {os : List OC} {Γ : List (Option Cell)} {σ : L2.St} {B H B1 H1 : Hp} {te ta tb tc td tk tv : TE} {tt tt1 : TT} {D : Ends} {tu tw tz : TS} {q : Str} {P : Addr}
theorem PqT.mono {α : Type} [Rep α] {R : α → Prop} {B' : Hp} (h : ∀ B', Ex B B' → PqT K q P te σ B' R) (e : Ex B B') : PqT K q P te σ B' R := h B' e
section
variable {α β γ δ ε : Type} [Rep α] [Rep β] [Rep γ] [Rep δ] [Rep ε] {vs : List V} {Q : VK} {E : XK}
theorem FnT3R.len {pre : α → β → γ → Prop} {R : α → β → γ → δ → Prop} (vs : List V) (H : Hp) (Q : VK) (E : XK) (h : FnT3R K q P pre R vs H Q E) : vs.length = 3 := by
  obtain ⟨x, y, z, B, e, _, ⟨v, r, rfl, h1, v2, r2, rfl, h2, v3, r3, rfl, h3, rfl⟩, _⟩ := h
  rfl
theorem FnT4R.len {pre : α → β → γ → δ → Prop} {R : α → β → γ → δ → ε → Prop} (vs : List V) (H : Hp) (Q : VK) (E : XK) (h : FnT4R K q P pre R vs H Q E) : vs.length = 4 := by
  obtain ⟨x, y, z, t, B, e, _, ⟨v, r, rfl, h1, v2, r2, rfl, h2, v3, r3, rfl, h3, v4, r4, rfl, h4, rfl⟩, _⟩ := h
  rfl
end
end
/-! ### the law's end -/
/-- _law_right, behind which the table may have grown -/
def RightPT (K : PySem.W.Frag) (q : Str) (P : Addr) : Sp := fun vs H Q _ => ∃ b B, vs = [.ref b] ∧ Ex B H ∧ BoxAt 0 B H b ∧ LtAt q B H P ∧
  ∀ B2 H2, Ex B B2 → Ex B2 H2 → (∀ a u, a ≠ b → a ≠ P → H a = some u → H2 a = some u) → (∀ a, B2 a ≠ none → B a ≠ none ∨ H a = none) → LtAt q B2 H2 P → Q (.bl true) H2
section
variable {K : PySem.W.Frag} {W0 : List Addr} {B0 H0 : Hp} {os : List OC} {Γ : List (Option Cell)} {σ : L2.St} {B H B1 H1 : Hp} {te ta tb tc td tk tv : TE} {tt tt1 : TT} {D : Ends} {tu tw tz : TS} {q : Str} {P : Addr} {vs : List V} {Q : VK} {E : XK}
theorem RightPT.len (vs : List V) (H : Hp) (Q : VK) (E : XK) (h : RightPT K q P vs H Q E) : vs.length = 1 := by
  obtain ⟨b, B, rfl, _⟩ := h
  rfl
end
/-- the law, of its script -/
def LawPT (K : PySem.W.Frag) (q : Str) (P : Addr) : Sp := fun vs H Q _ => ∃ (s : Sq Int) (B : Hp), Ex B H ∧ LtAt q B H P ∧ (∃ v, vs = [v] ∧ Rep.at_ K B v s) ∧ ∀ H2, Q (.bl true) H2
theorem LawPT.len {K : PySem.W.Frag} {q : Str} {P : Addr} (vs : List V) (H : Hp) (Q : VK) (E : XK) (h : LawPT K q P vs H Q E) : vs.length = 1 := by
  obtain ⟨s, B, _, _, ⟨v, rfl, _⟩, _⟩ := h
  rfl
theorem LawPT.start {K : PySem.W.Frag} {q : Str} {P : Addr} {H : Hp} {a : Addr} {ns : List Int} (hP : H P = some (.tbl #[])) (hS : SqL K H a (ns.map V.int)) : LawPT K q P [.ref a] H (fun v _ => v = .bl true) fun _ _ _ => False := by
  have cut : ∀ {b : Addr} {o : HO}, H b = some o → o ≠ .tbl #[] → cutH H P b = some o := fun {b o} h n => by
    have : b ≠ P := fun z => n (by rw [z, hP] at h; exact (Option.some.inj h).symm)
    rw [cutH_ne this]
    exact h
  refine ⟨⟨ns⟩, cutH H P, fun b o h => ?_, ⟨cutH_same, #[], hP, trivial, fun pos cv h => by simp [codeAmong] at h⟩, ⟨_, rfl, a, _, rfl, .inl (hS.imp (fun h => h.imp (fun h => cut h fun z => nomatch z) fun ⟨o, h⟩ => ⟨o, cut h fun z => nomatch z⟩) id), ints_atAll ns⟩, fun _ => rfl⟩
  by_cases hb : b = P
  · rw [hb, cutH_same] at h
    cases h
  · rw [cutH_ne hb] at h
    exact h
end Ob
set_option Elab.async false
set_option linter.all false
set_option maxRecDepth 100000
set_option maxHeartbeats 4000000
/-! Xe: promises of defs that may raise; the try that holds what it caught; the class's facts. -/
namespace Ob
open PySem PySem.Spec PyProof.Rows L2
open Evl (Ex)
open PySem.W (Datum Tup DatumOrd)
/-- try: body / except (..) as n: suite, the reading -/
def tTryH (K : PySem.W.Frag) (cs : List Value) (i : Nat) (tb : WX → TS) (ts : Addr → Value → Option Addr → TS) (Wout : WX) : TS := fun D σ H => tb (wHold K cs i ts Wout D) D σ H
section
variable {α β γ : Type} [Rep α] [Rep β] [Rep γ]
def FnT2R (K : PySem.W.Frag) (q : Str) (P : Addr) (pre : α → β → Prop) (R : α → β → γ → Prop) : Sp := fun vs H Q _ => ∃ x y B, Ex B H ∧ LtAt q B H P ∧ RCons K x (RCons K y RNil) vs B ∧ pre x y ∧ ∀ v r B2 H2, Ub P B H B2 H2 → LtAt q B2 H2 P → R x y r → Rep.at_ K B2 v r → Q v H2
/-- the same, or the exception C is raised -/
def FnX2 (K : PySem.W.Frag) (q : Str) (P C : Addr) (pre : α → β → Prop) (R : α → β → γ → Prop) (bad : α → β → Prop) : Sp := fun vs H Q E => FnT2R K q P pre R vs H Q E ∨ ∃ x y B, Ex B H ∧ RCons K x (RCons K y RNil) vs B ∧ bad x y ∧ ∀ B2 H2, Up B H B2 H2 → E (.ref C) none H2
end
section
variable {K : PySem.W.Frag} {W0 : List Addr} {B0 H0 : Hp} {os : List OC} {Γ : List (Option Cell)} {σ : L2.St} {B H B1 H1 : Hp} {te ta tb tc td tk tv : TE} {tt tt1 : TT} {D : Ends} {tu tw tz : TS} {q : Str} {P C : Addr}
variable {α β γ : Type} [Rep α] [Rep β] [Rep γ] {vs : List V} {Q : VK} {E : XK} {pre : α → β → Prop} {R : α → β → γ → Prop} {bad : α → β → Prop}
theorem FnT2R.len (vs : List V) (H : Hp) (Q : VK) (E : XK) (h : FnT2R K q P pre R vs H Q E) : vs.length = 2 := by
  obtain ⟨x, y, B, e, _, ⟨v, r, rfl, h1, v2, r2, rfl, h2, rfl⟩, _⟩ := h
  rfl
theorem FnX2.len (vs : List V) (H : Hp) (Q : VK) (E : XK) (h : FnX2 K q P C pre R bad vs H Q E) : vs.length = 2 := by
  rcases h with h | ⟨x, y, B, e, ⟨v, r, rfl, h1, v2, r2, rfl, h2, rfl⟩, _⟩
  · exact FnT2R.len vs H Q E h
  · rfl
end
end Ob
set_option Elab.async false
set_option linter.all false
set_option maxRecDepth 100000
set_option maxHeartbeats 4000000
/-! Nx: own exception classes over any base, whose __init__ calls the base's and stores one field. -/
namespace PySem
namespace NSX
open PySem.W PySem.Calls PyProof.Rows PySem.HandSPX
section
open Builtin Builtin.ObjectAttr
variable {prog : Program} {w : World} {A : Around} {E : Value → Shared → Prop} {R : Result → Shared → Prop} {hp : Heap} {g : Array GenState} {d : Drawn} {t : Nat} {os : OsState}
/-- the first field of such an exception -/
theorem osa_newG {B : String} {bmB : List Value} {K : W.Frag} {name : Str} {tk : Tok} {v : Value} {x C : Addr} {fv : Array Value} (SF : StoreFacts B bmB "object.__setattr__" "object") (X : K.In hp) (hx : hp.get? x = some { cls := .ref C, data := .fields fv })
    (ho : W.excOver K C bmB = true) (hd : W.hasDictIn K C = true) (ha : W.findIn K (.ref C) name = some none)
    (hq : ∀ h' tk' dx, (∀ b o, b ≠ x → hp.get? b = some o → h'.get? b = some o) → hp.objs.size ≤ dx → dx ≠ x → h'.get? x = some { cls := .ref C, dict := some dx, data := .fields fv } →
      h'.Ns1 dx (fun y => if y = name then some v else none) → R (.ok (.ret .none)) ⟨h', g, d, tk', os⟩) :
    codeAny (model prog w) A (.call (.builtin "object.__setattr__") ⟨[.ref x, .str name tk, v], []⟩) R ⟨hp, g, d, t, os⟩ := by
  have I : W.InstAt hp x { cls := .ref C, data := .fields fv } C none := ⟨hx, rfl, rfl, trivial⟩
  have hne : x ≠ hp.objs.size := Nat.ne_of_lt (Heap.lt_size hx)
  obtain ⟨cd, hcd, hh⟩ := W.any_some hd
  refine W.osa_openX SF X I ho (r := none) (by unfold W.takerIn; rw [ha]; rfl) fun b => ?_
  show wpAny _ _ (storeInOwnDict (.ref x) (.ref C) (.str name tk) name v b) _ _ _
  have Lc : W.Looks (model prog w) hp (classData C) cd := W.looks_clsIn X hcd
  obtain ⟨nm, bs, mro, ns, qn, hdd, sn, sb, ab, col, dl⟩ := cd
  replace hh : hdd = true := hh
  subst hh
  unfold storeInOwnDict ownDictForStores
  repeat (first | with_reducible refine HandSPX.store_in_new ?_ ?_ | with_reducible refine wpAny_loadPart_at hx ?_ | with_reducible refine Lc.at ?_ | wp_step)
  · exact ⟨_, #[], _, (Heap.get?_update_ne _ _ _ _ hne.symm).trans (Heap.get?_push_at rfl rfl), rfl, fun e he => absurd he (by simp), fun _ => rfl⟩
  · intro h' tk' hn' hs
    have h1 : (hp.push { cls := .type "dict", data := .dict #[] }).get? x = some { cls := .ref C, data := .fields fv } := Heap.get?_push_of_some _ hx
    refine hq h' tk' hp.objs.size (fun b o hb hbo => ?_) (Nat.le_refl _) hne.symm ((hs.2 x hne).trans (Heap.get?_update_self _ h1 rfl)) hn'
    exact (hs.2 b (Nat.ne_of_lt (Heap.lt_size hbo))).trans ((Heap.get?_update_ne _ _ _ _ hb).trans (Heap.get?_push_of_some _ hbo))
end
end NSX
end PySem
namespace L2
open PySem PySem.Spec PyProof.Rows
/-- what is known of such a class C (its __init__ at fI, its field f), of its base -/
structure NsC (K : PySem.W.Frag) (C fI : Addr) (f : Str) (bmB : List Value) (newId : String) : Prop where
  ei : PySem.W.excInitIn K C bmB newId = true
  eo : PySem.W.excOver K C bmB = true
  hd : PySem.W.hasDictIn K C = true
  sa : PySem.W.findIn K (.ref C) "__setattr__" = some (some (.builtin "object.__setattr__"))
  no : PySem.W.findIn K (.ref C) f = some none
  iC : PySem.W.findIn K (.ref C) "__init__" = some (some (.ref fI))
  tI : PySem.W.typeIn K (.ref fI) = some (.type "function")
  exC : PySem.W.subIn K (.ref C) (.type "BaseException") = some true
  tyC : PySem.W.typeIn K (.ref C) = some (.type "type")
  kC : PySem.W.keepIn K (.ref C) = true
  ga : PySem.W.findIn K (.ref C) "__getattribute__" = some (some (.builtin "BaseException.__getattribute__"))
  gg : PySem.W.findIn K (.ref C) "__getattr__" = some none
  ca : PySem.W.findIn K (.ref C) "__class__" = some (some (.builtin "object.__class__"))
  cg : PySem.W.specialIn K (.builtin "object.__class__") "__get__" = some (some (.builtin "getset_descriptor.__get__"))
  ct : PySem.W.takesIn K (.builtin "object.__class__") = some true
  cm : PySem.W.mroIn K C (.type "object") = some true
section
variable {X : Cx} {pins : List (Addr × Obj)} {σ : St} {H : Hp} {s : Shared} {a C fI dx : Addr} {f : Str} {y : V} {u : Value} {E : Value → Shared → Prop} {A : Around} {B newId initId : String} {bmB : List Value}
theorem Inv.trackG (I : Inv X pins σ H s) {a : Addr} {oe : Obj} {o : HO} (ha : s.heap.get? a = some oe) (hd : ∀ v, oe.data ≠ .cell v) (na : H a = none) (nL : a ≠ X.env.locals)
    (n0 : X.s_0.heap.get? a = none) (nP : ∀ p ∈ X.pn ++ pins, p.1 ≠ a) (new : ObjOk X.prog X.w (upd H a o) s.heap a o) : Inv X pins σ (upd H a o) s :=
  ⟨I.ok, I.os, I.bare, ⟨I.base.keep, I.base.slot, fun b o e n hq => by
      rw [upd_ne (fun z => by rw [z, n0] at e; cases e)]
      exact I.base.free b o e n hq, I.base.there, fun b xs e => by
      have q := I.base.tups b xs e
      rw [upd_ne (ne_of_none q na)]
      exact q, fun b o u e => by
      have q := I.base.frzs b o u e
      rw [upd_ne (ne_of_none q na)]
      exact q, fun b ps e => by
      obtain ⟨m, q⟩ := I.base.tbls b ps e
      exact ⟨m, by rw [upd_ne (ne_of_none q na)]; exact q⟩⟩, I.loc, I.cell, by
    rw [upd_ne (Ne.symm nL)]
    exact I.free, fun x c e => by
    obtain ⟨v, o, ho, hv⟩ := I.cell x c e
    rw [upd_ne (fun z => by
      rw [z, ha] at ho
      cases ho
      exact hd v hv)]
    exact I.freeC x c e, fun p hp => by
    obtain ⟨e, n, r⟩ := I.pin p hp
    exact ⟨e, by rw [upd_ne (nP p hp)]; exact n, r⟩, I.hok.laidN (fun _ _ q => q) na new, I.len⟩
/-- self.f = y -/
theorem ostG (SF : StoreFacts B bmB "object.__setattr__" "object") (T : NsC X.K C fI f bmB newId) (I : Inv X pins σ H s) (e : H a = some (exo a C none)) (ry : RelV y u) {Q : Unit → Shared → Prop}
    (h : ∀ dx s', H dx = none → dx ≠ a → Inv X pins σ (upd (upd H a (exo a C (some dx))) dx (exd dx [(f, y)])) s' → Q () s') : wpAny (model X.prog X.w) A (setAttr (.ref a) f u) Q E s := by
  obtain ⟨t1, ho⟩ := exo_at I.hok e
  obtain ⟨hp, g, d, t, os⟩ := s
  refine PySem.W.set_plain I.kIn (ox := { cls := .ref C, dict := none, data := .fields #[.ref t1, .none, .none, .none, .bool false, .none] }) (od := none) ⟨ho, rfl, rfl, trivial⟩ T.sa ?_
  refine PySem.NSX.osa_newG SF I.kIn ho T.eo T.hd T.no fun h' tk' dx k dn dne hx hn => ?_
  have hnd : H dx = none := I.hok.fresh dn
  have J := I.write (t' := tk') (x := a) (e := a) (o := exo a C (some dx)) (by rw [e]; exact True.intro) (.inl rfl) k ⟨_, hx⟩ (exo_ok hx)
  obtain ⟨od, es, ep, hod, hdd, hrest⟩ := id hn
  have hlt : ∀ {b : Addr} {o : Obj}, hp.get? b = some o → b ≠ dx := fun {b o} q => Nat.ne_of_lt (Nat.lt_of_lt_of_le (Heap.lt_size q) dn)
  refine h dx _ hnd dne (J.trackG hod (fun v z => by rw [hdd] at z; cases z) (by rw [upd_ne dne]; exact hnd) (fun z => ?_) ?_ (fun p hp z => ?_) (exd_ok hn (relO_put (fs := []) ry fun g => True.intro)))
  · have := I.lt
    rw [← z] at this
    exact absurd (Nat.lt_of_lt_of_le this dn) (Nat.lt_irrefl _)
  · cases q : X.s_0.heap.get? dx with
    | none => rfl
    | some o => exact absurd (Nat.lt_of_lt_of_le (Heap.lt_size q) (Nat.le_trans I.sz dn)) (Nat.lt_irrefl _)
  · exact hlt (I.pin p hp).1 z
/-- B.__init__(self, ..) -/
theorem binit_ok {us : List Value} {Q : Value → Shared → Prop} (F : ExcBaseFacts B newId initId bmB) (T : NsC X.K C fI f bmB newId) (I : Inv X pins σ H s) (e : H a = some (exo a C none)) (hl : us.length ≤ sizeLine) (h : ∀ s', Inv X pins σ H s' → Q .none s') :
    wpAny (model X.prog X.w) A (call (.builtin initId) (.ref a :: us)) Q E s := by
  obtain ⟨nm, N, qn, bs, bm, hdct, sn, sub, ab, col, dd, k0, k1, k2, k3, k5, hC, hT⟩ := PySem.W.excInit_of I.kIn T.ei
  obtain ⟨t1, ho⟩ := exo_at I.hok e
  obtain ⟨hp, g, d, t, os⟩ := s
  refine wpAny_call (PySem.HandSPX.init_base F hT hC ho hl fun h' t2 k hx => ?_)
  have J := I.write (t' := t) (x := a) (e := a) (o := exo a C none) (by rw [e]; exact True.intro) (.inl rfl) k ⟨_, hx⟩ (exo_ok hx)
  have eu : upd H a (exo a C none) = H := funext fun b => by
    by_cases hb : b = a
    · rw [hb, upd_same, e]
    · rw [upd_ne hb]
  exact h _ (eu ▸ J)
end
/-- B.__init__(self, ..), the reading -/
def tBinit (C : Addr) (ta : TA) : TE := fun σ H Q => ta σ H fun vs H1 => ∃ (a : Addr) (ws : List V), vs = .ref a :: ws ∧ ws.length ≤ 1000 ∧ H1 a = some (exo a C none) ∧ Q .non H1
/-- self.f = e, the reading -/
def tOsf (C : Addr) (f : Str) (to te : TE) : TS := fun D σ H => te σ H fun y H1 => to σ H1 fun x H2 => ∃ a : Addr, x = .ref a ∧ H2 a = some (exo a C none) ∧ ∀ dx, H2 dx = none → dx ≠ a → D.nx σ (upd (upd H2 a (exo a C (some dx))) dx (exd dx [(f, y)]))
/-- C(e), the reading -/
def tMkNs (C : Addr) (f : Str) (ta : TA) : St → Hp → XK → Prop := fun σ H Q => ta σ H fun vs H1 => ∃ v, vs = [v] ∧ ∀ d, H1 d = none → Q (.ref C) (some d) (upd H1 d (.xd [(f, v)]))
/-- what __init__ keeps -/
def spInit (C : Addr) (f : Str) : Sp := fun vs H Q _ => ∃ (a : Addr) (v : V), vs = [.ref a, v] ∧ H a = some (exo a C none) ∧ ∀ dx, H dx = none → dx ≠ a → Q .non (upd (upd H a (exo a C (some dx))) dx (exd dx [(f, v)]))
section
variable {X : Cx} {o e : Expr} {es : List Expr} {to te : TE} {ta : TA} {f x : Str} {p p' p1 p2 pos pos2 : Pos} {C fI : Addr} {B newId initId : String} {bmB : List Value}
theorem ps_osf (SF : StoreFacts B bmB "object.__setattr__" "object") (T : NsC X.K C fI f bmB newId) (ho : PE X o to) (he : PE X e te) (hs : swapsWith e (some (.Attribute o f p')) pos.line X.env = pure false := by rfl) : PS X (.Assign [.Attribute o f p'] e pos) (tOsf C f to te) := by
  refine ⟨fun pins s σ H D I h => ?_⟩
  refine plainObj_wpAny_Assign_Attribute (thn (he.run pins s σ H _ I h) fun v s1 ⟨y, H1, I1, r1, q1⟩ => thn (ho.run pins s1 σ H1 _ I1 q1) fun u s2 ⟨xx, H2, I2, r2, a, ex, ea, q⟩ => ?_) hs
  subst ex
  obtain rfl : u = Value.ref a := r2
  exact ostG SF T I2 ea r1 fun dx s' n ne J => ⟨σ, _, J, q dx n ne⟩
/-- C(e) -/
theorem pmk_ns {CX : CXT} {k : Nat} {fd : FuncData} {ps : List Str} (F : ExcBaseFacts B newId initId bmB) (T : NsC X.K C fI f bmB newId)
    (F1 : FnOk X.prog X.w X.K X.mg X.base CX k fI fd ps (spInit C f)) (hr : Room (k + 1) X.A) (hb : Binds X.K fd ps []) (hx : Passes CX X (fun _ _ _ => False)) (hg : Gl X x) (hm : X.mg x = some (.ref C)) (ha : PA X [e] ta)
    (hdb : (x == ("__debug__" : Str)) = false := by decide) (he : starEach [e] X.env = (false, eval e X.env) :: starEach [] X.env := by rfl) (hpl : (backTo pos (starEach [] X.env)).any (·.1) = false := by rfl) :
    PMk X (.Call (.Name x p) [e] [] pos) (tMkNs C f ta) := by
  intro pins s σ H Q I h
  refine wpAny_Call_Name_kw (ld_glob I hg hm ?_ hdb)
  refine PySem.W.callWith_K (h₀ := X.base) I.ok.mod.kin T.kC (thn (ha.run pos pins s σ H _ I h) fun us s1 ⟨vs, H1, I1, r1, v, ev, q1⟩ => ⟨I1.kIn, ?_⟩) he hpl
  subst ev
  obtain ⟨u, rfl, ru⟩ := vals1 r1
  show wpAny _ _ (call (.ref C) [u]) _ _ _
  obtain ⟨hp, g, dr, tk, os⟩ := s1
  obtain ⟨nm, N, qn, bs, bm, hdct, sn, sub, ab, col, dd, k0, k1, k2, k3, k5, hC, hT⟩ := PySem.W.excInit_of I1.kIn T.ei
  have hsz : hp.objs.size ≤ hp.objs.size + 1 := Nat.le_succ _
  have hn : H1 (hp.objs.size + 1) = none := I1.hok.fresh hsz
  obtain ⟨a, hae⟩ : ∃ a, a = hp.objs.size + 1 := ⟨_, rfl⟩
  have kk : ∀ b o, hp.get? b = some o → ((hp.push (PySem.W.kdv_tup [u])).push (PySem.HandSPX.excO C hp.objs.size)).get? b = some o := fun b o e => Heap.get?_push_of_some _ (Heap.get?_push_of_some _ e)
  have hget : ((hp.push (PySem.W.kdv_tup [u])).push (PySem.HandSPX.excO C hp.objs.size)).get? (hp.objs.size + 1) = some (PySem.HandSPX.excO C hp.objs.size) := by heap_get
  have I2 : Inv X pins σ (upd H1 (hp.objs.size + 1) (exo (hp.objs.size + 1) C none)) ⟨(hp.push (PySem.W.kdv_tup [u])).push (PySem.HandSPX.excO C hp.objs.size), g, dr, tk, os⟩ :=
    I1.laid (t' := tk) (a := hp.objs.size + 1) (o := exo (hp.objs.size + 1) C none) (h' := (hp.push (PySem.W.kdv_tup [u])).push (PySem.HandSPX.excO C hp.objs.size)) kk hsz (exo_ok hget)
  have r2 : Vals [V.ref (hp.objs.size + 1), v] [Value.ref (hp.objs.size + 1), u] := .cons rfl (.cons ru .nil)
  have hps : ps.length = 2 := (F1.len [V.ref (hp.objs.size + 1), v] (upd H1 (hp.objs.size + 1) (exo (hp.objs.size + 1) C none)) (fun _ _ => True) (fun _ _ _ => False) ⟨_, v, rfl, upd_same, fun _ _ _ => trivial⟩).symm
  have hb2 := hb _ [Value.ref (hp.objs.size + 1), u] I2.kIn (by rw [List.append_nil]; exact hps.symm)
  rw [List.append_nil] at hb2
  refine wpAny_call (PySem.HandSPX.call_own F hT hC (PySem.W.looks_findIn I1.kIn T.iC) (fun self => PySem.W.bind_fn I1.kIn self T.tI) (by show 1 ≤ sizeLine; rw [sizeLine_eq]; decide)
    (codeAny_mono (F1.run _ X.stack _ _ ⟨[Value.ref (hp.objs.size + 1), u], []⟩ [Value.ref (hp.objs.size + 1), u] _
      (fun v' H2 => v' = .non ∧ ∃ d, H1 d = none ∧ d ≠ hp.objs.size + 1 ∧ H2 = upd (upd (upd H1 (hp.objs.size + 1) (exo (hp.objs.size + 1) C none)) (hp.objs.size + 1) (exo (hp.objs.size + 1) C (some d))) d (exd d [(f, v)])) (fun _ _ _ => False) (hr.make C [u] []) (I2.env0.make C [u] []) hb2 r2
      ⟨_, v, rfl, upd_same, fun d n ne => ⟨rfl, d, by rw [upd_ne ne] at n; exact n, ne, rfl⟩⟩) fun r s' hq' => ?_))
  cases r with
  | error er => exact hx pins σ _ _ er s' I2 hq'
  | ok fl =>
    cases fl with
    | ret u' =>
      obtain ⟨v', H2, os2, bare2, un2, hok2, rv, ev, d, hd1, hda, e2⟩ := hq'
      subst ev
      obtain ⟨h2, g2, d2, t2, os'⟩ := s'
      have ea : H2 (hp.objs.size + 1) = some (exo (hp.objs.size + 1) C (some d)) := by rw [e2, upd_ne (Ne.symm hda), upd_same]
      have ed : H2 d = some (exd d [(f, v)]) := by rw [e2, upd_same]
      have e3 : upd (del H2 (hp.objs.size + 1)) d (.xd [(f, v)]) = upd H1 d (.xd [(f, v)]) := funext fun b => by
        by_cases hbd : b = d
        · rw [hbd, upd_same, upd_same]
        · rw [upd_ne hbd, upd_ne hbd]
          by_cases hba : b = hp.objs.size + 1
          · rw [hba, del_same, hn]
          · rw [del_ne hba, e2, upd_ne hbd, upd_ne hba, upd_ne hba]
      exact ⟨rv, mk_end (raises_own T.exC T.tyC) I1 hsz kk un2 hok2 os2 bare2 ea ed hd1 (by rw [e3]; exact q1 d hd1)⟩
    | next => exact False.elim hq'
    | brk => exact False.elim hq'
    | cont => exact False.elim hq'
end
end L2
set_option Elab.async false
set_option linter.all false
set_option maxRecDepth 100000
set_option maxHeartbeats 4000000
/-! Ny: an exception with a field, held behind the try: isinstance, its field; promises of defs that raise it. -/
namespace L2
open PySem PySem.Spec PyProof.Rows
section
variable {X : Cx} {C fI : Addr} {f : Str} {newId : String} {bmB : List Value}
theorem held_inst {K : PySem.W.Frag} {P : Program} {w : World} {H : Hp} {h : Heap} {a dd : Addr} {fs : List (Str × V)} (hok : HOk P w H h) (ha : H a = some (exH a (.ref C) (some dd))) (hd : H dd = some (.xd fs)) :
    ∃ (oe od : Obj) (mA : Str → Option Value), PySem.W.InstAt h a oe C (some od) ∧ (∀ f, PySem.W.lookIn f od = some (mA f)) ∧ ∀ f, RelO (fs.lookup f) (mA f) := by
  have x : ObjOk P w H h a (exH a (.ref C) (some dd)) := hok a _ ha
  obtain ⟨⟨oe, vs, hget, hz, hv⟩, _⟩ := x
  have y : ObjOk P w H h dd (.xd fs) := hok dd _ hd
  obtain ⟨mA, hns, hr⟩ := y
  obtain ⟨od, ho, hl⟩ := lookIn_ns hns
  exact ⟨oe, od, mA, ⟨hget, hz.1, by unfold PySem.W.notCls; rw [hv] <;> rfl, by rw [hz.2]; exact ho⟩, hl, hr⟩
/-- isinstance(e, c), e an exception with a dict that is held -/
def rIsF (K : PySem.W.Frag) : List V → Hp → VK → Prop := fun xs H Q => ∃ (a C fI dd : Addr) (f : Str) (bmB : List Value) (newId : String) (fs : List (Str × V)) (c : V) (cv : Value) (b : Bool), xs = [.ref a, c] ∧ H a = some (exH a (.ref C) (some dd)) ∧ H dd = some (.xd fs) ∧ NsC K C fI f bmB newId ∧ (∀ u, RelV c u → u = cv) ∧ PySem.W.kitOne K (.ref C) cv = some b ∧ Q (.bl b) H
theorem call_isF {X : Cx} : CallR X (.builtin "isinstance") (rIsF X.K) := by
  intro pins s σ H xs us Q I r h
  obtain ⟨a, C, fI, dd, f, bmB, newId, fs, c, cv, b, rfl, ha, hd, T, hcv, e, q⟩ := h
  cases r with
  | cons rx rr =>
    cases rr with
    | cons rt rr =>
      cases rr
      cases rx
      have ec := hcv _ rt
      subst ec
      obtain ⟨oe, od, mA, J, _, _⟩ := held_inst (K := X.K) I.hok ha hd
      obtain ⟨cd, hcd, _⟩ := PySem.W.any_some T.hd
      exact PySem.W.kia_one (PySem.W.kitx_exc (by rw [hcd]; rfl) T.ga T.gg T.exC T.ca T.cg T.ct T.cm) I.kIn J e (fun z => nomatch z) fun tk => ⟨.bl b, H, I.kept (t' := tk) fun _ _ z => z, rfl, q⟩
/-- e.f of such an exception -/
def tFldH (C : Addr) (f : Str) (te : TE) : TE := fun σ H Q => te σ H fun x H1 => ∃ (a dd : Addr) (v : V), x = .ref a ∧ H1 a = some (exH a (.ref C) (some dd)) ∧ H1 dd = some (.xd [(f, v)]) ∧ Q v H1
theorem pe_fldH {e : Expr} {te : TE} {pos : Pos} (T : NsC X.K C fI f bmB newId) (he : PE X e te) (hb : attributeBase e f X.env (eval e X.env) = eval e X.env := by rfl) : PE X (.Attribute e f pos) (tFldH C f te) := by
  refine ⟨fun pins s σ H Q I h => ?_⟩
  refine attr_of hb (thn (he.run pins s σ H _ I h) fun u s1 hh => ?_)
  obtain ⟨x, H1, I1, rx, a, dd, v, ex, ha, hd, q⟩ := hh
  subst ex
  obtain rfl : u = Value.ref a := rx
  obtain ⟨oe, od, mA, J, hl, hr⟩ := held_inst (K := X.K) I1.hok ha hd
  have l : List.lookup f [(f, v)] = some v := by simp [List.lookup]
  obtain ⟨u, hu, ru⟩ := RelO.some_of (v := v) (o := mA f) (by rw [← l]; exact hr f)
  exact PySem.HandSPX.exc_get I1.kIn J T.ga T.gg T.exC (PySem.W.findObj_own T.hd T.no rfl (by rw [hl, hu])) (handed_of ru) ⟨v, H1, I1.tok _, ru, q⟩
end
/-- raise C(e) -/
def tRaiseNs (C : Addr) (f : Str) (E : XK) (ta : TA) : TS := fun _ σ H => tMkNs C f ta σ H fun cls d H' => E cls d H'
theorem passInit {X : Cx} : Passes L2.CX0 X (fun _ _ _ => False) := pass0
end L2
namespace Ob
open PySem PySem.Spec PyProof.Rows L2
open Evl (Ex)
open PySem.W (Datum Tup DatumOrd)
abbrev reB : List Value := [.type "RuntimeError", .type "Exception", .type "BaseException", .type "object"]
def nsB (x f : Str) (bmB : List Value) (newId : String) (K : PySem.W.Frag) : Bool :=
  PySem.W.excInitIn K (He.ga K x) bmB newId && (PySem.W.excOver K (He.ga K x) bmB && (PySem.W.hasDictIn K (He.ga K x) && (He.eqO (PySem.W.findIn K (.ref (He.ga K x)) "__setattr__") (some (some (.builtin "object.__setattr__"))) &&
  (He.eqO (PySem.W.findIn K (.ref (He.ga K x)) f) (some none) && (He.eqO (PySem.W.findIn K (.ref (He.ga K x)) "__init__") (some (some (.ref (He.ma K (He.ga K x) "__init__")))) && (decide (PySem.W.typeIn K (.ref (He.ma K (He.ga K x) "__init__")) = some (.type "function")) &&
  (decide (PySem.W.subIn K (.ref (He.ga K x)) (.type "BaseException") = some true) && (decide (PySem.W.typeIn K (.ref (He.ga K x)) = some (.type "type")) && (PySem.W.keepIn K (.ref (He.ga K x)) &&
  (He.eqO (PySem.W.findIn K (.ref (He.ga K x)) "__getattribute__") (some (some (.builtin "BaseException.__getattribute__"))) && (He.eqO (PySem.W.findIn K (.ref (He.ga K x)) "__getattr__") (some none) && (He.eqO (PySem.W.findIn K (.ref (He.ga K x)) "__class__") (some (some (.builtin "object.__class__"))) &&
  (He.eqO (PySem.W.specialIn K (.builtin "object.__class__") "__get__") (some (some (.builtin "getset_descriptor.__get__"))) && (decide (PySem.W.takesIn K (.builtin "object.__class__") = some true) && decide (PySem.W.mroIn K (He.ga K x) (.type "object") = some true)))))))))))))))
theorem nsB_ok {x f : Str} {bmB : List Value} {newId : String} {K : PySem.W.Frag} (h : nsB x f bmB newId K = true) : NsC K (He.ga K x) (He.ma K (He.ga K x) "__init__") f bmB newId := by
  obtain ⟨h1, h⟩ := He.ba h
  obtain ⟨h2, h⟩ := He.ba h
  obtain ⟨h3, h⟩ := He.ba h
  obtain ⟨h4, h⟩ := He.ba h
  obtain ⟨h5, h⟩ := He.ba h
  obtain ⟨h6, h⟩ := He.ba h
  obtain ⟨h7, h⟩ := He.ba h
  obtain ⟨h8, h⟩ := He.ba h
  obtain ⟨h9, h⟩ := He.ba h
  obtain ⟨h10, h⟩ := He.ba h
  obtain ⟨h11, h⟩ := He.ba h
  obtain ⟨h12, h⟩ := He.ba h
  obtain ⟨h13, h⟩ := He.ba h
  obtain ⟨h14, h⟩ := He.ba h
  obtain ⟨h15, h16⟩ := He.ba h
  exact ⟨h1, h2, h3, He.eqO_ok h4, He.eqO_ok h5, He.eqO_ok h6, of_decide_eq_true h7, of_decide_eq_true h8, of_decide_eq_true h9, h10, He.eqO_ok h11, He.eqO_ok h12, He.eqO_ok h13, He.eqO_ok h14, of_decide_eq_true h15, of_decide_eq_true h16⟩
section
variable {α β γ : Type} [Rep α] [Rep β] [Rep γ]
/-- a def of two parameters that gives g x y, or raises C with the field f that holds a text -/
def FnY2 (K : PySem.W.Frag) (C : Addr) (f : Str) (pre : α → β → Prop) (g : α → β → γ) (bad : α → β → Str → Prop) : Sp := fun vs H Q E => Fn2 K pre g vs H Q E ∨ ∃ x y z B, Ex B H ∧ RCons K x (RCons K y RNil) vs B ∧ bad x y z ∧ ∀ d B2 H2, Up B H B2 H2 → B2 d = some (.xd [(f, .str z)]) → E (.ref C) (some d) H2
end
section
variable {K : PySem.W.Frag} {W0 : List Addr} {B0 H0 : Hp} {os : List OC} {Γ : List (Option Cell)} {σ : L2.St} {B H B1 H1 : Hp} {te ta tb tc td tk tv : TE} {tt tt1 : TT} {D : Ends} {tu tw tz : TS} {C : Addr} {f : Str}
variable {α β γ : Type} [Rep α] [Rep β] [Rep γ] {vs : List V} {Q : VK} {E : XK} {pre : α → β → Prop} {g : α → β → γ} {bad : α → β → Str → Prop}
theorem FnY2.len (vs : List V) (H : Hp) (Q : VK) (E : XK) (h : FnY2 K C f pre g bad vs H Q E) : vs.length = 2 := by
  rcases h with h | ⟨x, y, z, B, e, ⟨v, r, rfl, h1, v2, r2, rfl, h2, rfl⟩, _⟩
  · exact Fn2.len vs H Q E h
  · rfl
/-- raise C(e) -/
theorem e_fldG {ε : Type} [Rep ε] {z : ε} {v : V} {dd a : Addr} (h : Pe K ta σ B (Any.mk (.ref a))) (hB : B a = some (exH a (.ref C) (some dd))) (hd : B dd = some (.xd [(f, v)])) (hv : Rep.at_ K B v z) : Pe K (tFldH C f ta) σ B z := fun H e Q q => h H e _ fun w B1 H1 u hw => by
  cases (show w = .ref a from hw)
  exact ⟨a, dd, v, rfl, u.bh _ _ (u.bb _ _ hB), u.bh _ _ (u.bb _ _ hd), q _ B1 H1 u (Rep.mono u.bb hv)⟩
/-- raise C(e), e any thing -/
theorem St.raiseG {ε : Type} [Rep ε] {z : ε} (h : Pe K ta σ B z) (s : St K [] B0 H0 os Γ σ B H) (q : ∀ d v B2 H2, Up B0 H0 B2 H2 → B2 d = some (.xd [(f, v)]) → Rep.at_ K B2 v z → E (.ref C) (some d) H2) : tRaiseNs C f E (tCons ta tNil) D σ H := h H s.bh _ fun v B1 H1 u hv => by
  refine ⟨v, rfl, fun d hd => ?_⟩
  have w := Up.new (o := .xd [(f, v)]) u.bh hd
  exact q d v _ _ ((s.up u).up w).toUp upd_same (Rep.mono w.bb hv)
end
section
variable {α β γ δ ε κ : Type} [Rep α] [Rep β] [Rep γ] [Rep δ] [Rep ε] [Rep κ]
/-- of three, of four parameters, the field any thing -/
def FnZ3 (K : PySem.W.Frag) (C : Addr) (f : Str) (ok : Sp) (bad : α → β → γ → ε → Prop) : Sp := fun vs H Q E => ok vs H Q E ∨ ∃ x y z w B, Ex B H ∧ RCons K x (RCons K y (RCons K z RNil)) vs B ∧ bad x y z w ∧ ∀ d v B2 H2, Up B H B2 H2 → B2 d = some (.xd [(f, v)]) → Rep.at_ K B2 v w → E (.ref C) (some d) H2
def FnZ4 (K : PySem.W.Frag) (C : Addr) (f : Str) (ok : Sp) (bad : α → β → γ → δ → ε → Prop) : Sp := fun vs H Q E => ok vs H Q E ∨ ∃ x y z t w B, Ex B H ∧ RCons K x (RCons K y (RCons K z (RCons K t RNil))) vs B ∧ bad x y z t w ∧ ∀ d v B2 H2, Up B H B2 H2 → B2 d = some (.xd [(f, v)]) → Rep.at_ K B2 v w → E (.ref C) (some d) H2
end
section
variable {K : PySem.W.Frag} {W0 : List Addr} {B0 H0 : Hp} {os : List OC} {Γ : List (Option Cell)} {σ : L2.St} {B H B1 H1 : Hp} {te ta tb tc td tk tv : TE} {tt tt1 : TT} {D : Ends} {tu tw tz : TS} {C : Addr} {f : Str}
variable {α β γ δ ε : Type} [Rep α] [Rep β] [Rep γ] [Rep δ] [Rep ε] {vs : List V} {Q : VK} {E : XK} {ok : Sp} {bad : α → β → γ → ε → Prop} {bad4 : α → β → γ → δ → ε → Prop}
theorem FnZ3.len (hk : ∀ vs H Q E, ok vs H Q E → vs.length = 3) (vs : List V) (H : Hp) (Q : VK) (E : XK) (h : FnZ3 K C f ok bad vs H Q E) : vs.length = 3 := by
  rcases h with h | ⟨x, y, z, w, B, e, ⟨v, r, rfl, h1, v2, r2, rfl, h2, v3, r3, rfl, h3, rfl⟩, _⟩
  · exact hk vs H Q E h
  · rfl
theorem FnZ4.len (hk : ∀ vs H Q E, ok vs H Q E → vs.length = 4) (vs : List V) (H : Hp) (Q : VK) (E : XK) (h : FnZ4 K C f ok bad4 vs H Q E) : vs.length = 4 := by
  rcases h with h | ⟨x, y, z, t, w, B, e, ⟨v, r, rfl, h1, v2, r2, rfl, h2, v3, r3, rfl, h3, v4, r4, rfl, h4, rfl⟩, _⟩
  · exact hk vs H Q E h
  · rfl
end
end Ob
set_option Elab.async false
set_option linter.all false
set_option maxRecDepth 100000
set_option maxHeartbeats 4000000
/-! Nz: the __init__ of an exception with one field. -/
namespace Ob
open PySem PySem.Spec PyProof.Rows L2
open Evl (Ex)
def t_xinit (C : Addr) (f : Str) : TS := tSeq (tDrop (tBinit C (tCons (tVar 0) (tCons (tVar 1) tNil)))) (tOsf C f (tVar 0) (tVar 1))
theorem l_xinit {C : Addr} {f : Str} (vs : List V) (H : Hp) (Q : VK) (E : XK) (h : spInit C f vs H Q E) : vs.length = 2 := by
  obtain ⟨a, v, rfl, _⟩ := h
  rfl
theorem r_xinit {C : Addr} {f : Str} {N : List Str} (vs : List V) (H : Hp) (Q : VK) (E : XK) (h : spInit C f vs H Q E) (hN : N.length = 2 := by rfl) : t_xinit C f { nx := fun _ H' => Q .non H', rt := Q } (L2.start N vs) H := by
  obtain ⟨a, v, rfl, hH, q⟩ := h
  have e : L2.start N [.ref a, v] = [some (.ref a), some v] := by
    unfold L2.start
    rw [hN]
    rfl
  rw [e]
  exact ⟨_, rfl, _, rfl, a, [v], rfl, by show 1 ≤ 1000; decide, hH, ⟨v, rfl, .ref a, rfl, a, rfl, hH, fun dx h1 h2 => q dx h1 h2⟩⟩
end Ob
set_option Elab.async false
set_option linter.all false
set_option maxRecDepth 100000
set_option maxHeartbeats 2000000
/-! Uw: displays of any length as data; lists and tuples of texts unpacked (k68). -/
namespace Ob
open PySem L2
open Evl (Ex)
open PySem.W (Datum Tup DatumOrd)
section
variable {K : PySem.W.Frag} {σ : L2.St} {B : Hp} {te : TE} {ts : TA} {α : Type} [DecidableEq α] [Datum α]
/-- things read one after another -/
def PaW (K : PySem.W.Frag) (ts : TA) (σ : L2.St) (B : Hp) (xs : List α) : Prop := ∀ H, Ex B H → ∀ Q : List V → Hp → Prop, (∀ vs B2 H2, Up B H B2 H2 → AtAll K B2 vs xs → Q vs H2) → ts σ H Q
theorem PaW.nil : PaW K tNil σ B ([] : List α) := fun H e Q q => q [] B H (Up.refl e) .nil
theorem PaW.mono {B' : Hp} {xs : List α} (h : PaW K ts σ B xs) (b : Ex B B') : PaW K ts σ B' xs := fun H e Q q => by
  refine h H (b.trans e) Q fun vs B2 H2 u hv => ?_
  have key : Pe K (fun σ H Q => Q (.int 0) H) σ B (0 : Int) := fun H e Q q => q _ B H (Up.refl e) (at_int.mpr rfl)
  exact (fun (k : ∀ (B2 : Hp), Up B H B2 H2 → AtAll K B2 vs xs → Q vs H2) => k B2 u hv) fun B3 u3 h3 => by
    refine q vs (fun a => match B3 a with | some o => some o | none => B' a) H2 ⟨fun z o hz => ?_, fun z o hz => ?_, u3.hh, fun z hz => ?_⟩ (h3.mono fun z o hz => ?_)
    · show (match B3 z with | some o => some o | none => B' z) = some o
      cases y : B3 z with
      | none => exact hz
      | some o' =>
        have h1 := u3.bh z o' y
        rw [u3.hh z o (e z o hz)] at h1
        show some o' = some o
        rw [h1]
    · have hz' : (match B3 z with | some o => some o | none => B' z) = some o := hz
      cases y : B3 z with
      | none =>
        rw [y] at hz'
        exact u3.hh z o (e z o hz')
      | some o' =>
        rw [y] at hz'
        rw [← hz']
        exact u3.bh z o' y
    · have hz' : (match B3 z with | some o => some o | none => B' z) ≠ none := hz
      cases y : B3 z with
      | none =>
        rw [y] at hz'
        exact .inl hz'
      | some o' =>
        rcases u3.nw z (by rw [y]; exact fun w => nomatch w) with w | w
        · refine .inl ?_
          cases zb : B z with
          | none => exact absurd zb w
          | some ob =>
            rw [b z ob zb]
            exact fun w => nomatch w
        · exact .inr w
    · show (match B3 z with | some o => some o | none => B' z) = some o
      rw [hz]
theorem PaW.cons {x : α} {xs : List α} (h : Pe K te σ B x) (h2 : PaW K ts σ B xs) : PaW K (tCons te ts) σ B (x :: xs) := fun H e Q q =>
  h H e _ fun v B1 H1 u1 hv => (h2.mono u1.bb) H1 u1.bh _ fun vs B2 H2 u2 hvs => q (v :: vs) B2 H2 (u1.trans u2) (.cons (Rep.mono u2.bb hv) hvs)
theorem e_lstW {xs : List α} (h : PaW K ts σ B xs) (hz : xs.length ≤ 1000000) : Pe K (tLst ts) σ B xs := fun H e Q q =>
  h H e _ fun vs B1 H1 u hv => ⟨by rw [sizeLine_eq, hv.length]; omega, fun p hp => by
    have w := u.then (o := .lst vs) hp
    exact q _ _ _ w (at_list.mpr ⟨p, vs, rfl, Evl.sq_of upd_same, hv.mono (Up.new (o := .lst vs) u.bh hp).bb⟩)⟩
theorem e_tupW {xs : List α} (h : PaW K ts σ B xs) (hz : xs.length ≤ 1000000) : Pe K (tTup ts) σ B (Tup.mk xs) := fun H e Q q =>
  h H e _ fun vs B1 H1 u hv => ⟨by rw [sizeLine_eq, hv.length]; omega, fun p hp => by
    have w := u.then (o := .tup vs) hp
    exact q _ _ _ w (at_tup.mpr ⟨p, vs, rfl, upd_same, hv.mono (Up.new (o := .tup vs) u.bh hp).bb⟩)⟩
end
section
variable {K : PySem.W.Frag} {W0 : List Addr} {B0 H0 : Hp} {os : List OC} {Γ : List (Option Cell)} {σ : L2.St} {B H : Hp} {te : TE} {D : Ends} {tz : TS} {b : Addr} {c n : Int}
/-- a, b, c = a tuple of three texts -/
theorem St.unpT3 {i1 i2 i3 : Nat} {x1 x2 x3 : Str} (s : St K W0 B0 H0 os Γ σ B H) (h : Pe K te σ B (Tup.mk [x1, x2, x3])) (k : ∀ σ1 B1 H1, St K W0 B0 H0 os (cs (cs (cs Γ i1 (ce x1)) i2 (ce x2)) i3 (ce x3)) σ1 B1 H1 → tz D σ1 H1) :
    tSeq (tAsg te (gUnp K 3 (gCons (gName i1) (gCons (gName i2) (gCons (gName i3) gNil))))) tz D σ H :=
  h H s.bh _ fun v B1 H1 u hv => by
    obtain ⟨a, vs, rfl, hs, hx⟩ := at_tup.mp hv
    have hvs := atAll_strs hx
    subst hvs
    refine .inl ⟨a, _, rfl, Evl.st_of (u.bh _ _ hs), rfl, _, _, rfl, _, _, rfl, _, _, rfl, rfl, ?_⟩
    exact k _ B1 H1 ((((s.up u).put i1 (at_str.mpr rfl)).put i2 (at_str.mpr rfl)).put i3 (at_str.mpr rfl))
end
end Ob
set_option Elab.async false
set_option linter.all false
set_option maxRecDepth 100000
set_option maxHeartbeats 4000000
/-! Dt: dict(pairs), the keys tuples of texts; d[k] of such a dict; a set held by what is in it. -/
namespace L2
open PySem PySem.Spec PyProof.Rows
end L2
set_option Elab.async false
set_option linter.all false
set_option maxRecDepth 100000
set_option maxHeartbeats 4000000
/-! Df: dicts with tuple keys as values; sets held by what is in them; lists of any things; [x] * int(c). -/
namespace Ob
open PySem L2
open Evl (Ex)
open PySem.W (Datum Tup DatumOrd)
/-- a set of tuples of texts, held as the keys of a dict, by what is in it -/
structure RSet where
  P : List Str → Prop
instance : Rep RSet := ⟨fun K B v S => ∃ T : TSet, Rep.at_ K B v T ∧ ∀ z, z ∈ T.ks ↔ S.P z, fun e ⟨T, h1, h2⟩ => ⟨T, Rep.monoR e h1, h2⟩⟩
structure Duo (α β : Type) where
  a : α
  b : β
instance {α β : Type} [Rep α] [Rep β] : Rep (Duo α β) := ⟨fun K H v t => ∃ a v1 v2, v = .ref a ∧ H a = some (.tup [v1, v2]) ∧ Rep.at_ K H v1 t.a ∧ Rep.at_ K H v2 t.b,
  fun e ⟨a, v1, v2, h1, h2, h3, h4⟩ => ⟨a, v1, v2, h1, e.2.1 _ _ h2, Rep.monoR e h3, Rep.monoR e h4⟩⟩
/-- a list of any things -/
structure LL (α : Type) where
  items : List α
instance {α : Type} [Rep α] : Rep (LL α) := ⟨fun K H v s => ∃ a vs, v = .ref a ∧ SqL K H a vs ∧ AtAll K H vs s.items, fun e ⟨a, vs, h1, h2, h3⟩ => ⟨a, vs, h1, exr_l e h2, h3.monoR e⟩⟩
/-- a dict, the keys tuples of texts -/
structure DicT (α : Type) where
  kvs : List (List Str × α)
def DicTAt {α : Type} [Rep α] (K : PySem.W.Frag) (H : Hp) (ks : List (List Key × V)) (d : List (List Str × α)) : Prop := Paired (fun (p : List Key × V) (q : List Str × α) => p.1 = kT q.1 ∧ Rep.at_ K H p.2 q.2) ks d
instance {α : Type} [Rep α] : Rep (DicT α) := ⟨fun K H v d => ∃ a ks, v = .ref a ∧ Rd H a (.dT ks) ∧ DicTAt K H ks d.kvs,
  fun e ⟨a, ks, h1, h2, h3⟩ => ⟨a, ks, h1, e.1 a _ rfl h2, Paired.mapP h3 fun _ _ h => ⟨h.1, Rep.monoR e h.2⟩⟩⟩
section
variable {K : PySem.W.Frag} {σ : L2.St} {B H : Hp} {te ta tb tc : TE} {tt : TT}
theorem e_lcS {γ β : Type} [Rep γ] [Rep β] {wi : TI} {g : TG} {vs : List Nat} {xs : List γ} (f : γ → Bool) (y : γ → β) (h : ItD K wi σ B xs) (hz : xs.length ≤ 1000000)
    (ht : ∀ x ∈ xs, ∀ v B1, Ex B B1 → Rep.at_ K B1 v x → TurnD K g tt te vs σ B1 v (f x) (y x)) : Pe K (tLc wi g tt te vs) σ B (LL.mk ((xs.filter f).map y)) := fun H e Q q =>
  h H e _ fun J B1 H1 G Y up W hG hY D hD => by
    have hDH : H D = none := Evl.fresh_back up.hh hD
    have hDB : B1 D = none := Evl.fresh_back up.bh hD
    refine lc_it W (fun i H' => ∃ Bi ws, Ex B1 Bi ∧ (∀ a, Bi a ≠ none → B1 a ≠ none ∨ H1 a = none) ∧ Bi D = none ∧ Ex Bi H' ∧ Ex H1 H' ∧ H' D = some (.lst ws) ∧ AtAll K Bi ws (((xs.take i).filter f).map y))
      ⟨B1, [], Ex.refl _, fun _ h => .inl h, hDB, ex_upd up.bh hDB, Ex.new hD, upd_same, .nil⟩ (fun i H' _ p => ?_) (fun i x Hx H' hi p hy => ?_) (fun H' p => ?_)
    · obtain ⟨Bi, ws, b1, _, _, b2, _⟩ := p
      exact hG H' (b1.trans b2)
    · obtain ⟨Bi, ws, b1, nw, bD, b2, hh, eD, hA⟩ := p
      obtain ⟨d, hd, hB⟩ := hY i x Hx H' hi (b1.trans b2) hy
      obtain ⟨B2, u2, hx⟩ := hB Bi b1 b2
      obtain ⟨o1, o2⟩ := u2.out bD eD
      obtain ⟨σ2, hg, hw, htt, hte⟩ := ht d (mem_of_get hd) x B2 ((up.bb.trans b1).trans u2.bb) hx
      refine hg H' _ u2.bh ⟨hw, htt H' u2.bh _ fun B3 H3 u3 => ?_⟩
      obtain ⟨o3, o4⟩ := u3.out o1 o2
      have nw3 : ∀ a, B3 a ≠ none → B1 a ≠ none ∨ H1 a = none := fun a ha => by
        rcases (u2.trans u3).nw a ha with z | z
        · exact nw a z
        · exact .inr (Evl.fresh_back hh z)
      cases hf : f d with
      | true =>
        rw [hf] at hte
        refine ((hte rfl).mono u3.bb) H3 u3.bh _ fun w B4 H4 u4 hw4 => ⟨ws, (u4.out o3 o4).2, ?_, B4, ws ++ [w], ?_, ?_, (u4.out o3 o4).1, ex_upd u4.bh (u4.out o3 o4).1, ?_, upd_same, ?_⟩
        · have := hA.length
          rw [List.length_map] at this
          have h2 := List.length_filter_le f (xs.take i)
          have h3 := List.length_take_le i xs
          have : (sizeLine : Nat) = 16777216 := sizeLine_eq
          omega
        · exact ((b1.trans u2.bb).trans u3.bb).trans u4.bb
        · intro a ha
          rcases ((u2.trans u3).trans u4).nw a ha with z | z
          · exact nw a z
          · exact .inr (Evl.fresh_back hh z)
        · exact Ex.mut (((hh.trans u2.hh).trans u3.hh).trans u4.hh) hD
        · rw [take_snoc hd, List.filter_append, List.map_append, List.filter_cons, if_pos hf]
          exact AtAll.snoc (hA.mono ((u2.bb.trans u3.bb).trans u4.bb)) hw4
      | false =>
        refine ⟨B3, ws, (b1.trans u2.bb).trans u3.bb, nw3, o3, u3.bh, (hh.trans u2.hh).trans u3.hh, o4, ?_⟩
        rw [take_snoc hd, List.filter_append, List.map_append, List.filter_cons, if_neg (by rw [hf]; decide)]
        show AtAll K B3 ws (_ ++ [])
        rw [List.append_nil]
        exact hA.mono (u2.bb.trans u3.bb)
    · obtain ⟨Bi, ws, b1, nw, bD, b2, hh, eD, hA⟩ := p
      rw [List.take_length] at hA
      refine q (.ref D) (upd Bi D (.lst ws)) H' ⟨(up.bb.trans b1).trans (Ex.new bD), ex_in b2 eD, up.hh.trans hh, fun a ha => ?_⟩ ⟨D, ws, rfl, Evl.sq_of upd_same, hA.mono (Ex.new bD)⟩
      by_cases hDa : a = D
      · exact .inr (hDa ▸ hDH)
      · rw [upd_ne hDa] at ha
        rcases nw a ha with z | z
        · exact up.nw a z
        · exact .inr (Evl.fresh_back up.hh z)
theorem Slots.lcAS {γ β : Type} [Rep γ] [Rep β] {wi : TI} {xs : List γ} {j : Nat} {Γ : List (Option Cell)} (s : Slots K B σ Γ) (y : γ → β) (h : ItD K wi σ B xs) (hz : xs.length ≤ 1000000)
    (ht : ∀ x ∈ xs, ∀ σ2 B1, Ex B B1 → Slots K B1 σ2 (cs (cw Γ [j]) j (ce x)) → Pe K te σ2 B1 (y x)) : Pe K (tLc wi (gName j) tYes te [j]) σ B (LL.mk (xs.map y)) := by
  have h0 := e_lcS (te := te) (g := gName j) (tt := tYes) (vs := [j]) (fun _ => true) y h hz fun x hx v B1 b1 hv => turn_name rfl (by rw [set_none_comm (List.mem_singleton.mpr rfl), wipe_wipe]) t_yes fun _ => ht x hx _ B1 b1 ((s.mono b1).turn hv)
  rw [List.filter_eq_self.mpr fun _ _ => rfl] at h0
  exact h0
/-! dict(pairs) -/
/-- [x] * int(c) -/
theorem e_rep1' {α : Type} [DecidableEq α] [Datum α] {x : α} {c : Bool} (h : Pe K te σ B x) (hb : Pe K tb σ B (if c then 1 else 0 : Int)) : Pe K (tOp (rMulU) (tLst (tCons te tNil)) tb) σ B (if c then [x] else []) := fun H e Q q =>
  h H e _ fun v B1 H1 u1 hv => ⟨by show 1 ≤ sizeLine; rw [sizeLine_eq]; decide, fun p hp => by
    have u := u1.then (o := .lst [v]) hp
    refine (hb.mono u.bb) _ u.bh (fun w H2 => rMulU (.ref p) w H2 Q) fun w B2 H2 u2 hw => ?_
    have e2 := at_int.mp hw
    subst e2
    have hp2 : H2 p = some (.lst [v]) := u2.bh _ _ (u2.bb _ _ upd_same)
    have hvx : Rep.at_ K B2 v x := Rep.mono ((Up.new (o := .lst [v]) u1.bh hp).bb.trans u2.bb) hv
    cases c with
    | false =>
      refine .inr ⟨p, 0, [v], rfl, rfl, hp2, by decide, by decide, by simp, fun p2 hn2 => ?_⟩
      have u3 := Up.new (o := .lst []) u2.bh hn2
      exact q _ _ _ ((u.trans u2).trans u3) (at_list.mpr ⟨p2, [], rfl, Evl.sq_of upd_same, .nil⟩)
    | true =>
      refine .inr ⟨p, 1, [v], rfl, rfl, hp2, by decide, by decide, by show 1 * 1 ≤ sizeLine; rw [sizeLine_eq]; decide, fun p2 hn2 => ?_⟩
      have u3 := Up.new (o := .lst [v]) u2.bh hn2
      exact q _ _ _ ((u.trans u2).trans u3) (at_list.mpr ⟨p2, [v], rfl, Evl.sq_of upd_same, .cons (Rep.mono u3.bb hvx) .nil⟩)⟩
end
end Ob
set_option Elab.async false
set_option linter.all false
set_option maxRecDepth 100000
set_option maxHeartbeats 4000000
/-! Sa: data of any kind; _law_same, _law_lists (defs that call themselves). -/
namespace Ob
open PySem L2
open Evl (Ex)
open PySem.W (Datum Tup DatumOrd)
/-- data of any kind -/
structure DD where
  d : PyData
instance : Rep DD := ⟨fun K H v x => Dq K H v x.d, fun e h => dq_monoR e _ _ h⟩
def DOk : Nat → PyData → Prop
  | _, .none => True
  | _, .bool _ => True
  | _, .int _ => True
  | _, .str _ => True
  | 0, .list _ => False
  | 0, .tuple _ => False
  | n + 1, .list xs => xs.length ≤ 1000000 ∧ ∀ x ∈ xs, DOk n x
  | n + 1, .tuple xs => xs.length ≤ 1000000 ∧ ∀ x ∈ xs, DOk n x
  | _, .dict _ => False
theorem DOk.up : ∀ {n : Nat} {d : PyData}, DOk n d → DOk (n + 1) d
  | _, .none, _ => trivial
  | _, .bool _, _ => trivial
  | _, .int _, _ => trivial
  | _, .str _, _ => trivial
  | n + 1, .list xs, h => ⟨h.1, fun x hx => DOk.up (h.2 x hx)⟩
  | n + 1, .tuple xs, h => ⟨h.1, fun x hx => DOk.up (h.2 x hx)⟩
  | 0, .dict _, h => h.elim
  | n + 1, .dict _, h => h.elim
section
variable {K : PySem.W.Frag} {σ : L2.St} {B H : Hp} {v : V} {te ta tb tc : TE} {tt : TT}
theorem e_dd {α : Type} [DecidableEq α] [Datum α] {x : α} (h : Pe K te σ B x) : Pe K te σ B (DD.mk (Datum.toD x)) := h
theorem dqAll_dd : ∀ {vs : List V} {ds : List PyData}, DqAll K H vs ds → AtAll K H vs (ds.map DD.mk)
  | _, [], h => by cases h; exact .nil
  | _, d :: ds, h => by
    cases h with
    | cons a b => exact .cons a (dqAll_dd b)
theorem dd_all : ∀ {vs : List V} {ds : List PyData}, AtAll K H vs (ds.map DD.mk) → DqAll K H vs ds
  | _, [], h => by
    have h' : AtAll K H _ [] := h
    cases h'
    exact .nil
  | _, d :: ds, h => by
    have h' : AtAll K H _ (DD.mk d :: ds.map DD.mk) := h
    cases h' with
    | cons a b => exact .cons a (dd_all b)
theorem ddL_sq {ds : List PyData} (h : Rep.at_ K H v (DD.mk (.list ds))) : Rep.at_ K H v (Sq.mk (ds.map DD.mk)) := by
  have h' : Dq K H v (.list ds) := h
  cases h' with
  | lst a b => exact ⟨_, _, rfl, .inl a, dqAll_dd b⟩
theorem ddT_sq {ds : List PyData} (h : Rep.at_ K H v (DD.mk (.tuple ds))) : Rep.at_ K H v (Sq.mk (ds.map DD.mk)) := by
  have h' : Dq K H v (.tuple ds) := h
  cases h' with
  | tup a b => exact ⟨_, _, rfl, .inr a, dqAll_dd b⟩
theorem ll_dd {ds : List PyData} (h : Rep.at_ K H v (LL.mk (ds.map DD.mk))) : Rep.at_ K H v (DD.mk (.list ds)) := by
  obtain ⟨a, vs, rfl, h1, h2⟩ := h
  exact Dq.lst h1 (dd_all h2)
theorem e_isiD {x : DD} {c : String} {b : Bool} (t : String) (h : Pe K te σ B x) (hk : kitB t c = some b) (ht : tyD x.d = t := by rfl) : Pe K (tCB (rIsi K) (tCons te (tCons (tC (.ty c)) tNil))) σ B b := fun H e Q q =>
  h H e _ fun v B1 H1 u hv => ⟨v, .ty c, _, _, b, rfl, .ty c, dp_ty (Dq.dp _ _ (dq_monoR (ExR.of u.bh) _ _ hv)), kit_ty (ht.symm ▸ hk), q _ B1 H1 u (at_bl.mpr rfl)⟩
theorem kit2 {t c1 c2 : String} {b1 b2 : Bool} (h1 : kitB t c1 = some b1) (h2 : kitB t c2 = some b2) : PySem.W.kitAny K (.type t) [.type c1, .type c2] = some (b1 || b2) := by
  refine kitAny_cons (b := b1) (kit_ty h1) (fun e => ?_) fun e => by rw [e]; rfl
  rw [e, Bool.false_or]
  exact kitAny_cons (b := b2) (kit_ty h2) (fun e => by rw [e]; rfl) fun e => e
theorem e_isi2 {x : DD} {c1 c2 : String} {b1 b2 : Bool} (t : String) (h : Pe K te σ B x) (h1 : kitB t c1 = some b1) (h2 : kitB t c2 = some b2) (ht : tyD x.d = t := by rfl) : Pe K (tCB (rIsiT K) (tCons te (tCons (tTup (tCons (tC (.ty c1)) (tCons (tC (.ty c2)) tNil))) tNil))) σ B (b1 || b2) := fun H e Q q =>
  h H e _ fun v B1 H1 u hv => ⟨by show 2 ≤ sizeLine; rw [sizeLine_eq]; decide, fun p hp => by
    have u2 := u.then (o := .tup [.ty c1, .ty c2]) hp
    have hv2 : Rep.at_ K _ v x := Rep.mono (Up.new (o := .tup [.ty c1, .ty c2]) u.bh hp).bb hv
    exact ⟨v, p, [.ty c1, .ty c2], _, [.type c1, .type c2], b1 || b2, rfl, upd_same, .cons (.ty c1) (.cons (.ty c2) .nil), dp_ty (Dq.dp _ _ (dq_monoR (ExR.of u2.bh) _ _ hv2)), kit2 (ht.symm ▸ h1) (ht.symm ▸ h2), q _ _ _ u2 (at_bl.mpr rfl)⟩⟩
theorem e_eqD {x y : DD} (ha : Pe K ta σ B x) (hb : Pe K tb σ B y) (px : x.d.plain = true) (py : y.d.plain = true) (hz : x.d.depth ≤ 64) : Pe K (tOp (rEqP K) ta tb) σ B (PyData.eqv x.d y.d) :=
  e_op ha hb (rd_val (.bl _) (fun _ => at_bl.mpr rfl) fun B H v w e h1 h2 Q q => ⟨x.d, y.d, Dq.dp _ _ (dq_monoR (ExR.of e) _ _ h1), Dq.dp _ _ (dq_monoR (ExR.of e) _ _ h2), px, py, hz, q⟩)
theorem e_isND {x : DD} (h : Pe K te σ B x) : Pe K (tOp rIsN te (tC .non)) σ B (decide (tyD x.d = "NoneType")) := fun H e Q q => h H e _ fun v B1 H1 u hv => by
  obtain ⟨d⟩ := x
  have hv' : Dq K B1 v d := hv
  unfold rIsN
  cases hv' <;> exact ⟨rfl, q _ B1 H1 u (at_bl.mpr (by rfl))⟩
theorem duo_new {α β : Type} [Rep α] [Rep β] {Hx H' : Hp} {T : Addr} {x y : V} {a : α} {b : β} {B1 : Hp} (hT : Hx T = none) (eH : H' = upd Hx T (.tup [x, y])) (hx : Rep.at_ K B1 x a) (hy : Rep.at_ K B1 y b) :
    ∀ B', Ex B1 B' → Ex B' Hx → ∃ B2, Up B' Hx B2 H' ∧ Rep.at_ K B2 (.ref T) (Duo.mk a b) := fun B' b1 b2 => by
  subst eH
  have u := Up.new (o := .tup [x, y]) b2 hT
  exact ⟨_, u, T, x, y, rfl, upd_same, Rep.mono (b1.trans u.bb) hx, Rep.mono (b1.trans u.bb) hy⟩
def zd (ds : List PyData) : List (Duo DD DD) := ds.map fun d => Duo.mk (DD.mk d) (DD.mk d)
theorem zd_get {ds : List PyData} {i : Nat} {x y : DD} (h1 : (ds.map DD.mk)[i]? = some x) (h2 : (ds.map DD.mk)[i]? = some y) : (zd ds)[i]? = some (Duo.mk x y) := by
  rw [h1] at h2
  cases h2
  rw [List.getElem?_map] at h1
  obtain ⟨d, hd, rfl⟩ := Option.map_eq_some_iff.mp h1
  unfold zd
  rw [List.getElem?_map, hd]
  rfl
theorem it_zipDL {ds : List PyData} (h : Pe K ta σ B (DD.mk (.list ds))) (h2 : Pe K tb σ B (DD.mk (.list ds))) : ItD K (RZ.iZipA K (tCons ta (tCons tb tNil))) σ B (zd ds) := fun H e R q => h.both h2 e fun v w B1 H1 u hv hw => by
  cases (show Dq K B1 v (.list ds) from hv) with
  | @lst a vs _ hs hx0 =>
    cases (show Dq K B1 w (.list ds) from hw) with
    | @lst b ws _ hs2 hy0 =>
      have hx := dqAll_dd hx0
      have hy := dqAll_dd hy0
      refine ⟨a, b, vs, ws, rfl, .inl ⟨Evl.ex_l u.bh hs, Evl.ex_l u.bh hs2, ?_⟩⟩
      refine q (Itz K a b) B1 H1 (fun H => SqL K H a vs ∧ SqL K H b ws) (YPair (fun i => vs[i]?) (fun i => ws[i]?)) u (walk_zip ?_) (fun H' e' => ⟨Evl.ex_l e' hs, Evl.ex_l e' hs2⟩) fun i x Hx H' hi ex y => ?_
      · have l1 := hx.length
        have l2 := hy.length
        unfold zd
        rw [List.length_map] at l1 l2 ⊢
        omega
      · obtain ⟨T, x1, y1, rfl, hT, eH, e1, e2⟩ := y
        obtain ⟨d, hd, hxd⟩ := AtAll.get' hx e1
        obtain ⟨d2, hd2, hyd⟩ := AtAll.get' hy e2
        exact ⟨Duo.mk d d2, zd_get hd hd2, duo_new hT eH hxd hyd⟩
theorem it_zipDT {ds : List PyData} (h : Pe K ta σ B (DD.mk (.tuple ds))) (h2 : Pe K tb σ B (DD.mk (.tuple ds))) : ItD K (RZ.iZipA K (tCons ta (tCons tb tNil))) σ B (zd ds) := fun H e R q => h.both h2 e fun v w B1 H1 u hv hw => by
  cases (show Dq K B1 v (.tuple ds) from hv) with
  | @tup a vs _ hs hx0 =>
    cases (show Dq K B1 w (.tuple ds) from hw) with
    | @tup b ws _ hs2 hy0 =>
      have hx := dqAll_dd hx0
      have hy := dqAll_dd hy0
      refine ⟨a, b, vs, ws, rfl, .inr ⟨ex_tx u.bh hs, ex_tx u.bh hs2, ?_⟩⟩
      refine q (RZ.ItzT K a b) B1 H1 (fun H => SqT K H a vs ∧ SqT K H b ws) (YPair (fun i => vs[i]?) (fun i => ws[i]?)) u (walk_zipT ?_) (fun H' e' => ⟨ex_tx e' hs, ex_tx e' hs2⟩) fun i x Hx H' hi ex y => ?_
      · have l1 := hx.length
        have l2 := hy.length
        unfold zd
        rw [List.length_map] at l1 l2 ⊢
        omega
      · obtain ⟨T, x1, y1, rfl, hT, eH, e1, e2⟩ := y
        obtain ⟨d, hd, hxd⟩ := AtAll.get' hx e1
        obtain ⟨d2, hd2, hyd⟩ := AtAll.get' hy e2
        exact ⟨Duo.mk d d2, zd_get hd hd2, duo_new hT eH hxd hyd⟩
theorem turn_duo {α β γ : Type} [Rep α] [Rep β] [Rep γ] {vs : List Nat} {b : Bool} {r : γ} {i j : Nat} {p : Duo α β} (hp : Rep.at_ K B v p)
    (h : ∀ v1 v2, Rep.at_ K B v1 p.a → Rep.at_ K B v2 p.b → wipe (((wipe σ vs).set i (some v1)).set j (some v2)) vs = wipe σ vs ∧ Pt tt (((wipe σ vs).set i (some v1)).set j (some v2)) B b ∧ (b = true → Pe K te (((wipe σ vs).set i (some v1)).set j (some v2)) B r)) :
    TurnD K (gUnp K 2 (gCons (gName i) (gCons (gName j) gNil))) tt te vs σ B v b r := by
  obtain ⟨a, v1, v2, rfl, hs, h1, h2⟩ := hp
  obtain ⟨hw, ht, he⟩ := h v1 v2 h1 h2
  exact ⟨_, fun H Q e q => .inl ⟨a, [v1, v2], rfl, ex_tx e hs, rfl, v1, [v2], rfl, v2, [], rfl, rfl, q⟩, hw, ht, he⟩
end
section
variable {K : PySem.W.Frag} {W0 : List Addr} {B0 H0 : Hp} {os : List OC} {Γ : List (Option Cell)} {σ : L2.St} {B H : Hp} {tt : TT} {D : Ends} {tu tz : TS}
/-- if ..: a suite that returns; the test is true -/
theorem St.yes (s : St K W0 B0 H0 os Γ σ B H) (h : Pt tt σ B true) (k : ∀ B1 H1, St K W0 B0 H0 os Γ σ B1 H1 → tu { D with nx := tz D } σ H1) : tSeq (tIfS tt tu tNext) tz D σ H := h H s.bh (fun b H1 => if b = true then tu { D with nx := tz D } σ H1 else tNext { D with nx := tz D } σ H1) fun B1 H1 u => k B1 H1 (s.up u)
end
section
variable {K : PySem.W.Frag}
def spOf_Lsame (K : PySem.W.Frag) : Nat → Sp
  | 0 => fun _ _ _ _ => False
  | n + 1 => Fn2 K (fun (a b : DD) => a = b ∧ DOk n a.d) (fun _ _ => true)
abbrev sp_Lsame (K : PySem.W.Frag) : Sp := Fn2 K (fun (a b : DD) => a = b ∧ DOk 5 a.d) (fun _ _ => true)
def N_Lsame : List Str := ["_law_told", "_law_due", "_law_mine", "_law_its"]
def t_Lsame (K : PySem.W.Frag) (sp_Lsame : PySem.W.Frag → Sp) : TS :=
  (tSeq (tIfS (tB (tCB (rIsiT K) (tCons (tVar 1) (tCons (tTup (tCons (tC (.ty "list")) (tCons (tC (.ty "tuple")) tNil))) tNil)))) (tSeq (tIfS (tOr (tTest (tOp (rNeP K) (tCB (rIsi K) (tCons (tVar 0) (tCons (tC (.ty "list")) tNil))) (tCB (rIsi K) (tCons (tVar 1) (tCons (tC (.ty "list")) tNil))))) (tTest (tOp (rNeP K) (tCB (rIsi K) (tCons (tVar 0) (tCons (tC (.ty "tuple")) tNil))) (tCB (rIsi K) (tCons (tVar 1) (tCons (tC (.ty "tuple")) tNil)))))) (tRet (tC (.bl false))) tNext)
    (tRet (tAndV (tOp (rEqP K) (tCB (rLenU K) (tCons (tVar 0) tNil)) (tCB (rLenU K) (tCons (tVar 1) tNil))) (tCB (rAll K) (tCons (tLc (RZ.iZipA K (tCons (tVar 0) (tCons (tVar 1) tNil))) (gUnp K 2 (gCons (gName 2) (gCons (gName 3) gNil))) tYes (tCall (sp_Lsame K) [] E0 (tCons (tVar 2) (tCons (tVar 3) tNil))) [2, 3]) tNil))))) tNext)
    (tSeq (tIfS (tOr (tTest (tOp (rIsN) (tVar 1) (tC .non))) (tB (tCB (rIsiT K) (tCons (tVar 1) (tCons (tTup (tCons (tC (.ty "bool")) (tCons (tC (.ty "str")) tNil))) tNil))))) (tRet (tAndV (tOp (rEqP K) (tVar 0) (tVar 1)) (tAndV (tOp (rEqP K) (tCB (rIsi K) (tCons (tVar 0) (tCons (tC (.ty "bool")) tNil))) (tCB (rIsi K) (tCons (tVar 1) (tCons (tC (.ty "bool")) tNil)))) (tOp (rEqP K) (tOp (rIsN) (tVar 0) (tC .non)) (tOp (rIsN) (tVar 1) (tC .non)))))) tNext)
    (tRet (tAndV (tCB (rIsi K) (tCons (tVar 0) (tCons (tC (.ty "int")) tNil))) (tAndV (tNotV (tCB (rIsi K) (tCons (tVar 0) (tCons (tC (.ty "bool")) tNil)))) (tOp (rEqP K) (tVar 0) (tVar 1)))))))
theorem lOf_Lsame {n : Nat} (vs : List V) (H : Hp) (Q : VK) (E : XK) (h : spOf_Lsame K n vs H Q E) : vs.length = 2 := by
  cases n with
  | zero => exact h.elim
  | succ n => exact Fn2.len vs H Q E h
theorem r_Lsame (n : Nat) (vs : List V) (H : Hp) (Q : VK) (E : XK) (h : spOf_Lsame K (n + 1) vs H Q E) : t_Lsame K (fun K => spOf_Lsame K n) (Ends.ret Q) (start N_Lsame vs) H := by
  obtain ⟨a, b, B, ⟨rfl, hd⟩, s, q⟩ := Fn2.st (E := E) h N_Lsame
  obtain ⟨d⟩ := a
  replace s : St K [] B H [] [ce (DD.mk d), ce (DD.mk d), none, none] _ B H := s
  have fin : ∀ v B2 H2, Up B H B2 H2 → Rep.at_ K B2 v true → Q v H2 := q
  cases d with
  | none =>
    refine s.no (t_B (e_isi2 "NoneType" (b1 := false) (b2 := false) (s.v 1 rfl) (by decide +kernel) (by decide +kernel))) fun B1 H1 s1 => ?_
    refine s1.yes ((t_or (a := true) (b := false) (t_test ((e_isND (s1.v (x := DD.mk .none) 1 rfl)).is rfl)) fun h => by cases h).is rfl) fun B2 H2 s2 => ?_
    refine s2.ret (x := true) ((e_andV (a := true) (b := true) ((e_eqD (s2.v (x := DD.mk .none) 0 rfl) (s2.v (x := DD.mk .none) 1 rfl) rfl rfl (by simp [PyData.depth])).is rfl) fun _ => e_andV (a := true) (b := true) ((e_eq (e_isiD "NoneType" (b := false) (s2.v (x := DD.mk .none) 0 rfl) (by decide +kernel)) (e_isiD "NoneType" (b := false) (s2.v (x := DD.mk .none) 1 rfl) (by decide +kernel))).is rfl) fun _ => (e_eq (e_isND (s2.v (x := DD.mk .none) 0 rfl)) (e_isND (s2.v (x := DD.mk .none) 1 rfl))).is (decide_eq_true rfl)).is rfl) fun v B3 H3 s3 hv => q v B3 H3 s3.toUp hv
  | bool c =>
    refine s.no (t_B (e_isi2 "bool" (b1 := false) (b2 := false) (s.v 1 rfl) (by decide +kernel) (by decide +kernel))) fun B1 H1 s1 => ?_
    refine s1.yes ((t_or (a := false) (b := true) (t_test ((e_isND (s1.v (x := DD.mk (.bool c)) 1 rfl)).is rfl)) fun _ => t_B (e_isi2 "bool" (b1 := true) (b2 := false) (s1.v (x := DD.mk (.bool c)) 1 rfl) (by decide +kernel) (by decide +kernel))).is rfl) fun B2 H2 s2 => ?_
    refine s2.ret (x := true) ((e_andV (a := true) (b := true) ((e_eqD (s2.v (x := DD.mk (.bool c)) 0 rfl) (s2.v (x := DD.mk (.bool c)) 1 rfl) rfl rfl (by simp [PyData.depth])).is (by show (c == c) = true; simp)) fun _ => e_andV (a := true) (b := true) ((e_eq (e_isiD "bool" (b := true) (s2.v (x := DD.mk (.bool c)) 0 rfl) (by decide +kernel)) (e_isiD "bool" (b := true) (s2.v (x := DD.mk (.bool c)) 1 rfl) (by decide +kernel))).is rfl) fun _ => (e_eq (e_isND (s2.v (x := DD.mk (.bool c)) 0 rfl)) (e_isND (s2.v (x := DD.mk (.bool c)) 1 rfl))).is (decide_eq_true rfl)).is rfl) fun v B3 H3 s3 hv => q v B3 H3 s3.toUp hv
  | str c =>
    refine s.no (t_B (e_isi2 "str" (b1 := false) (b2 := false) (s.v 1 rfl) (by decide +kernel) (by decide +kernel))) fun B1 H1 s1 => ?_
    refine s1.yes ((t_or (a := false) (b := true) (t_test ((e_isND (s1.v (x := DD.mk (.str c)) 1 rfl)).is rfl)) fun _ => t_B (e_isi2 "str" (b1 := false) (b2 := true) (s1.v (x := DD.mk (.str c)) 1 rfl) (by decide +kernel) (by decide +kernel))).is rfl) fun B2 H2 s2 => ?_
    refine s2.ret (x := true) ((e_andV (a := true) (b := true) ((e_eqD (s2.v (x := DD.mk (.str c)) 0 rfl) (s2.v (x := DD.mk (.str c)) 1 rfl) rfl rfl (by simp [PyData.depth])).is (by show (c == c) = true; simp)) fun _ => e_andV (a := true) (b := true) ((e_eq (e_isiD "str" (b := false) (s2.v (x := DD.mk (.str c)) 0 rfl) (by decide +kernel)) (e_isiD "str" (b := false) (s2.v (x := DD.mk (.str c)) 1 rfl) (by decide +kernel))).is rfl) fun _ => (e_eq (e_isND (s2.v (x := DD.mk (.str c)) 0 rfl)) (e_isND (s2.v (x := DD.mk (.str c)) 1 rfl))).is (decide_eq_true rfl)).is rfl) fun v B3 H3 s3 hv => q v B3 H3 s3.toUp hv
  | int c =>
    refine s.no (t_B (e_isi2 "int" (b1 := false) (b2 := false) (s.v 1 rfl) (by decide +kernel) (by decide +kernel))) fun B1 H1 s1 => ?_
    refine s1.no ((t_or (a := false) (b := false) (t_test ((e_isND (s1.v (x := DD.mk (.int c)) 1 rfl)).is rfl)) fun _ => t_B (e_isi2 "int" (b1 := false) (b2 := false) (s1.v (x := DD.mk (.int c)) 1 rfl) (by decide +kernel) (by decide +kernel))).is rfl) fun B2 H2 s2 => ?_
    refine s2.ret (x := true) ((e_andV (a := true) (b := true) (e_isiD "int" (b := true) (s2.v (x := DD.mk (.int c)) 0 rfl) (by decide +kernel)) fun _ => e_andV (a := true) (b := true) ((e_notV (e_isiD "int" (b := false) (s2.v (x := DD.mk (.int c)) 0 rfl) (by decide +kernel))).is rfl) fun _ => (e_eqD (s2.v (x := DD.mk (.int c)) 0 rfl) (s2.v (x := DD.mk (.int c)) 1 rfl) rfl rfl (by simp [PyData.depth])).is (by show (c == c) = true; simp)).is rfl) fun v B3 H3 s3 hv => q v B3 H3 s3.toUp hv
  | dict c => cases n <;> exact hd.elim
  | list ds =>
    cases n with
    | zero => exact hd.elim
    | succ n =>
      obtain ⟨z, hd⟩ := hd
      refine s.yes (t_B (e_isi2 "list" (b1 := true) (b2 := false) (s.v 1 rfl) (by decide +kernel) (by decide +kernel))) fun B1 H1 s1 => ?_
      refine s1.no (t_or (a := false) (b := false) (t_test ((e_ne (e_isiD "list" (b := true) (s1.v (x := DD.mk (.list ds)) 0 rfl) (by decide +kernel)) (e_isiD "list" (b := true) (s1.v (x := DD.mk (.list ds)) 1 rfl) (by decide +kernel))).is rfl)) fun _ => t_test ((e_ne (e_isiD "list" (b := false) (s1.v (x := DD.mk (.list ds)) 0 rfl) (by decide +kernel)) (e_isiD "list" (b := false) (s1.v (x := DD.mk (.list ds)) 1 rfl) (by decide +kernel))).is rfl)) fun B2 H2 s2 => ?_
      refine s2.ret (x := true) ((e_andV (a := true) (b := true) ((e_eq (e_lenSq (xs := ds.map DD.mk) ((s2.v (x := DD.mk (.list ds)) 0 rfl).imp ddL_sq)) (e_lenSq (xs := ds.map DD.mk) ((s2.v (x := DD.mk (.list ds)) 1 rfl).imp ddL_sq))).is (decide_eq_true rfl)) fun _ => (e_all (e_lc (fun _ => true) (fun _ : Duo DD DD => true) (it_zipDL (s2.v (x := DD.mk (.list ds)) 0 rfl) (s2.v (x := DD.mk (.list ds)) 1 rfl)) (by unfold zd; rw [List.length_map]; exact z) fun x hx v B3 b3 hv => turn_duo hv fun v1 v2 k1 k2 => ?_)).is ?_).is rfl) fun v B3 H3 s3 hv => q v B3 H3 s3.toUp hv
      · obtain ⟨d, hdm, rfl⟩ := List.mem_map.mp hx
        refine ⟨by rw [set_none_comm (by simp), set_none_comm (by simp), wipe_wipe], t_yes, fun _ => ?_⟩
        have sl := (((s2.sl.mono b3).wipe [2, 3]).set 2 k1).set 3 k2
        exact e_call2 (pre := fun (a b : DD) => a = b ∧ DOk n a.d) (f := fun _ _ => true) (x := DD.mk d) (y := DD.mk d) (sl.v 2 rfl) (sl.v 3 rfl) ⟨rfl, hd d hdm⟩
      · rw [List.all_map, List.all_eq_true]
        exact fun _ _ => rfl
  | tuple ds =>
    cases n with
    | zero => exact hd.elim
    | succ n =>
      obtain ⟨z, hd⟩ := hd
      refine s.yes (t_B (e_isi2 "tuple" (b1 := false) (b2 := true) (s.v 1 rfl) (by decide +kernel) (by decide +kernel))) fun B1 H1 s1 => ?_
      refine s1.no (t_or (a := false) (b := false) (t_test ((e_ne (e_isiD "tuple" (b := false) (s1.v (x := DD.mk (.tuple ds)) 0 rfl) (by decide +kernel)) (e_isiD "tuple" (b := false) (s1.v (x := DD.mk (.tuple ds)) 1 rfl) (by decide +kernel))).is rfl)) fun _ => t_test ((e_ne (e_isiD "tuple" (b := true) (s1.v (x := DD.mk (.tuple ds)) 0 rfl) (by decide +kernel)) (e_isiD "tuple" (b := true) (s1.v (x := DD.mk (.tuple ds)) 1 rfl) (by decide +kernel))).is rfl)) fun B2 H2 s2 => ?_
      refine s2.ret (x := true) ((e_andV (a := true) (b := true) ((e_eq (e_lenSq (xs := ds.map DD.mk) ((s2.v (x := DD.mk (.tuple ds)) 0 rfl).imp ddT_sq)) (e_lenSq (xs := ds.map DD.mk) ((s2.v (x := DD.mk (.tuple ds)) 1 rfl).imp ddT_sq))).is (decide_eq_true rfl)) fun _ => (e_all (e_lc (fun _ => true) (fun _ : Duo DD DD => true) (it_zipDT (s2.v (x := DD.mk (.tuple ds)) 0 rfl) (s2.v (x := DD.mk (.tuple ds)) 1 rfl)) (by unfold zd; rw [List.length_map]; exact z) fun x hx v B3 b3 hv => turn_duo hv fun v1 v2 k1 k2 => ?_)).is ?_).is rfl) fun v B3 H3 s3 hv => q v B3 H3 s3.toUp hv
      · obtain ⟨d, hdm, rfl⟩ := List.mem_map.mp hx
        refine ⟨by rw [set_none_comm (by simp), set_none_comm (by simp), wipe_wipe], t_yes, fun _ => ?_⟩
        have sl := (((s2.sl.mono b3).wipe [2, 3]).set 2 k1).set 3 k2
        exact e_call2 (pre := fun (a b : DD) => a = b ∧ DOk n a.d) (f := fun _ _ => true) (x := DD.mk d) (y := DD.mk d) (sl.v 2 rfl) (sl.v 3 rfl) ⟨rfl, hd d hdm⟩
      · rw [List.all_map, List.all_eq_true]
        exact fun _ _ => rfl
end
end Ob
set_option Elab.async false
set_option linter.all false
set_option maxRecDepth 100000
set_option maxHeartbeats 4000000
/-! Sl: _law_lists. -/
namespace Ob
open PySem L2
open Evl (Ex)
open PySem.W (Datum Tup DatumOrd)
/-- with lists in place of tuples -/
def listyN : Nat → PyData → PyData
  | n + 1, .list xs => .list (xs.map (listyN n))
  | n + 1, .tuple xs => .list (xs.map (listyN n))
  | _, d => d
section
variable {K : PySem.W.Frag}
def spOf_Llists (K : PySem.W.Frag) : Nat → Sp
  | 0 => fun _ _ _ _ => False
  | n + 1 => Fn1 K (fun a : DD => DOk n a.d) (fun a => DD.mk (listyN n a.d))
abbrev sp_Llists (K : PySem.W.Frag) : Sp := Fn1 K (fun a : DD => DOk 5 a.d) (fun a => DD.mk (listyN 5 a.d))
def N_Llists : List Str := ["_law_matter", "_law_part"]
def t_Llists (K : PySem.W.Frag) (sp_Llists : PySem.W.Frag → Sp) : TS :=
  (tRet (tIf (tB (tCB (rIsiT K) (tCons (tVar 0) (tCons (tTup (tCons (tC (.ty "list")) (tCons (tC (.ty "tuple")) tNil))) tNil)))) (tLc (iSeq K (tVar 0)) (gName 1) tYes (tCall (sp_Llists K) [] E0 (tCons (tVar 1) tNil)) [1]) (tVar 0)))
theorem lOf_Llists {n : Nat} (vs : List V) (H : Hp) (Q : VK) (E : XK) (h : spOf_Llists K n vs H Q E) : vs.length = 1 := by
  cases n with
  | zero => exact h.elim
  | succ n => exact Fn1.len vs H Q E h
theorem r_Llists (n : Nat) (vs : List V) (H : Hp) (Q : VK) (E : XK) (h : spOf_Llists K (n + 1) vs H Q E) : t_Llists K (fun K => spOf_Llists K n) (Ends.ret Q) (start N_Llists vs) H := by
  obtain ⟨a, B, hd, s, q⟩ := Fn1.st (E := E) h N_Llists
  obtain ⟨d⟩ := a
  replace s : St K [] B H [] [ce (DD.mk d), none] _ B H := s
  have leaf : ∀ t : String, tyD d = t → kitB t "list" = some false → kitB t "tuple" = some false → listyN n d = d → t_Llists K (fun K => spOf_Llists K n) (Ends.ret Q) (start N_Llists vs) H := fun t ht h1 h2 hl => by
    refine s.ret (x := DD.mk d) (e_if (b := false) ((t_B (e_isi2 t (s.v 0 rfl) h1 h2 ht)).is rfl) (fun h => by cases h) fun _ => s.v 0 rfl) fun v B1 H1 s1 hv => q v B1 H1 s1.toUp ?_
    show Rep.at_ K B1 v (DD.mk (listyN n d))
    rw [hl]
    exact hv
  cases d with
  | none => exact leaf "NoneType" rfl (by decide +kernel) (by decide +kernel) (by cases n <;> rfl)
  | bool c => exact leaf "bool" rfl (by decide +kernel) (by decide +kernel) (by cases n <;> rfl)
  | str c => exact leaf "str" rfl (by decide +kernel) (by decide +kernel) (by cases n <;> rfl)
  | int c => exact leaf "int" rfl (by decide +kernel) (by decide +kernel) (by cases n <;> rfl)
  | dict c => cases n <;> exact hd.elim
  | list ds =>
    cases n with
    | zero => exact hd.elim
    | succ n =>
      obtain ⟨z, hd⟩ := hd
      refine s.ret (x := DD.mk (.list (ds.map (listyN n)))) (e_if (b := true) ((t_B (e_isi2 (b1 := true) (b2 := false) "list" (s.v 0 rfl) (by decide +kernel) (by decide +kernel))).is rfl) (fun _ => ?_) fun h => by cases h) fun v B1 H1 s1 hv => q v B1 H1 s1.toUp hv
      have h0 := s.sl.lcAS (te := tCall (spOf_Llists K (n + 1)) [] E0 (tCons (tVar 1) tNil)) (j := 1) (fun x : DD => DD.mk (listyN n x.d)) (it_sq ((s.v (x := DD.mk (.list ds)) 0 rfl).imp ddL_sq)) (by rw [List.length_map]; exact z) fun x hx σ2 B2 b2 s2 => e_call1 (pre := fun a : DD => DOk n a.d) (f := fun a => DD.mk (listyN n a.d)) (s2.v (x := x) 1 rfl) (by
        obtain ⟨d, hdm, rfl⟩ := List.mem_map.mp hx
        exact hd d hdm)
      rw [List.map_map] at h0
      refine h0.imp fun h => ll_dd ?_
      rw [List.map_map]
      exact h
  | tuple ds =>
    cases n with
    | zero => exact hd.elim
    | succ n =>
      obtain ⟨z, hd⟩ := hd
      refine s.ret (x := DD.mk (.list (ds.map (listyN n)))) (e_if (b := true) ((t_B (e_isi2 (b1 := false) (b2 := true) "tuple" (s.v 0 rfl) (by decide +kernel) (by decide +kernel))).is rfl) (fun _ => ?_) fun h => by cases h) fun v B1 H1 s1 hv => q v B1 H1 s1.toUp hv
      have h0 := s.sl.lcAS (te := tCall (spOf_Llists K (n + 1)) [] E0 (tCons (tVar 1) tNil)) (j := 1) (fun x : DD => DD.mk (listyN n x.d)) (it_sq ((s.v (x := DD.mk (.tuple ds)) 0 rfl).imp ddT_sq)) (by rw [List.length_map]; exact z) fun x hx σ2 B2 b2 s2 => e_call1 (pre := fun a : DD => DOk n a.d) (f := fun a => DD.mk (listyN n a.d)) (s2.v (x := x) 1 rfl) (by
        obtain ⟨d, hdm, rfl⟩ := List.mem_map.mp hx
        exact hd d hdm)
      rw [List.map_map] at h0
      refine h0.imp fun h => ll_dd ?_
      rw [List.map_map]
      exact h
/-! a panel as lists -/
theorem dd_strs {H : Hp} {v : V} : ∀ {vs : List V} {xs : List Str}, DqAll K H vs (xs.map fun x => .str x) → AtAll K H vs xs
  | _, [], h => by cases h; exact .nil
  | _, x :: xs, h => by
    cases h with
    | cons a b => exact .cons a (dd_strs (v := v) b)
end
end Ob
set_option Elab.async false
set_option linter.all false
set_option maxRecDepth 100000
set_option maxHeartbeats 4000000
/-! V0: a list that nobody else holds, given by a def; a list of two such, asked, then changed; a dict whose values are any things. -/
namespace Ob
open PySem L2
open Evl (Ex)
open PySem.W (Datum Tup DatumOrd)
section
variable {K : PySem.W.Frag} {W0 : List Addr} {B0 H0 : Hp} {os : List OC} {Γ : List (Option Cell)} {σ : L2.St} {B H B1 H1 : Hp} {te ta tb tc td tk tv : TE} {tt tt1 : TT} {D : Ends} {tu tw tz : TS} {C : Addr} {f : Str}
variable {α β γ δ ε : Type} [Rep α] [Rep β] [Rep γ] [Rep δ] [Rep ε] {vs : List V} {Q : VK} {E : XK}
/-- a reading gives a list that nobody else holds -/
def PeF (K : PySem.W.Frag) {α : Type} [Rep α] (te : TE) (σ : L2.St) (B : Hp) (xs : List α) : Prop := ∀ H, Ex B H → ∀ Q : VK, (∀ l us B1 H1, Up B H B1 H1 → B1 l = none → H l = none → H1 l = some (.lst us) → AtAll K B1 us xs → Q (.ref l) H1) → te σ H Q
theorem up_lst {l : Addr} {o : HO} (u : Up B H B1 H1) (hb : B1 l = none) (hh : H l = none) (hl : H1 l = some o) : Up B H (upd B1 l o) H1 :=
  ⟨u.bb.trans (Ex.new hb), ex_in u.bh hl, u.hh, fun a ha => by
    by_cases z : a = l
    · exact .inr (z ▸ hh)
    · rw [upd_ne z] at ha
      exact u.nw a ha⟩
theorem PeF.pe {α : Type} [DecidableEq α] [Datum α] {xs : List α} (h : PeF K te σ B xs) : Pe K te σ B xs := fun H e Q q => h H e Q fun l us B1 H1 u hb hh hl hA => q _ _ _ (up_lst u hb hh hl) (at_list.mpr ⟨l, us, rfl, Evl.sq_of upd_same, hA.mono (Ex.new hb)⟩)
def FnF3 (K : PySem.W.Frag) (pre : α → β → γ → Prop) (g : α → β → γ → List δ) : Sp := fun vs H Q _ => ∃ x y z B, Ex B H ∧ RCons K x (RCons K y (RCons K z RNil)) vs B ∧ pre x y z ∧ ∀ l us B2 H2, Up B H B2 H2 → B2 l = none → H l = none → H2 l = some (.lst us) → AtAll K B2 us (g x y z) → Q (.ref l) H2
theorem FnF3.len {pre : α → β → γ → Prop} {g : α → β → γ → List δ} (vs : List V) (H : Hp) (Q : VK) (E : XK) (h : FnF3 K pre g vs H Q E) : vs.length = 3 := by
  obtain ⟨x, y, z, B, e, ⟨v, r, rfl, h1, v2, r2, rfl, h2, v3, r3, rfl, h3, rfl⟩, _⟩ := h
  rfl
variable {pre : α → β → γ → Prop} {g : α → β → γ → List δ} {bad : α → β → γ → ε → Prop}
end
section
variable {K : PySem.W.Frag} {W0 : List Addr} {B0 H0 : Hp} {os : List OC} {Γ : List (Option Cell)} {σ : L2.St} {B H B1 H1 : Hp} {te ta tb tc td tk tv : TE} {tt tt1 : TT} {D : Ends} {tu tw tz : TS}
theorem up_chg {l : Addr} {o : HO} (e : Ex B H) (hh : H l = none) (u : Up B H B1 H1) : Up B H B (upd H1 l o) :=
  ⟨Ex.refl B, fun a x h => by
    have ha : a ≠ l := fun z => by rw [z] at h; rw [e _ _ h] at hh; cases hh
    rw [upd_ne ha]; exact u.hh a x (e a x h), fun a x h => by
    have ha : a ≠ l := fun z => by rw [z, hh] at h; cases h
    rw [upd_ne ha]; exact u.hh a x h, fun _ h => .inl h⟩
/-- xs = [a, b]; if not ..: return; xs[0].append(e): a is a list that nobody else holds -/
theorem St.told {i : Nat} {w : Str} {xs : List Str} (s : St K W0 B0 H0 os Γ σ B H) (hi : i < σ.length) (h1 : PeF K ta σ B xs) (h2 : Pe K tb σ B xs) (hz : xs.length ≤ 1000000)
    (ht : ∀ σ' B' H', St K W0 B0 H0 os (cs Γ i (ce (DD.mk (.list [.list (xs.map .str), .list (xs.map .str)])))) σ' B' H' → Pt tt σ' B' false) (k : ∀ σ1 H1, St K W0 B0 H0 os (cs Γ i none) σ1 B H1 → tz D σ1 H1) :
    tSeq (tAsg (tLst (tCons ta (tCons tb tNil))) (gName i)) (tSeq (tIfS tt tu tNext) (tSeq (tDrop (tBM K "list" rAppend (tOp (rIxU K) (tVar i) (tC (.int 0))) (tCons (tC (.str w)) tNil))) tz)) D σ H := by
  refine h1 H s.bh _ fun l us B1 H1 u1 hb hh hl hA => ?_
  have u1' := up_lst u1 hb hh hl
  have eb : Ex B B1 := u1.bb
  refine (h2.mono u1'.bb) H1 u1'.bh _ fun v B2 H2 u2 hv => ?_
  refine ⟨by show 2 ≤ sizeLine; rw [sizeLine_eq]; decide, fun p hp => ?_⟩
  have u3 : Up B2 H2 (upd B2 p (.lst [.ref l, v])) (upd H2 p (.lst [.ref l, v])) := Up.new u2.bh hp
  have uu := (u1'.trans u2).trans u3
  have hl1 : Rep.at_ K (upd B2 p (.lst [.ref l, v])) (.ref l) xs := at_list.mpr ⟨l, us, rfl, Evl.sq_of ((u2.bb.trans u3.bb) _ _ upd_same), (hA.mono (Ex.new hb)).mono (u2.bb.trans u3.bb)⟩
  have s3 := (s.up uu).put (x := DD.mk (.list [.list (xs.map .str), .list (xs.map .str)])) i (v := .ref p) (Dq.lst (Evl.sq_of upd_same) (.cons (show Dq K _ _ (Datum.toD xs) from hl1) (.cons (show Dq K _ _ (Datum.toD xs) from Rep.mono u3.bb hv) .nil)))
  refine (ht _ _ _ s3) _ s3.bh _ fun B4 H4 u4 => ?_
  have hp4 : H4 p = some (.lst [.ref l, v]) := u4.hh _ _ upd_same
  have hl4 : H4 l = some (.lst us) := u4.hh _ _ (u3.hh _ _ (u2.hh _ _ hl))
  have key : tBM K "list" rAppend (tOp (rIxU K) (tVar i) (tC (.int 0))) (tCons (tC (.str w)) tNil) (σ.set i (some (.ref p))) H4 (fun _ H' => tz D (σ.set i (some (.ref p))) H') := by
    refine ⟨_, List.getElem?_set_self hi, ?_⟩
    refine .inl ⟨p, [.ref l, v], 0, .ref l, rfl, rfl, Evl.sq_of hp4, rfl, ?_⟩
    refine ⟨.inl ⟨rfl, us, Evl.sq_of hl4⟩, l, us, .str w, rfl, rfl, hl4, Nat.lt_of_le_of_lt (by rw [hA.length]; exact hz) (by rw [sizeLine_eq]; decide), ?_⟩
    have u5 := up_chg (o := .lst (us ++ [.str w])) s.bh hh (uu.trans u4)
    exact k _ _ ((s.up u5).slot (s.sl.put i At1.none))
  exact key
end
end Ob
set_option Elab.async false
set_option linter.all false
set_option maxRecDepth 100000
set_option maxHeartbeats 4000000
/-! Gd: repr of data; for it the state of the guards (no repr is under way) is handed down from law: FnOkG. -/
namespace L2
open PySem PySem.Spec PyProof.Rows
end L2
set_option Elab.async false
set_option linter.all false
set_option maxRecDepth 100000
set_option maxHeartbeats 4000000
/-! Ge: the end of a law whose promise asks for the guards (no repr is under way when the law is called). -/
namespace L2
open PySem PySem.Spec PyProof.Rows
end L2
set_option Elab.async false
set_option linter.all false
set_option maxRecDepth 100000
set_option maxHeartbeats 4000000
/-! Gf: data whose repr is known to fit; repr(x) by data. -/
namespace Ob
open PySem L2
open Evl (Ex)
open PySem.W (Datum Tup DatumOrd)
/-- repr fits: m bounds the signs, k the depth -/
structure Shw (m k : Nat) (d : PyData) : Prop where
  sh : d.showable = true
  nd : d.hasDict = false
  dp : d.depth ≤ k
  lf : d.leavesShort 8 = true
  bk : d.bulk ≤ m
theorem Shw.le {m k m' k' : Nat} {d : PyData} (h : Shw m k d) (h1 : m ≤ m') (h2 : k ≤ k') : Shw m' k' d := ⟨h.sh, h.nd, Nat.le_trans h.dp h2, h.lf, Nat.le_trans h.bk h1⟩
end Ob
set_option Elab.async false
set_option linter.all false
set_option maxRecDepth 100000
set_option maxHeartbeats 4000000
/-! Tg: lists of things of any kind; a list of two lists, of which nobody else holds the first, asked, then changed. -/
set_option Elab.async false
set_option linter.all false
set_option maxRecDepth 100000
set_option maxHeartbeats 4000000
/-! Rv: x[::-1] of a list or a tuple. -/
namespace L2
open PySem PySem.Spec PyProof.Rows
end L2
set_option Elab.async false
set_option linter.all false
set_option maxRecDepth 100000
set_option maxHeartbeats 4000000
/-! Bx: data of any kind, bounded: how it is displayed, cut, added, turned round; lists of it that change. -/
namespace L2
open PySem PySem.Spec PyProof.Rows
end L2
namespace Ob
open PySem L2
open Evl (Ex)
open PySem.W (Datum Tup DatumOrd)
/-! ### data that repr can show -/
section
variable {K : PySem.W.Frag} {W0 : List Addr} {B0 H0 : Hp} {os : List OC} {Γ : List (Option Cell)} {σ : L2.St} {B H B1 H1 : Hp} {te tb tc td tk tv : TE} {ta : TA} {tt tt1 : TT} {D : Ends} {tu tw tz : TS} {tl th : TO}
/-! ### displays -/
/-! ### list, tuple, [::-1], slices of data -/
/-- a list or a tuple of these -/
inductive SD (ds : List PyData) : PyData → Prop where
  | l : SD ds (.list ds)
  | t : SD ds (.tuple ds)
/-! ### texts -/
end
end Ob
set_option Elab.async false
set_option linter.all false
set_option maxRecDepth 100000
set_option maxHeartbeats 4000000
/-! Sm: methods of texts as readings: split, join, partition, strip(signs), islower. -/
namespace Ob
open PySem L2
open Evl (Ex)
open PySem.W (Datum Tup DatumOrd)
def tSplit (to te : TE) : TE := tM1 (fun x xs H Q => ∃ a b, x = .str a ∧ xs = [.str b] ∧ (b.length == 0) = false ∧ a.length + 2 ≤ sizeLine ∧ rNewStrs (Txt.split a b) H Q) to te
def tPartn (to te : TE) : TE := tM1 (fun x xs H Q => ∃ a b, x = .str a ∧ xs = [.str b] ∧ (b.length == 0) = false ∧ a.length ≤ sizeLine ∧
      ∀ p, H p = none → Q (.ref p) (upd H p (.tup [.str (Txt.partition a b).1, .str (Txt.partition a b).2.1, .str (Txt.partition a b).2.2]))) to te
def tJoinS (K : PySem.W.Frag) (to te : TE) : TE := tM1 (fun x xs H Q => ∃ a p, ∃ ys : List Str, x = .str a ∧ xs = [.ref p] ∧ (SqL K H p (ys.map V.str) ∨ SqT K H p (ys.map V.str)) ∧
      (ys.map (·.length)).sum + ys.length * a.length ≤ 16777216 ∧ Q (.str (Txt.join a ys)) H) to te
def tStripC (to te : TE) : TE := tM1 (fun x xs H Q => ∃ a b, x = .str a ∧ xs = [.str b] ∧ a.length ≤ sizeLine ∧ Q (.str (Txt.stripChars a b)) H) to te
def tIsLower (to : TE) : TE := tM0 (fun x xs H Q => ∃ a, x = .str a ∧ xs = [] ∧ True ∧ Q (.bl (Txt.islower a)) H) to
section
variable {X : Cx} {o e : Expr} {to te : TE} {apos pos : Pos}
theorem pe_splitU (ho : PE X o to) (he : PE X e te) (hs : starEach [e] X.env = [(false, eval e X.env)] := by rfl) (hbase : attributeBase o "split" X.env (eval o X.env) = eval o X.env := by rfl) (hline : (apos.endLine == pos.line) = true := by rfl) :
    PE X (.Call (.Attribute o "split" apos) [e] [] pos) (tSplit to te) := pe_split ho he hs hbase hline
theorem pe_partU (ho : PE X o to) (he : PE X e te) (hs : starEach [e] X.env = [(false, eval e X.env)] := by rfl) (hbase : attributeBase o "partition" X.env (eval o X.env) = eval o X.env := by rfl) (hline : (apos.endLine == pos.line) = true := by rfl) :
    PE X (.Call (.Attribute o "partition" apos) [e] [] pos) (tPartn to te) := pe_partition ho he hs hbase hline
theorem pe_joinU (ho : PE X o to) (he : PE X e te) (hs : starEach [e] X.env = [(false, eval e X.env)] := by rfl) (hbase : attributeBase o "join" X.env (eval o X.env) = eval o X.env := by rfl) (hline : (apos.endLine == pos.line) = true := by rfl) :
    PE X (.Call (.Attribute o "join" apos) [e] [] pos) (tJoinS X.K to te) := pe_join ho he hs hbase hline
theorem pe_stripCU (ho : PE X o to) (he : PE X e te) (hs : starEach [e] X.env = [(false, eval e X.env)] := by rfl) (hbase : attributeBase o "strip" X.env (eval o X.env) = eval o X.env := by rfl) (hline : (apos.endLine == pos.line) = true := by rfl) :
    PE X (.Call (.Attribute o "strip" apos) [e] [] pos) (tStripC to te) := pe_m1 PySem.F.slot_str_strip PySem.F.type_str_strip mt_stripChars ho he hs hbase hline
theorem pe_isLowerU (ho : PE X o to) (hbase : attributeBase o "islower" X.env (eval o X.env) = eval o X.env := by rfl) (hline : (apos.endLine == pos.line) = true := by rfl) :
    PE X (.Call (.Attribute o "islower" apos) [] [] pos) (tIsLower to) := pe_m0 PySem.F.slot_str_islower PySem.F.type_str_islower mt_islower ho hbase hline
end
section
variable {K : PySem.W.Frag} {σ : L2.St} {B H : Hp} {ta tb : TE} {x y : Str}
theorem atAll_strS {ys : List Str} : AtAll K H (ys.map V.str) ys := by
  induction ys with
  | nil => exact .nil
  | cons y ys ih => exact .cons (at_str.mpr rfl) ih
theorem e_split (h : Pe K ta σ B x) (h2 : Pe K tb σ B y) (hy : (y.length == 0) = false) (hz : x.length ≤ 10000000) : Pe K (tSplit ta tb) σ B (Txt.split x y) := fun H e Q q => h H e _ fun v B1 H1 u1 hv => by
  cases at_str.mp hv
  refine ⟨⟨x, rfl⟩, (h2.mono u1.bb) H1 u1.bh _ fun w B2 H2 u2 hw => ?_⟩
  cases at_str.mp hw
  refine ⟨x, y, rfl, rfl, hy, by rw [sizeLine_eq]; omega, fun l hl => ?_⟩
  have w3 := Up.new (o := .lst ((Txt.split x y).map V.str)) u2.bh hl
  exact q _ _ _ ((u1.trans u2).trans w3) (at_list.mpr ⟨l, _, rfl, Evl.sq_of upd_same, atAll_strS⟩)
/-- a list that nobody else holds -/
theorem f_split (h : Pe K ta σ B x) (h2 : Pe K tb σ B y) (hy : (y.length == 0) = false) (hz : x.length ≤ 10000000) : PeF K (tSplit ta tb) σ B (Txt.split x y) := fun H e Q q => h H e _ fun v B1 H1 u1 hv => by
  cases at_str.mp hv
  refine ⟨⟨x, rfl⟩, (h2.mono u1.bb) H1 u1.bh _ fun w B2 H2 u2 hw => ?_⟩
  cases at_str.mp hw
  refine ⟨x, y, rfl, rfl, hy, by rw [sizeLine_eq]; omega, fun l hl => ?_⟩
  have hb : B2 l = none := Evl.fresh_back u2.bh hl
  refine q l _ B2 _ ⟨(u1.trans u2).bb, ?_, ?_, (u1.trans u2).nw⟩ hb ?_ upd_same atAll_strS
  · exact fun a z hz => by
      have ne : a ≠ l := fun k => by rw [k, hb] at hz; cases hz
      rw [upd_ne ne]
      exact u2.bh a z hz
  · exact fun a z hz => by
      have h3 := (u1.trans u2).hh a z hz
      have ne : a ≠ l := fun k => by rw [k, hl] at h3; cases h3
      rw [upd_ne ne]
      exact h3
  · exact Evl.fresh_back (u1.trans u2).hh hl
theorem e_part (h : Pe K ta σ B x) (h2 : Pe K tb σ B y) (hy : (y.length == 0) = false) (hz : x.length ≤ 10000000) : Pe K (tPartn ta tb) σ B (Tup.mk [(Txt.partition x y).1, (Txt.partition x y).2.1, (Txt.partition x y).2.2]) := fun H e Q q => h H e _ fun v B1 H1 u1 hv => by
  cases at_str.mp hv
  refine ⟨⟨x, rfl⟩, (h2.mono u1.bb) H1 u1.bh _ fun w B2 H2 u2 hw => ?_⟩
  cases at_str.mp hw
  refine ⟨x, y, rfl, rfl, hy, by rw [sizeLine_eq]; omega, fun l hl => ?_⟩
  have w3 := Up.new (o := .tup ([(Txt.partition x y).1, (Txt.partition x y).2.1, (Txt.partition x y).2.2].map V.str)) u2.bh hl
  exact q _ _ _ ((u1.trans u2).trans w3) (at_tup.mpr ⟨l, _, rfl, upd_same, atAll_strS⟩)
theorem strs_vals {ys : List Str} {vs : List V} (h : AtAll K H vs ys) : vs = ys.map V.str := by
  induction ys generalizing vs with
  | nil => cases h; rfl
  | cons y ys ih => cases h with
    | cons a t => rw [List.map_cons, at_str.mp a, ih t]
theorem e_join {ys : List Str} (h : Pe K ta σ B x) (h2 : Pe K tb σ B (Sq.mk ys)) (hz : (ys.map (·.length)).sum + ys.length * x.length ≤ 16777216) : Pe K (tJoinS K ta tb) σ B (Txt.join x ys) := fun H e Q q => h H e _ fun v B1 H1 u1 hv => by
  cases at_str.mp hv
  refine ⟨⟨x, rfl⟩, (h2.mono u1.bb) H1 u1.bh _ fun w B2 H2 u2 hw => ?_⟩
  obtain ⟨a, vs, rfl, hs, hx⟩ := hw
  have hvs := strs_vals hx
  subst hvs
  refine ⟨x, a, ys, rfl, rfl, hs.imp (fun h => ?_) (fun h => ?_), hz, q _ B2 H2 (u1.trans u2) (at_str.mpr rfl)⟩
  · exact Evl.ex_l u2.bh h
  · exact ex_tx u2.bh h
theorem e_stripC (h : Pe K ta σ B x) (h2 : Pe K tb σ B y) (hz : x.length ≤ 10000000) : Pe K (tStripC ta tb) σ B (Txt.stripChars x y) := fun H e Q q => h H e _ fun v B1 H1 u1 hv => by
  cases at_str.mp hv
  refine ⟨⟨x, rfl⟩, (h2.mono u1.bb) H1 u1.bh _ fun w B2 H2 u2 hw => ?_⟩
  cases at_str.mp hw
  exact ⟨x, y, rfl, rfl, by rw [sizeLine_eq]; omega, q _ B2 H2 (u1.trans u2) (at_str.mpr rfl)⟩
theorem e_isLower (h : Pe K ta σ B x) : Pe K (tIsLower ta) σ B (Txt.islower x) := fun H e Q q => h H e _ fun v B1 H1 u1 hv => by
  cases at_str.mp hv
  exact ⟨⟨x, rfl⟩, x, rfl, rfl, trivial, q _ B1 H1 u1 (at_bl.mpr rfl)⟩
end
end Ob
set_option Elab.async false
set_option linter.all false
set_option maxRecDepth 100000
set_option maxHeartbeats 4000000
/-! M89 (plain): texts cut and joined; names (k87). -/
namespace Ob
open PySem L2 TL
open PySem.W (Datum Tup DatumOrd)
theorem tl_sp : tl (" " : Str) = [32] := by rw [show (" " : Str) = Str.ofString " " from rfl, tl_ofString]; decide
theorem tl_hy : tl ("-" : Str) = [45] := by rw [show ("-" : Str) = Str.ofString "-" from rfl, tl_ofString]; decide
theorem tl_sl : tl ("/" : Str) = [47] := by rw [show ("/" : Str) = Str.ofString "/" from rfl, tl_ofString]; decide
theorem tl_em : tl ("" : Str) = [] := by rw [show ("" : Str) = Str.ofString "" from rfl, tl_ofString]; decide
theorem tl_ssl : tl (" / " : Str) = [32, 47, 32] := by rw [show (" / " : Str) = Str.ofString " / " from rfl, tl_ofString]; decide
theorem k_sp : (" " : Str).cps.all (· < 256) = true := by decide +kernel
theorem k_hy : ("-" : Str).cps.all (· < 256) = true := by decide +kernel
/-! ### sizes -/
theorem spl_sum (S : List Nat) : ∀ (l : List Nat) (k : Nat) (acc : List Nat), ((spl S k acc l).map List.length).sum ≤ acc.length + l.length
  | [], k, acc => by rw [spl_nil]; simp
  | c :: r, 0, acc => by
    cases h : pre S (c :: r) with
    | true =>
      rw [spl_hit h, List.map_cons, List.sum_cons]
      have := spl_sum S r (S.length - 1) []
      simp only [List.length_nil, List.length_cons] at this ⊢
      omega
    | false =>
      rw [spl_miss h]
      have := spl_sum S r 0 (acc ++ [c])
      simp only [List.length_append, List.length_cons, List.length_nil] at this ⊢
      omega
  | c :: r, k + 1, acc => by
    show ((spl S k acc r).map List.length).sum ≤ _
    have := spl_sum S r k acc
    simp only [List.length_cons]
    omega
theorem spl_many (S : List Nat) : ∀ (l : List Nat) (k : Nat) (acc : List Nat), (spl S k acc l).length ≤ l.length + 1
  | [], k, acc => by rw [spl_nil]; simp
  | c :: r, 0, acc => by
    cases h : pre S (c :: r) with
    | true =>
      rw [spl_hit h]
      have := spl_many S r (S.length - 1) []
      simp only [List.length_cons] at this ⊢
      omega
    | false =>
      rw [spl_miss h]
      have := spl_many S r 0 (acc ++ [c])
      simp only [List.length_cons] at this ⊢
      omega
  | c :: r, k + 1, acc => by
    show (spl S k acc r).length ≤ _
    have := spl_many S r k acc
    simp only [List.length_cons]
    omega
theorem spl_ne (S : List Nat) : ∀ (l : List Nat) (k : Nat) (acc : List Nat), spl S k acc l ≠ []
  | [], k, acc => by rw [spl_nil]; simp
  | c :: r, 0, acc => by
    cases h : pre S (c :: r) with
    | true => rw [spl_hit h]; simp
    | false => rw [spl_miss h]; exact spl_ne S r 0 _
  | c :: r, k + 1, acc => spl_ne S r k acc
/-- all letters together -/
def sumL (ws : List Str) : Nat := (ws.map (·.length)).sum
theorem sumL_tl (ws : List Str) : sumL ws = ((ws.map tl).map List.length).sum := by
  unfold sumL
  rw [List.map_map]
  rfl
theorem split_tl {y : Str} (x : Str) (hy : tl y ≠ []) (hk : y.cps.all (· < 256) = true) : (Txt.split x y).map tl = spl (tl y) 0 [] (tl x) := split_spl x y hy (kind_ok hk)
theorem split_sum {y : Str} (x : Str) (hy : tl y ≠ []) (hk : y.cps.all (· < 256) = true) : sumL (Txt.split x y) ≤ x.length ∧ (Txt.split x y).length ≤ x.length + 1 ∧ Txt.split x y ≠ [] := by
  have e := split_tl x hy hk
  have h1 := spl_sum (tl y) (tl x) 0 []
  have h2 := spl_many (tl y) (tl x) 0 []
  have h3 := spl_ne (tl y) (tl x) 0 []
  rw [← e] at h1 h2 h3
  rw [← sumL_tl] at h1
  rw [List.length_map] at h2
  have hl := len_tl x
  simp only [List.length_nil] at h1
  exact ⟨by omega, by omega, fun z => h3 (by rw [z]; rfl)⟩
theorem joinL_len (S : List Nat) : ∀ ps : List (List Nat), (joinL S ps).length ≤ (ps.map List.length).sum + ps.length * S.length
  | [] => by simp [joinL]
  | [p] => by simp [joinL]
  | p :: q :: r => by
    have h := joinL_len S (q :: r)
    show (p ++ (S ++ joinL S (q :: r))).length ≤ _
    rw [List.length_append, List.length_append, List.map_cons, List.sum_cons, List.length_cons (as := q :: r), Nat.succ_mul]
    omega
theorem join_len (y : Str) (ws : List Str) : (Txt.join y ws).length ≤ sumL ws + ws.length * y.length := by
  rw [join_eq, len_tl, tl_join, sumL_tl, len_tl y]
  have := joinL_len (tl y) (ws.map tl)
  rw [List.length_map] at this
  exact this
theorem sumL_append (a b : List Str) : sumL (a ++ b) = sumL a + sumL b := by
  unfold sumL
  rw [List.map_append, List.sum_append]
theorem sumL_cons (a : Str) (b : List Str) : sumL (a :: b) = a.length + sumL b := rfl
theorem sumL_mem {ws : List Str} {w : Str} (h : w ∈ ws) : w.length ≤ sumL ws := by
  induction ws with
  | nil => cases h
  | cons x xs ih =>
    rw [sumL_cons]
    rcases List.mem_cons.mp h with e | h
    · rw [e]; omega
    · have := ih h; omega
theorem sumL_sub {a b : List Str} (h : a.Sublist b) : sumL a ≤ sumL b := by
  induction h with
  | slnil => exact Nat.le_refl _
  | cons x _ ih => rw [sumL_cons]; omega
  | cons_cons x _ ih => rw [sumL_cons, sumL_cons]; omega
/-! ### joined texts -/
theorem join_cons (y x z : Str) (r : List Str) : Txt.join y (x :: z :: r) = x ++ y ++ Txt.join y (z :: r) := by
  rw [join_eq, join_eq]
  rfl
theorem join_one (y x : Str) : Txt.join y [x] = x := by
  rw [join_eq]
  rfl
theorem str_assoc (a b c : Str) : a ++ b ++ c = a ++ (b ++ c) := ext_tl (by rw [tl_append, tl_append, tl_append, tl_append, List.append_assoc])
theorem join_app (y : Str) : ∀ {a b : List Str}, a ≠ [] → b ≠ [] → Txt.join y (a ++ b) = Txt.join y a ++ y ++ Txt.join y b
  | [], _, h, _ => absurd rfl h
  | [x], [], _, h => absurd rfl h
  | [x], z :: r, _, _ => by
    show Txt.join y (x :: z :: r) = _
    rw [join_cons, join_one]
  | x :: x2 :: r, b, _, hb => by
    show Txt.join y (x :: x2 :: (r ++ b)) = _
    rw [join_cons, join_cons]
    have ih := join_app y (a := x2 :: r) (b := b) (by simp) hb
    rw [show x2 :: (r ++ b) = x2 :: r ++ b from rfl, ih]
    rw [str_assoc, str_assoc, str_assoc, str_assoc, str_assoc]
theorem split_join_sp {ws : List Str} (hne : ws ≠ []) (h : ∀ w ∈ ws, 32 ∉ tl w) : Txt.split (Txt.join " " ws) " " = ws := split_join tl_sp k_sp hne h
/-! ### names -/
def lettersS : Str := "abcdefghijklmnopqrstuvwxyz"
/-- a text of one to six small letters -/
def nameS (w : Str) : Bool := decide (1 ≤ (tl w).length) && decide ((tl w).length ≤ 6) && (tl w).all fun c => decide (97 ≤ c) && decide (c ≤ 122)
theorem name_len {w : Str} (h : nameS w = true) : 1 ≤ w.length ∧ w.length ≤ 6 := by
  unfold nameS at h
  rw [Bool.and_eq_true, Bool.and_eq_true] at h
  rw [len_tl]
  exact ⟨of_decide_eq_true h.1.1, of_decide_eq_true h.1.2⟩
theorem name_mem {w : Str} (h : nameS w = true) {c : Nat} (hc : c ∈ tl w) : 97 ≤ c ∧ c ≤ 122 := by
  unfold nameS at h
  rw [Bool.and_eq_true] at h
  have := List.all_eq_true.mp h.2 c hc
  rw [Bool.and_eq_true] at this
  exact ⟨of_decide_eq_true this.1, of_decide_eq_true this.2⟩
theorem name_not {w : Str} (h : nameS w = true) {c : Nat} (hc : c < 97) : c ∉ tl w := fun z => by
  have := name_mem h z
  omega
theorem letters_has {c : Nat} : lettersS.cps.contains c = (decide (97 ≤ c) && decide (c ≤ 122)) := by
  by_cases h : c < 128
  · have : ∀ c : Fin 128, lettersS.cps.contains c.1 = (decide (97 ≤ c.1) && decide (c.1 ≤ 122)) := by decide +kernel
    exact this ⟨c, h⟩
  · rw [show (decide (97 ≤ c) && decide (c ≤ 122)) = false from by rw [decide_eq_false (p := c ≤ 122) (by omega), Bool.and_false]]
    rw [← Bool.not_eq_true]
    intro k
    have h1 := Array.contains_iff_mem.mp k
    have h2 : ∀ d ∈ lettersS.cps.toList, d < 128 := by decide +kernel
    have := h2 c (by simpa using h1)
    omega
theorem strip_em {w : Str} : Txt.stripChars w lettersS = "" ↔ (tl w).all (fun c => decide (97 ≤ c) && decide (c ≤ 122)) = true := by
  have e := PyProof.Rows.stripBy_eq lettersS.cps.contains true true w
  obtain ⟨l1, l2, l3⟩ := PyProof.Rows.lo_facts lettersS.cps.contains w
  obtain ⟨h1, h2, h3, h4⟩ := PyProof.Rows.hi_facts lettersS.cps.contains w _ l1
  have hs : Txt.stripChars w lettersS = Txt.stripBy lettersS.cps.contains true true w := rfl
  rw [hs, e]
  have hlen := len_tl w
  have each : ∀ i (hi : i < (tl w).length), w.cps.getD i 0 = (tl w)[i] := fun i hi => by
    rw [← PyProof.Rows.getD_list]
    simp [List.getD, List.getElem?_eq_getElem hi]
  constructor
  · intro z
    have z2 : ((tl w).drop (stripLo lettersS.cps.contains true w)).take (stripHi lettersS.cps.contains true w (stripLo lettersS.cps.contains true w) - stripLo lettersS.cps.contains true w) = [] := by
      rw [← tl_strSub, z, tl_em]
    have z3 := congrArg List.length z2
    rw [List.length_take, List.length_drop, List.length_nil] at z3
    rw [List.all_eq_true]
    intro c hc
    obtain ⟨i, hi, hci⟩ := List.getElem_of_mem hc
    rw [← letters_has, ← hci, ← each i hi]
    by_cases hlo : i < stripLo lettersS.cps.contains true w
    · exact l2 i hlo
    · exact h3 i (by omega) (by omega)
  · intro z
    have hall := List.all_eq_true.mp z
    have : stripLo lettersS.cps.contains true w = w.length := by
      rcases l3 with h | h
      · exact h
      · by_cases hq : stripLo lettersS.cps.contains true w < (tl w).length
        · rw [each _ hq, letters_has, hall _ (List.getElem_mem hq)] at h
          cases h
        · omega
    apply ext_tl
    rw [tl_strSub, tl_em, this, List.drop_eq_nil_of_le (by omega), List.take_nil]
theorem low_letters {w : Str} (hne : (tl w) ≠ []) (h : ∀ c ∈ tl w, 97 ≤ c ∧ c ≤ 122) : Txt.islower w = true := by
  have f : ∀ c : Fin 128, (97 ≤ c.1 ∧ c.1 ≤ 122) → Unicode.isLower c.1 = true ∧ (Unicode.isUpper c.1 || Unicode.isTitle c.1) = false := by decide +kernel
  unfold Txt.islower
  rw [Bool.and_eq_true]
  obtain ⟨c, hc⟩ := List.exists_mem_of_ne_nil _ hne
  refine ⟨?_, ?_⟩
  · rw [Array.any_eq_true']
    exact ⟨c, by simpa using hc, (f ⟨c, by have := h c hc; omega⟩ (h c hc)).1⟩
  · rw [Bool.not_eq_true', ← Bool.not_eq_true, Array.any_eq_true']
    rintro ⟨d, hd, hu⟩
    have hd' : d ∈ tl w := by simpa using hd
    rw [(f ⟨d, by have := h d hd'; omega⟩ (h d hd')).2] at hu
    cases hu
/-- the law's own test -/
theorem law_name (w : Str) : (decide ((0 : Int) < (w.length : Int)) && decide ((w.length : Int) < 7) && (decide (Txt.stripChars w lettersS = "") && Txt.islower w)) = nameS w := by
  have hl := len_tl w
  by_cases ha : (tl w).all (fun c => decide (97 ≤ c) && decide (c ≤ 122)) = true
  · rw [decide_eq_true (strip_em.mpr ha), Bool.true_and]
    unfold nameS
    rw [ha, Bool.and_true]
    by_cases h1 : 1 ≤ (tl w).length
    · rw [low_letters (by intro z; rw [z] at h1; simp at h1) (fun c hc => by
        have := List.all_eq_true.mp ha c hc
        rw [Bool.and_eq_true] at this
        exact ⟨of_decide_eq_true this.1, of_decide_eq_true this.2⟩), Bool.and_true]
      congr 1
      · exact decide_eq_decide.mpr (by omega)
      · exact decide_eq_decide.mpr (by omega)
    · rw [decide_eq_false (p := (0 : Int) < (w.length : Int)) (by omega), decide_eq_false h1]
      rfl
  · rw [decide_eq_false (p := Txt.stripChars w lettersS = "") fun z => ha (strip_em.mp z)]
    unfold nameS
    rw [Bool.eq_false_iff.mpr ha]
    simp
end Ob
set_option Elab.async false
set_option linter.all false
set_option maxRecDepth 100000
set_option maxHeartbeats 4000000
/-! M90 (plain): two readings of a panel's words, the program's and the law's, are one (k87). -/
namespace Ob
open PySem L2 TL
open PySem.W (Datum Tup DatumOrd)
/-! ### the last one is less -/
def lastLt {α : Type} [DecidableEq α] [DatumOrd α] (xs : List α) (w : α) : Bool := match xs.getLast? with
  | none => true
  | some l => DatumOrd.lt l w
theorem lastLt_nil {α : Type} [DecidableEq α] [DatumOrd α] (w : α) : lastLt [] w = true := rfl
theorem lastLt_snoc {α : Type} [DecidableEq α] [DatumOrd α] (xs : List α) (l w : α) : lastLt (xs ++ [l]) w = DatumOrd.lt l w := by
  unfold lastLt
  rw [List.getLast?_append]
  rfl
/-- xs[-1:] < [w] -/
theorem lastLt_cut {α : Type} [DecidableEq α] [DatumOrd α] (irr : ∀ x : α, DatumOrd.lt x x = false) (xs : List α) (w : α) : DatumOrd.lt (cutA xs (some (-1)) none) [w] = lastLt xs w := by
  rcases List.eq_nil_or_concat xs with e | ⟨ys, l, e⟩
  · rw [e]; rfl
  · rw [e, List.concat_eq_append, lastLt_snoc]
    have h : cutA (ys ++ [l]) (some (-1)) none = [l] := by
      unfold cutA
      have hq : HT.sIx (ys ++ [l]).length 0 (some (-1)) = ys.length := by
        unfold HT.sIx
        simp
        omega
      rw [hq, HT.sIx_none, List.drop_left, List.length_append, Nat.add_sub_cancel_left]
      rfl
    rw [h]
    show (if l = w then PySem.W.listLt [] [] else DatumOrd.lt l w) = _
    by_cases hlw : l = w
    · rw [if_pos hlw, hlw, irr]; rfl
    · rw [if_neg hlw]
theorem listLt_same {α : Type} [DecidableEq α] [DatumOrd α] (irr : ∀ x : α, DatumOrd.lt x x = false) (l w : α) : ∀ xs : List α, PySem.W.listLt (xs ++ [l]) (xs ++ [w]) = DatumOrd.lt l w
  | [] => by
    show (if l = w then PySem.W.listLt [] [] else DatumOrd.lt l w) = _
    by_cases hlw : l = w
    · rw [if_pos hlw, hlw, irr]; rfl
    · rw [if_neg hlw]
  | x :: xs => by
    show (if x = x then PySem.W.listLt (xs ++ [l]) (xs ++ [w]) else _) = _
    rw [if_pos rfl]
    exact listLt_same irr l w xs
/-- xs < xs[:-1] + [w] -/
theorem lastLt_init {α : Type} [DecidableEq α] [DatumOrd α] (irr : ∀ x : α, DatumOrd.lt x x = false) (xs : List α) (w : α) : DatumOrd.lt xs (xs.dropLast ++ [w]) = lastLt xs w := by
  rcases List.eq_nil_or_concat xs with e | ⟨ys, l, e⟩
  · rw [e]; rfl
  · rw [e, List.concat_eq_append, lastLt_snoc, List.dropLast_concat]
    exact listLt_same irr l w ys
/-! ### the program's reading -/
structure RdS where
  sw : List Str
  ex : List (Tup Str)
  pt : Bool
  cl : Bool
def rd0 : RdS := ⟨[], [], false, false⟩
def tkSw (st : RdS) (w : Str) : Bool × RdS :=
  if w = "/" ∧ st.sw ≠ [] then (true, { st with pt := true })
  else if (nameS w && lastLt st.sw w) = true then (true, { st with sw := st.sw ++ [w] }) else (false, st)
def p1 (w : Str) : Str := (Txt.partition w "-").1
def p2 (w : Str) : Str := (Txt.partition w "-").2.2
def tkPr (st : RdS) (w : Str) : Bool × RdS :=
  if w = "-" ∧ st.ex = [] then (true, { st with cl := true })
  else if (p1 w ∈ st.sw ∧ p2 w ∈ st.sw) ∧ ltS (p1 w) (p2 w) = true ∧ lastLt st.ex (Tup.mk [p1 w, p2 w]) = true then (true, { st with ex := st.ex ++ [Tup.mk [p1 w, p2 w]] }) else (false, st)
def tk (st : RdS) (w : Str) : Bool × RdS := if st.cl = true then (false, st) else if st.pt = true then tkPr st w else tkSw st w
def runRd : Nat → RdS → List Str → Sum Nat RdS
  | _, st, [] => .inr st
  | k, st, w :: ws => if (tk st w).1 = true then runRd (k + 1) (tk st w).2 ws else .inl k
def wholeB (st : RdS) : Bool := st.cl || !decide (st.ex = [])
def panIn (ws : List Str) : Sum Nat RdS := match runRd 0 rd0 ws with
  | .inl k => .inl k
  | .inr st => if wholeB st = true then .inr st else .inl ws.length
/-! ### the law's reading -/
def preL : List Str → List Str → List Str
  | acc, [] => acc
  | acc, w :: r => if (nameS w && lastLt acc w) = true then preL (acc ++ [w]) r else acc
def okPr (c : List Str) (ps : List (Tup Str)) (w : Str) : Prop := (∃ a b, Txt.split w "-" = [a, b] ∧ ltS a b = true) ∧ (∀ x ∈ Txt.split w "-", x ∈ c) ∧ lastLt ps (Tup.mk (Txt.split w "-")) = true
noncomputable instance {c : List Str} {ps : List (Tup Str)} {w : Str} : Decidable (okPr c ps w) := Classical.propDecidable _
noncomputable def prsL (c : List Str) : Nat → List (Tup Str) → List Str → Sum Nat (List (Tup Str))
  | _, ps, [] => .inr ps
  | k, ps, w :: r => if okPr c ps w then prsL c (k + 1) (ps ++ [Tup.mk (Txt.split w "-")]) r else .inl k
/-! ### phase one -/
theorem name_sl : nameS "/" = false := by
  unfold nameS
  rw [tl_sl]
  rfl
theorem preL_run : ∀ (r : List Str) (acc : List Str) (k : Nat), ∃ p s, r = p ++ s ∧ preL acc r = acc ++ p ∧ (∀ x ∈ p, nameS x = true) ∧ (∀ w s', s = w :: s' → (nameS w && lastLt (acc ++ p) w) = false) ∧ runRd k ⟨acc, [], false, false⟩ r = runRd (k + p.length) ⟨acc ++ p, [], false, false⟩ s
  | [], acc, k => ⟨[], [], rfl, (by rw [List.append_nil]; rfl), (fun x hx => absurd hx (by simp)), (fun w s' e => by cases e), (by rw [List.append_nil]; rfl)⟩
  | w :: r, acc, k => by
    by_cases h : (nameS w && lastLt acc w) = true
    · obtain ⟨p, s, e, h1, h2, h3, h4⟩ := preL_run r (acc ++ [w]) (k + 1)
      have hn : nameS w = true := (Bool.and_eq_true _ _ ▸ h).1
      refine ⟨w :: p, s, by rw [e]; rfl, ?_, ?_, ?_, ?_⟩
      · show (if (nameS w && lastLt acc w) = true then preL (acc ++ [w]) r else acc) = _
        rw [if_pos h, h1, List.append_assoc]; rfl
      · intro x hx
        rcases List.mem_cons.mp hx with e | hx
        · rw [e]; exact hn
        · exact h2 x hx
      · rw [show acc ++ w :: p = acc ++ [w] ++ p by simp]
        exact h3
      · have hw : w ≠ "/" := fun z => by rw [z, name_sl] at hn; cases hn
        have ht : tk ⟨acc, [], false, false⟩ w = (true, ⟨acc ++ [w], [], false, false⟩) := by
          show tkSw ⟨acc, [], false, false⟩ w = _
          unfold tkSw
          rw [if_neg fun z => hw z.1, if_pos h]
        show (if (tk ⟨acc, [], false, false⟩ w).1 = true then runRd (k + 1) (tk ⟨acc, [], false, false⟩ w).2 r else .inl k) = _
        rw [ht, if_pos rfl, h4, List.length_cons, show acc ++ w :: p = acc ++ [w] ++ p by simp, show k + 1 + p.length = k + (p.length + 1) by omega]
    · refine ⟨[], w :: r, rfl, ?_, fun x hx => absurd hx (by simp), fun w' s' e => ?_, by rw [List.append_nil]; rfl⟩
      · show (if (nameS w && lastLt acc w) = true then preL (acc ++ [w]) r else acc) = _
        rw [if_neg h, List.append_nil]
      · injection e with e1 e2
        rw [← e1, List.append_nil]
        exact Bool.eq_false_iff.mpr h
/-! ### a pair's word -/
theorem cut_at {w : Str} (h : 45 ∈ tl w) : ∃ a b : Str, w = a ++ "-" ++ b ∧ 45 ∉ tl a := by
  obtain ⟨l1, l2, e, h1⟩ := List.eq_append_cons_of_mem h
  refine ⟨⟨l1.toArray⟩, ⟨l2.toArray⟩, ext_tl ?_, by rw [tl_mk]; exact h1⟩
  rw [e, tl_append, tl_append, tl_hy, tl_mk, tl_mk]
  simp
theorem hy_ne : tl ("-" : Str) ≠ [] := by rw [tl_hy]; simp
theorem split_no {w : Str} (h : 45 ∉ tl w) : Txt.split w "-" = [w] := map_tl_inj (by rw [split_tl w hy_ne k_hy, tl_hy, spl_last1 h]; rfl)
theorem split_at {a b : Str} (h : 45 ∉ tl a) : Txt.split (a ++ "-" ++ b) "-" = a :: Txt.split b "-" := map_tl_inj (by
  rw [split_tl _ hy_ne k_hy, List.map_cons, split_tl b hy_ne k_hy, tl_append, tl_append, tl_hy, List.append_assoc, spl_part1 h, List.nil_append])
theorem part_at {a b : Str} (h : 45 ∉ tl a) : p1 (a ++ "-" ++ b) = a ∧ p2 (a ++ "-" ++ b) = b := by
  unfold p1 p2
  rw [partition_app tl_hy h]
  exact ⟨rfl, rfl⟩
theorem part_no {w : Str} (h : 45 ∉ tl w) : p2 w = Str.empty := by
  unfold p2
  rw [partition_none tl_hy h]
theorem name_em : nameS Str.empty = false := by decide +kernel
theorem pair_split {w a b : Str} (h : Txt.split w "-" = [a, b]) : p1 w = a ∧ p2 w = b := by
  by_cases hm : 45 ∈ tl w
  · obtain ⟨x, y, e, hx⟩ := cut_at hm
    rw [e, split_at hx] at h
    injection h with h1 h2
    obtain ⟨q1, q2⟩ := part_at (b := y) hx
    rw [e, q1, q2]
    refine ⟨h1, ?_⟩
    by_cases hy : 45 ∈ tl y
    · obtain ⟨u, v, e2, hu⟩ := cut_at hy
      rw [e2, split_at hu] at h2
      injection h2 with _ h3
      exact absurd h3 (split_sum v hy_ne k_hy).2.2
    · rw [split_no hy] at h2
      injection h2
  · rw [split_no hm] at h
    cases h
theorem pair_part {c : List Str} (hc : ∀ x ∈ c, nameS x = true) {w : Str} (h2 : p2 w ∈ c) : Txt.split w "-" = [p1 w, p2 w] := by
  by_cases hm : 45 ∈ tl w
  · obtain ⟨x, y, e, hx⟩ := cut_at hm
    obtain ⟨q1, q2⟩ := part_at (b := y) hx
    rw [e] at h2 ⊢
    rw [q2] at h2
    rw [q1, q2, split_at hx, split_no (name_not (hc y h2) (by decide))]
  · rw [part_no hm] at h2
    have := hc _ h2
    rw [name_em] at this
    cases this
theorem okPr_iff {c : List Str} (hc : ∀ x ∈ c, nameS x = true) {ps : List (Tup Str)} {w : Str} : okPr c ps w ↔ (p1 w ∈ c ∧ p2 w ∈ c) ∧ ltS (p1 w) (p2 w) = true ∧ lastLt ps (Tup.mk [p1 w, p2 w]) = true := by
  unfold okPr
  constructor
  · rintro ⟨⟨a, b, e, h1⟩, h2, h3⟩
    obtain ⟨q1, q2⟩ := pair_split e
    rw [e] at h2 h3
    rw [q1, q2]
    exact ⟨⟨h2 a (by simp), h2 b (by simp)⟩, h1, h3⟩
  · rintro ⟨⟨h1, h2⟩, h3, h4⟩
    have e := pair_part hc h2
    rw [e]
    refine ⟨⟨_, _, rfl, h3⟩, fun x hx => ?_, h4⟩
    simp only [List.mem_cons, List.not_mem_nil, or_false] at hx
    rcases hx with e | e <;> (rw [e]; assumption)
/-! ### phase two -/
theorem prs_run {c : List Str} (hc : ∀ x ∈ c, nameS x = true) : ∀ (r : List Str) (ps : List (Tup Str)) (k : Nat), (ps = [] → r.head? ≠ some "-") → runRd k ⟨c, ps, true, false⟩ r = match prsL c k ps r with
    | .inl j => .inl j
    | .inr ps' => .inr ⟨c, ps', true, false⟩
  | [], ps, k, _ => rfl
  | w :: r, ps, k, h => by
    have ht : tk ⟨c, ps, true, false⟩ w = tkPr ⟨c, ps, true, false⟩ w := rfl
    have hw : ¬ (w = "-" ∧ (⟨c, ps, true, false⟩ : RdS).ex = []) := fun z => h z.2 (by rw [z.1]; rfl)
    show (if (tk ⟨c, ps, true, false⟩ w).1 = true then runRd (k + 1) (tk ⟨c, ps, true, false⟩ w).2 r else .inl k) = _
    rw [ht]
    unfold tkPr
    rw [if_neg hw]
    by_cases ho : okPr c ps w
    · have ho' := (okPr_iff hc).mp ho
      rw [if_pos ho', if_pos rfl]
      have e := pair_part hc ho'.1.2
      have ih := prs_run hc r (ps ++ [Tup.mk (Txt.split w "-")]) (k + 1) (fun z => by simp at z)
      show runRd (k + 1) ⟨c, ps ++ [Tup.mk [p1 w, p2 w]], true, false⟩ r = _
      rw [← e, ih]
      show _ = match (if okPr c ps w then prsL c (k + 1) (ps ++ [Tup.mk (Txt.split w "-")]) r else Sum.inl k) with
        | .inl j => (Sum.inl j : Sum Nat RdS)
        | .inr ps' => Sum.inr ⟨c, ps', true, false⟩
      rw [if_pos ho]
    · rw [if_neg fun z => ho ((okPr_iff hc).mpr z), if_neg (by simp)]
      show _ = match (if okPr c ps w then prsL c (k + 1) (ps ++ [Tup.mk (Txt.split w "-")]) r else Sum.inl k) with
        | .inl j => (Sum.inl j : Sum Nat RdS)
        | .inr ps' => Sum.inr ⟨c, ps', true, false⟩
      rw [if_neg ho]
/-! ### both -/
def pairsD (sw : List Str) (ex : List (Tup Str)) : PyData := Datum.toD ((Tup.mk sw, Tup.mk ex) : Tup Str × Tup (Tup Str))
/-- what the program's reading comes to -/
def outP (ws : List Str) : PyData := match panIn ws with
  | .inl k => .int (k : Int)
  | .inr st => pairsD st.sw st.ex
/-- what the law's reading comes to -/
noncomputable def outL (ws : List Str) : PyData :=
  let c := preL [] ws
  if c.length = ws.length ∨ c.length = 0 ∨ ws[c.length]? ≠ some "/" then .int (c.length : Int)
  else if (ws.drop (c.length + 1)).take 1 = (["-"] : List Str) then (if ws.length = c.length + 2 then pairsD c [] else .int ((c.length : Int) + 2))
  else match prsL c (c.length + 1) [] (ws.drop (c.length + 1)) with
    | .inl k => .int (k : Int)
    | .inr ps => if ps ≠ [] then pairsD c ps else .int (ws.length : Int)
theorem out_same (ws : List Str) : outP ws = outL ws := by
  obtain ⟨p, s, e, h1, h2, h3, h4⟩ := preL_run ws [] 0
  rw [List.nil_append] at h1 h3 h4
  have hr : runRd 0 rd0 ws = runRd (0 + p.length) ⟨p, [], false, false⟩ s := h4
  rw [Nat.zero_add] at hr
  unfold outP outL panIn
  rw [hr, h1]
  have hlen : ws.length = p.length + s.length := by rw [e, List.length_append]
  cases s with
  | nil =>
    rw [if_pos (.inl (by rw [hlen]; rfl))]
    show (match (if wholeB ⟨p, [], false, false⟩ = true then (Sum.inr ⟨p, [], false, false⟩ : Sum Nat RdS) else .inl ws.length) with
      | .inl k => PyData.int (k : Int)
      | .inr st => pairsD st.sw st.ex) = _
    rw [if_neg (show ¬ wholeB ⟨p, [], false, false⟩ = true from fun z => nomatch z)]
    show PyData.int (ws.length : Int) = _
    rw [hlen]
    rfl
  | cons w s' =>
    have hw := h3 w s' rfl
    have hat : ws[p.length]? = some w := by
      rw [e, List.getElem?_append_right (Nat.le_refl _), Nat.sub_self]
      rfl
    have hdrop : ws.drop (p.length + 1) = s' := by
      rw [e, ← List.drop_drop, List.drop_left]
      rfl
    have hl2 : ws.length = p.length + 1 + s'.length := by rw [hlen, List.length_cons]; omega
    by_cases hc : w = "/" ∧ p ≠ []
    · obtain ⟨rfl, hp⟩ := hc
      have hp0 : p.length ≠ 0 := fun z => hp (List.length_eq_zero_iff.mp z)
      rw [if_neg (fun z => by
        rcases z with z | z | z
        · omega
        · exact hp0 z
        · exact z hat), hdrop]
      have ht : tk ⟨p, [], false, false⟩ "/" = (true, ⟨p, [], true, false⟩) := by
        show tkSw ⟨p, [], false, false⟩ "/" = _
        unfold tkSw
        rw [if_pos ⟨rfl, hp⟩]
      have hr2 : runRd p.length ⟨p, [], false, false⟩ ("/" :: s') = runRd (p.length + 1) ⟨p, [], true, false⟩ s' := by
        show (if (tk ⟨p, [], false, false⟩ "/").1 = true then runRd (p.length + 1) (tk ⟨p, [], false, false⟩ "/").2 s' else .inl p.length) = _
        rw [ht, if_pos rfl]
      rw [hr2]
      by_cases hd : s'.take 1 = (["-"] : List Str)
      · rw [if_pos hd]
        cases s' with
        | nil => cases hd
        | cons x s2 =>
          have hx : x = "-" := by
            have : [x] = (["-"] : List Str) := hd
            injection this
          subst hx
          have ht2 : tk ⟨p, [], true, false⟩ "-" = (true, ⟨p, [], true, true⟩) := by
            show tkPr ⟨p, [], true, false⟩ "-" = _
            unfold tkPr
            rw [if_pos ⟨rfl, rfl⟩]
          have hr3 : runRd (p.length + 1) ⟨p, [], true, false⟩ ("-" :: s2) = runRd (p.length + 2) ⟨p, [], true, true⟩ s2 := by
            show (if (tk ⟨p, [], true, false⟩ "-").1 = true then runRd (p.length + 1 + 1) (tk ⟨p, [], true, false⟩ "-").2 s2 else .inl (p.length + 1)) = _
            rw [ht2, if_pos rfl]
          rw [hr3]
          cases s2 with
          | nil =>
            rw [if_pos (by rw [hl2]; rfl)]
            rfl
          | cons y s3 =>
            rw [if_neg (by rw [hl2]; simp only [List.length_cons]; omega)]
            show PyData.int ((p.length + 2 : Nat) : Int) = _
            congr 1
      · rw [if_neg hd, prs_run h2 s' [] (p.length + 1) (fun _ z => hd (by
          cases s' with
          | nil => cases z
          | cons x s2 =>
            have : x = "-" := Option.some.inj z
            rw [this]
            rfl))]
        cases hq : prsL p (p.length + 1) [] s' with
        | inl j => rfl
        | inr ps =>
          show (match (if wholeB ⟨p, ps, true, false⟩ = true then (Sum.inr ⟨p, ps, true, false⟩ : Sum Nat RdS) else .inl ws.length) with
            | .inl k => PyData.int (k : Int)
            | .inr st => pairsD st.sw st.ex) = if ps ≠ [] then pairsD p ps else .int (ws.length : Int)
          by_cases hps : ps = []
          · rw [if_neg (show ¬ wholeB ⟨p, ps, true, false⟩ = true by rw [hps]; exact fun z => nomatch z), if_neg (fun z => z hps)]
          · rw [if_pos (show wholeB ⟨p, ps, true, false⟩ = true by unfold wholeB; rw [decide_eq_false hps]; rfl), if_pos hps]
    · rw [if_pos (by
        by_cases h0 : p = []
        · exact .inr (.inl (by rw [h0]; rfl))
        · exact .inr (.inr (fun z => hc ⟨by rw [hat] at z; exact Option.some.inj z, h0⟩)))]
      have ht : tk ⟨p, [], false, false⟩ w = (false, ⟨p, [], false, false⟩) := by
        show tkSw ⟨p, [], false, false⟩ w = _
        unfold tkSw
        rw [if_neg hc, if_neg (by rw [hw]; decide)]
      have hr2 : runRd p.length ⟨p, [], false, false⟩ (w :: s') = .inl p.length := by
        show (if (tk ⟨p, [], false, false⟩ w).1 = true then runRd (p.length + 1) (tk ⟨p, [], false, false⟩ w).2 s' else .inl p.length) = _
        rw [ht, if_neg (fun z => nomatch z)]
      rw [hr2]
end Ob
set_option Elab.async false
set_option linter.all false
set_option maxRecDepth 100000
set_option maxHeartbeats 4000000
/-! M91 (plain): the texts of a panel and of names are read back; names in a text (k87). -/
namespace Ob
open PySem L2 TL
open PySem.W (Datum Tup DatumOrd)
/-! ### a list of names -/
def firstBad : Nat → List Str → Option Nat
  | _, [] => none
  | k, w :: r => if nameS w = true then firstBad (k + 1) r else some k
/-- what the names' reading comes to -/
def outN (ws : List Str) : PyData := if ws = (["-"] : List Str) then Datum.toD ([] : List Str) else match firstBad 0 ws with
  | some k => .int (k : Int)
  | none => Datum.toD ws
theorem firstBad_none : ∀ {ws : List Str} {k : Nat}, (∀ w ∈ ws, nameS w = true) → firstBad k ws = none
  | [], _, _ => rfl
  | w :: r, k, h => by
    show (if nameS w = true then firstBad (k + 1) r else some k) = none
    rw [if_pos (h w List.mem_cons_self)]
    exact firstBad_none fun x hx => h x (List.mem_cons_of_mem _ hx)
theorem firstBad_app : ∀ {a : List Str} {k : Nat} {w : Str} {r : List Str}, (∀ x ∈ a, nameS x = true) → nameS w = false → firstBad k (a ++ w :: r) = some (k + a.length)
  | [], k, w, r, _, hw => by
    show (if nameS w = true then firstBad (k + 1) r else some k) = _
    rw [if_neg (by rw [hw]; exact fun z => nomatch z)]
    rfl
  | x :: a, k, w, r, h, hw => by
    show (if nameS x = true then firstBad (k + 1) (a ++ w :: r) else some k) = _
    rw [if_pos (h x List.mem_cons_self), firstBad_app (fun y hy => h y (List.mem_cons_of_mem _ hy)) hw, List.length_cons, show k + 1 + a.length = k + (a.length + 1) by omega]
/-- the law's list of what is wrong -/
def wrongL (k : Int) : List Str → List Int
  | [] => []
  | w :: r => if nameS w = true then wrongL (k + 1) r else k :: wrongL (k + 1) r
theorem wrong_first : ∀ (ws : List Str) (k : Nat), (wrongL (k : Int) ws).head? = (firstBad k ws).map (fun n : Nat => (n : Int))
  | [], _ => rfl
  | w :: r, k => by
    show (if nameS w = true then wrongL ((k : Int) + 1) r else (k : Int) :: wrongL ((k : Int) + 1) r).head? = (if nameS w = true then firstBad (k + 1) r else some k).map (fun n : Nat => (n : Int))
    by_cases hw : nameS w = true
    · rw [if_pos hw, if_pos hw]
      exact wrong_first r (k + 1)
    · rw [if_neg hw, if_neg hw]
      rfl
theorem sp_ne : tl (" " : Str) ≠ [] := by rw [tl_sp]; simp
theorem splits_no {w : Str} (h : 32 ∉ tl w) : Txt.split w " " = [w] := map_tl_inj (by rw [split_tl w sp_ne k_sp, tl_sp, spl_last1 h]; rfl)
theorem split_hy {w : Str} : Txt.split w " " = (["-"] : List Str) ↔ w = "-" := by
  constructor
  · intro h
    by_cases hm : 32 ∈ tl w
    · obtain ⟨l1, l2, e, h1⟩ := List.eq_append_cons_of_mem hm
      have h2 := split_tl w sp_ne k_sp
      rw [h, tl_sp, e, show l1 ++ 32 :: l2 = l1 ++ ([32] ++ l2) from rfl, spl_part1 h1] at h2
      have h3 : [tl ("-" : Str)] = ([] ++ l1) :: spl [32] 0 [] l2 := h2
      injection h3 with _ h4
      exact absurd h4.symm (spl_ne _ _ _ _)
    · rw [splits_no hm] at h
      injection h
  · intro h
    rw [h]
    exact splits_no (by rw [tl_hy]; decide)
/-! ### the texts -/
def pw (e : Str × Str) : Str := e.1 ++ "-" ++ e.2
/-- the text of a list of names -/
def pageN (xs : List Str) : Str := if xs ≠ [] then Txt.join " " xs else "-"
def wordsN (xs : List Str) : List Str := if xs = [] then ["-"] else xs
def wordsP (p : Pan) : List Str := p.sw ++ (("/" : Str) :: wordsN (p.ex.map pw))
def pageP (p : Pan) : Str := Txt.join " " p.sw ++ " / " ++ pageN (p.ex.map pw)
theorem wordsN_ne (xs : List Str) : wordsN xs ≠ [] := by
  unfold wordsN
  split
  · simp
  · assumption
theorem pageN_join (xs : List Str) : pageN xs = Txt.join " " (wordsN xs) := by
  unfold pageN wordsN
  by_cases h : xs = []
  · rw [if_neg (fun z => z h), if_pos h, join_one]
  · rw [if_pos h, if_neg h]
theorem ssl_eq : (" / " : Str) = " " ++ "/" ++ " " := ext_tl (by rw [tl_append, tl_append, tl_sp, tl_sl, tl_ssl]; rfl)
theorem pageP_join {p : Pan} (h : p.sw ≠ []) : pageP p = Txt.join " " (wordsP p) := by
  unfold pageP wordsP
  rw [join_app " " h (by simp), pageN_join]
  have hne := wordsN_ne (p.ex.map pw)
  cases hw : wordsN (p.ex.map pw) with
  | nil => exact absurd hw hne
  | cons x r => rw [join_cons, ssl_eq]; simp only [str_assoc]
theorem join_three (a b c : Str) : Txt.join " " [a, b, c] = a ++ " " ++ (b ++ " " ++ c) := by rw [join_cons, join_cons, join_one]
theorem pageP_three (p : Pan) : Txt.join " " [Txt.join " " p.sw, "/", pageN (p.ex.map pw)] = pageP p := by
  unfold pageP
  rw [join_three, ssl_eq]
  simp only [str_assoc]
theorem join_two (a b : Str) : Txt.join "-" [a, b] = pw (a, b) := by
  rw [join_cons, join_one]
  rfl
theorem wordN_free {xs : List Str} (h : ∀ w ∈ xs, 32 ∉ tl w) : ∀ w ∈ wordsN xs, 32 ∉ tl w := fun w hw => by
  unfold wordsN at hw
  split at hw
  · rw [List.mem_singleton.mp hw, tl_hy]
    decide
  · exact h w hw
theorem pw_free {a b : Str} (ha : nameS a = true) (hb : nameS b = true) : 32 ∉ tl (pw (a, b)) := fun z => by
  have z' : 32 ∈ tl (a ++ "-" ++ b) := z
  rw [tl_append, tl_append, tl_hy, List.mem_append, List.mem_append] at z'
  rcases z' with (z' | z') | z'
  · exact name_not ha (by decide) z'
  · simp at z'
  · exact name_not hb (by decide) z'
theorem split_pageN {xs : List Str} (h : ∀ w ∈ xs, 32 ∉ tl w) : Txt.split (pageN xs) " " = wordsN xs := by
  rw [pageN_join]
  exact split_join_sp (wordsN_ne xs) (wordN_free h)
theorem split_pageP {p : Pan} (hne : p.sw ≠ []) (h : ∀ x ∈ p.sw, nameS x = true) (hx : ∀ e ∈ p.ex, e.1 ∈ p.sw ∧ e.2 ∈ p.sw) : Txt.split (pageP p) " " = wordsP p := by
  rw [pageP_join hne]
  refine split_join_sp (by unfold wordsP; simp) fun w hw => ?_
  unfold wordsP at hw
  rcases List.mem_append.mp hw with hw | hw
  · exact name_not (h w hw) (by decide)
  · rcases List.mem_cons.mp hw with e | hw
    · rw [e, tl_sl]
      decide
    · refine wordN_free (fun v hv => ?_) w hw
      obtain ⟨e, he, rfl⟩ := List.mem_map.mp hv
      exact pw_free (h _ (hx e he).1) (h _ (hx e he).2)
/-! ### read back -/
theorem names_back {xs : List Str} (h : ∀ x ∈ xs, nameS x = true) : outN (Txt.split (pageN xs) " ") = Datum.toD xs := by
  rw [split_pageN fun w hw => name_not (h w hw) (by decide)]
  unfold outN wordsN
  by_cases hx : xs = []
  · rw [if_pos hx, if_pos rfl, hx]
  · rw [if_neg hx, if_neg (fun z => by
      have := h "-" (by rw [z]; exact List.mem_singleton.mpr rfl)
      exact name_not this (by decide : 45 < 97) (by rw [tl_hy]; simp)), firstBad_none h]
theorem ltS_data (a b : Str) : DatumOrd.lt a b = ltS a b := rfl
theorem run_names : ∀ (r acc : List Str) (k : Nat) (s : List Str), Asc (acc ++ r) → (∀ x ∈ r, nameS x = true) → runRd k ⟨acc, [], false, false⟩ (r ++ s) = runRd (k + r.length) ⟨acc ++ r, [], false, false⟩ s
  | [], acc, k, s, _, _ => by rw [List.append_nil]; rfl
  | w :: r, acc, k, s, ha, hn => by
    have hw := hn w List.mem_cons_self
    have hsl : w ≠ "/" := fun z => by rw [z, name_sl] at hw; cases hw
    have hl : lastLt acc w = true := by
      rcases List.eq_nil_or_concat acc with e | ⟨ys, l, e⟩
      · rw [e]; rfl
      · rw [e, List.concat_eq_append, lastLt_snoc, ltS_data]
        rw [e, List.concat_eq_append] at ha
        exact (List.pairwise_append.mp ha).2.2 l (by simp) w List.mem_cons_self
    have ht : tk ⟨acc, [], false, false⟩ w = (true, ⟨acc ++ [w], [], false, false⟩) := by
      show tkSw ⟨acc, [], false, false⟩ w = _
      unfold tkSw
      rw [if_neg fun z => hsl z.1, if_pos (by rw [hw]; exact hl)]
    show (if (tk ⟨acc, [], false, false⟩ w).1 = true then runRd (k + 1) (tk ⟨acc, [], false, false⟩ w).2 (r ++ s) else .inl k) = _
    rw [ht, if_pos rfl, run_names r (acc ++ [w]) (k + 1) s (by rw [List.append_assoc]; exact ha) (fun x hx => hn x (List.mem_cons_of_mem _ hx)), List.append_assoc, List.length_cons, show k + 1 + r.length = k + (r.length + 1) by omega]
    rfl
def tpP (e : Str × Str) : Tup Str := Tup.mk [e.1, e.2]
theorem lt_tpP (e f : SS) : DatumOrd.lt (tpP e) (tpP f) = ltP e f := by
  show (if e.1 = f.1 then (if e.2 = f.2 then false else ltS e.2 f.2) else ltS e.1 f.1) = _
  unfold ltP
  by_cases h : e.1 = f.1
  · rw [if_pos h, if_pos h]
    by_cases h2 : e.2 = f.2
    · rw [if_pos h2, h2, ltS_irr]
    · rw [if_neg h2]
  · rw [if_neg h, if_neg h]
theorem run_pairs {c : List Str} (hc : ∀ x ∈ c, nameS x = true) : ∀ (r qs : List SS) (k : Nat), (qs ++ r).Pairwise (fun x y => ltP x y = true) → (∀ e ∈ r, (e.1 ∈ c ∧ e.2 ∈ c) ∧ ltS e.1 e.2 = true) → runRd k ⟨c, qs.map tpP, true, false⟩ (r.map pw) = .inr ⟨c, (qs ++ r).map tpP, true, false⟩
  | [], qs, k, _, _ => by rw [List.append_nil]; rfl
  | e :: r, qs, k, hp, he => by
    obtain ⟨⟨h1, h2⟩, h3⟩ := he e List.mem_cons_self
    have h45 : 45 ∉ tl e.1 := name_not (hc _ h1) (by decide)
    obtain ⟨q1, q2⟩ := part_at (b := e.2) h45
    have hw : pw e ≠ "-" := fun z => by
      have z1 := congrArg (fun x => (tl x).length) z
      have z2 : (tl (e.1 ++ "-" ++ e.2)).length = (tl ("-" : Str)).length := z1
      rw [tl_append, tl_append, tl_hy, List.length_append, List.length_append] at z2
      have := (name_len (hc _ h1)).1
      rw [len_tl] at this
      simp only [List.length_cons, List.length_nil] at z2
      omega
    have hl : lastLt (qs.map tpP) (tpP e) = true := by
      rcases List.eq_nil_or_concat qs with e2 | ⟨ys, l, e2⟩
      · rw [e2]; rfl
      · rw [e2, List.concat_eq_append, List.map_append, List.map_singleton, lastLt_snoc, lt_tpP]
        rw [e2, List.concat_eq_append] at hp
        exact (List.pairwise_append.mp hp).2.2 l (by simp) e List.mem_cons_self
    have ht : tk ⟨c, qs.map tpP, true, false⟩ (pw e) = (true, ⟨c, qs.map tpP ++ [tpP e], true, false⟩) := by
      show tkPr ⟨c, qs.map tpP, true, false⟩ (pw e) = _
      unfold tkPr
      rw [if_neg fun z => hw z.1, show p1 (pw e) = e.1 from q1, show p2 (pw e) = e.2 from q2, if_pos ⟨⟨h1, h2⟩, h3, hl⟩]
      rfl
    show (if (tk ⟨c, qs.map tpP, true, false⟩ (pw e)).1 = true then runRd (k + 1) (tk ⟨c, qs.map tpP, true, false⟩ (pw e)).2 (r.map pw) else .inl k) = _
    rw [ht, if_pos rfl]
    have ih := run_pairs hc r (qs ++ [e]) (k + 1) (by rw [List.append_assoc]; exact hp) (fun f hf => he f (List.mem_cons_of_mem _ hf))
    rw [List.map_append, List.append_assoc] at ih
    exact ih
theorem panel_back {p : Pan} (hne : p.sw ≠ []) (ha : Asc p.sw) (h : ∀ x ∈ p.sw, nameS x = true) (hx : ∀ e ∈ p.ex, (e.1 ∈ p.sw ∧ e.2 ∈ p.sw) ∧ ltS e.1 e.2 = true) (hs : sortD p.ex = p.ex) (nd : p.ex.Nodup) :
    panIn (Txt.split (pageP p) " ") = .inr ⟨p.sw, p.ex.map tpP, true, decide (p.ex = [])⟩ ∧ outP (Txt.split (pageP p) " ") = Datum.toD p.t := by
  have h1 : panIn (Txt.split (pageP p) " ") = .inr ⟨p.sw, p.ex.map tpP, true, decide (p.ex = [])⟩ := by
    rw [split_pageP hne h fun e he => (hx e he).1]
    unfold panIn wordsP
    have e1 : runRd 0 rd0 (p.sw ++ (("/" : Str) :: wordsN (p.ex.map pw))) = runRd (0 + p.sw.length) ⟨[] ++ p.sw, [], false, false⟩ (("/" : Str) :: wordsN (p.ex.map pw)) := run_names p.sw [] 0 _ ha h
    rw [e1, List.nil_append]
    have ht : tk ⟨p.sw, [], false, false⟩ "/" = (true, ⟨p.sw, [], true, false⟩) := by
      show tkSw ⟨p.sw, [], false, false⟩ "/" = _
      unfold tkSw
      rw [if_pos ⟨rfl, hne⟩]
    have e2 : runRd (0 + p.sw.length) ⟨p.sw, [], false, false⟩ (("/" : Str) :: wordsN (p.ex.map pw)) = runRd (0 + p.sw.length + 1) ⟨p.sw, [], true, false⟩ (wordsN (p.ex.map pw)) := by
      show (if (tk ⟨p.sw, [], false, false⟩ "/").1 = true then runRd (0 + p.sw.length + 1) (tk ⟨p.sw, [], false, false⟩ "/").2 (wordsN (p.ex.map pw)) else .inl _) = _
      rw [ht, if_pos rfl]
    rw [e2]
    by_cases hex : p.ex = []
    · rw [hex]
      have ht2 : tk ⟨p.sw, [], true, false⟩ "-" = (true, ⟨p.sw, [], true, true⟩) := by
        show tkPr ⟨p.sw, [], true, false⟩ "-" = _
        unfold tkPr
        rw [if_pos ⟨rfl, rfl⟩]
      have e3 : runRd (0 + p.sw.length + 1) ⟨p.sw, [], true, false⟩ (wordsN (([] : List (Str × Str)).map pw)) = .inr ⟨p.sw, [], true, true⟩ := by
        show (if (tk ⟨p.sw, [], true, false⟩ "-").1 = true then runRd (0 + p.sw.length + 1 + 1) (tk ⟨p.sw, [], true, false⟩ "-").2 [] else .inl _) = _
        rw [ht2, if_pos rfl]
        rfl
      rw [e3]
      rfl
    · have hne2 : p.ex.map pw ≠ [] := fun z => hex (List.map_eq_nil_iff.mp z)
      have hw : wordsN (p.ex.map pw) = p.ex.map pw := by
        unfold wordsN
        rw [if_neg hne2]
      have hpw : p.ex.Pairwise fun x y => ltP x y = true := by
        have q := sortP_sorted p.ex
        rw [hs] at q
        refine (q.and nd).imp fun {x y} ⟨h1, h2⟩ => ?_
        rcases ltP_tri x y with h | h | h
        · exact h
        · exact absurd h h2
        · have h1' : (!ltP y x) = true := h1
          rw [h] at h1'
          cases h1'
      have e3 := run_pairs h p.ex [] (0 + p.sw.length + 1) hpw hx
      rw [hw]
      have e4 : runRd (0 + p.sw.length + 1) ⟨p.sw, [], true, false⟩ (p.ex.map pw) = .inr ⟨p.sw, p.ex.map tpP, true, false⟩ := e3
      rw [e4]
      show (if wholeB ⟨p.sw, p.ex.map tpP, true, false⟩ = true then (Sum.inr ⟨p.sw, p.ex.map tpP, true, false⟩ : Sum Nat RdS) else _) = _
      rw [if_pos (show wholeB ⟨p.sw, p.ex.map tpP, true, false⟩ = true by
        unfold wholeB
        rw [decide_eq_false fun z => hex (List.map_eq_nil_iff.mp z)]
        rfl), decide_eq_false hex]
  refine ⟨h1, ?_⟩
  unfold outP
  rw [h1]
  show PyData.tuple [Datum.toD (Tup.mk p.sw), .tuple ((p.ex.map tpP).map Datum.toD)] = PyData.tuple [Datum.toD (Tup.mk p.sw), .tuple (p.ex.map Datum.toD)]
  rw [List.map_map]
  rfl
/-! ### sizes -/
theorem pw_len {a b : Str} (ha : nameS a = true) (hb : nameS b = true) : (pw (a, b)).length ≤ 13 := by
  have e : (tl (a ++ "-" ++ b)).length = (tl a).length + 1 + (tl b).length := by
    rw [tl_append, tl_append, tl_hy, List.length_append, List.length_append]
    rfl
  have h1 := (name_len ha).2
  have h2 := (name_len hb).2
  rw [len_tl] at h1 h2 ⊢
  show (tl (a ++ "-" ++ b)).length ≤ 13
  omega
theorem sumL_le {xs : List Str} {n : Nat} (h : ∀ x ∈ xs, x.length ≤ n) : sumL xs ≤ n * xs.length := by
  induction xs with
  | nil => exact Nat.zero_le _
  | cons x xs ih =>
    rw [sumL_cons, List.length_cons, Nat.mul_succ]
    have h1 := h x List.mem_cons_self
    have h2 := ih fun y hy => h y (List.mem_cons_of_mem _ hy)
    omega
theorem len_one : (" " : Str).length = 1 := by rw [len_tl, tl_sp]; rfl
theorem pageN_len {xs : List Str} {n : Nat} (hn : 1 ≤ n) (h : ∀ x ∈ xs, x.length ≤ n) : (pageN xs).length ≤ (n + 1) * xs.length + 1 := by
  unfold pageN
  split
  · have h1 := join_len " " xs
    have h2 := sumL_le h
    rw [len_one, Nat.mul_one] at h1
    rw [Nat.succ_mul]
    omega
  · rw [len_tl, tl_hy]
    simp
theorem pageP_len {p : Pan} (h : ∀ x ∈ p.sw, nameS x = true) (hx : ∀ e ∈ p.ex, e.1 ∈ p.sw ∧ e.2 ∈ p.sw) : (pageP p).length ≤ 7 * p.sw.length + 14 * p.ex.length + 4 := by
  have h1 := join_len " " p.sw
  have h2 := sumL_le fun x hx => (name_len (h x hx)).2
  have h3 := pageN_len (xs := p.ex.map pw) (n := 13) (by decide) fun x hx' => by
    obtain ⟨e, he, rfl⟩ := List.mem_map.mp hx'
    exact pw_len (h _ (hx e he).1) (h _ (hx e he).2)
  rw [List.length_map] at h3
  rw [len_one, Nat.mul_one] at h1
  have e : (pageP p).length = (Txt.join " " p.sw).length + 3 + (pageN (p.ex.map pw)).length := by
    unfold pageP
    rw [len_tl, tl_append, tl_append, tl_ssl, List.length_append, List.length_append, ← len_tl, ← len_tl]
    rfl
  omega
end Ob
set_option Elab.async false
set_option linter.all false
set_option maxRecDepth 100000
set_option maxHeartbeats 4000000
/-! Tx: texts walked sign by sign, one in another, list(text); two comparisons in a chain. -/
namespace L2
open PySem PySem.Spec PyProof.Rows
def charsS (s : Str) : List Str := s.cps.toList.map fun c => ⟨#[c]⟩
/-- list(x), x a text -/
def rListTx : List V → Hp → VK → Prop := fun xs H Q => ∃ x : Str, xs = [.str x] ∧ x.length ≤ sizeLine ∧ ∀ l, H l = none → Q (.ref l) (upd H l (.lst ((charsS x).map V.str)))
section
variable {X : Cx}
theorem chars_vals {x : Str} {acc : Array Value} (h : PySem.ItemsOf (PySem.SignAt x) acc x.cps.size) : Vals ((charsS x).map V.str) acc.toList := by
  have key : ∀ (cs : List Nat) (vs : List Value), cs.length = vs.length → (∀ (j : Nat) (v : Value), vs[j]? = some v → ∃ c u, cs[j]? = some c ∧ v = .str ⟨#[c]⟩ u) → Vals ((cs.map fun c => (⟨#[c]⟩ : Str)).map V.str) vs := by
    intro cs
    induction cs with
    | nil =>
      intro vs hl _
      cases vs with
      | nil => exact .nil
      | cons => simp at hl
    | cons c cs ih =>
      intro vs hl hv
      cases vs with
      | nil => simp at hl
      | cons v vs =>
        obtain ⟨c', u, h1, h2⟩ := hv 0 v rfl
        have e : c = c' := by simpa using h1
        refine .cons ⟨u, by rw [h2, e]⟩ (ih vs (by simpa using hl) fun j w hw => ?_)
        obtain ⟨c2, u2, h3, h4⟩ := hv (j + 1) w (by simpa using hw)
        exact ⟨c2, u2, by simpa using h3, h4⟩
  refine key x.cps.toList acc.toList (by simp [h.1]) fun j v hj => ?_
  obtain ⟨c, u, hc, hv⟩ := h.2 j v (by simpa using hj)
  exact ⟨c, u, by simpa using hc, hv⟩
theorem call_listTx (hc : X.calm = true) : CallR X (.type "list") rListTx := by
  intro pins s σ H xs us Q I r h
  obtain ⟨x, rfl, hz, q⟩ := h
  obtain ⟨u, rfl, t, rfl⟩ := vals1 r
  refine PySem.call_list_str (I.ok.hd hc) x t (fun h' tk acc c kp hS hA => ?_) hz
  exact ⟨.ref s.heap.objs.size, _, I.laid (t' := tk) (o := .lst ((charsS x).map V.str)) kp (Nat.le_refl _) (show ObjOk X.prog X.w _ h' _ (.lst ((charsS x).map V.str)) from ⟨by rw [List.length_map]; unfold charsS; rw [List.length_map, Array.length_toList]; exact hz, acc.toList, c, chars_vals hA, by simpa using hS⟩), rfl, q _ (I.hok.fresh (Nat.le_refl _))⟩
end
end L2
namespace Ob
open PySem L2
open Evl (Ex)
open PySem.W (Datum Tup DatumOrd)
section
variable {K : PySem.W.Frag} {σ : L2.St} {B H : Hp} {te ta tb tc : TE}
theorem it_str {s : Str} (h : Pe K te σ B s) : ItD K (iStr te) σ B (charsS s) := fun H e R q => h H e _ fun v B1 H1 u hv => by
  cases at_str.mp hv
  have hl : (charsS s).length = s.cps.size := by unfold charsS; rw [List.length_map, Array.length_toList]
  refine ⟨s, rfl, q (Its s) B1 H1 (fun _ => True) (fun i H x H' => H' = H ∧ ∃ c, s.cps[i]? = some c ∧ x = .str ⟨#[c]⟩) u ⟨fun i H hi _ => ?_, fun H _ => ?_, fun i H x H' _ _ hy => hy⟩ (fun _ _ => trivial) fun i x Hx H' hi ex y => ?_⟩
  · show i < s.cps.size
    omega
  · show s.cps.size ≤ (charsS s).length
    omega
  · obtain ⟨e1, c, hc, e2⟩ := y
    refine ⟨⟨#[c]⟩, ?_, fun B' b1 b2 => ⟨B', by rw [e1]; exact Up.refl b2, at_str.mpr e2⟩⟩
    unfold charsS
    rw [List.getElem?_map, Array.getElem?_toList, hc]
    rfl
/-- x in y, two texts -/
def inS (x y : Str) : Bool := !(Builtin.Str.occurrences y x 0 y.length 1).isEmpty
theorem e_inSt {x y : Str} (ha : Pe K ta σ B x) (hb : Pe K tb σ B y) : Pe K (tOp (rInU K false) ta tb) σ B (inS x y) :=
  e_op ha hb (rd_val (.bl _) (fun _ => at_bl.mpr rfl) fun B H v w e h1 h2 Q q => .inr (.inr ⟨x, y, at_str.mp h1, at_str.mp h2, q⟩))
theorem e_lenS {s : Str} (h : Pe K te σ B s) (hz : s.length ≤ 1000000) : Pe K (tCB (rLenU K) (tCons te tNil)) σ B (s.length : Int) := fun H e Q q => h H e _ fun v B1 H1 u hv => by
  cases at_str.mp hv
  exact .inl ⟨.str s, s.length, rfl, ⟨by rw [sizeLine_eq]; omega, rfl⟩, q _ B1 H1 u (at_int.mpr rfl)⟩
theorem e_chain {α β γ : Type} [Rep α] [Rep β] [Rep γ] {r r' : R2} {x : α} {y : β} {z : γ} {b1 b2 : Bool} (ha : Pe K ta σ B x) (hb : Pe K tb σ B y) (hc : Pe K tc σ B z) (h1 : RD K r x y b1) (h2 : RD K r' y z b2) : Pe K (tChain r r' ta tb tc) σ B (b1 && b2) := fun H e Q q =>
  ha.both hb e fun v w B1 H1 u hv hw => h1 B1 H1 v w u.bh hv hw _ fun k B2 H2 u2 hk => ⟨b1, at_bl.mp hk, by
    cases b1 with
    | false => exact q _ B2 H2 (u.trans u2) (at_bl.mpr rfl)
    | true =>
      rw [if_pos rfl]
      exact (hc.mono (u.bb.trans u2.bb)) H2 u2.bh _ fun z' B3 H3 u3 hz => h2 B3 H3 w z' u3.bh (Rep.mono (u2.bb.trans u3.bb) hw) hz Q fun k2 B4 H4 u4 hk2 => q k2 B4 H4 (((u.trans u2).trans u3).trans u4) hk2⟩
theorem rd_le {α : Type} [DecidableEq α] [DatumOrd α] {x y : α} (hz : Datum.depth α ≤ 64 := by decide) : RD K (rLeU K) x y (!DatumOrd.lt y x) :=
  rd_val (.bl _) (fun _ => at_bl.mpr rfl) fun B H v w e h1 h2 Q q => ⟨α, inferInstance, inferInstance, x, y, dp_mono e _ _ h1, dp_mono e _ _ h2, hz, q⟩
theorem rd_lt {α : Type} [DecidableEq α] [DatumOrd α] {x y : α} (hz : Datum.depth α ≤ 64 := by decide) : RD K (rLtU K) x y (DatumOrd.lt x y) :=
  rd_val (.bl _) (fun _ => at_bl.mpr rfl) fun B H v w e h1 h2 Q q => ⟨α, inferInstance, inferInstance, x, y, dp_mono e _ _ h1, dp_mono e _ _ h2, hz, q⟩
theorem e_listTx {s : Str} (h : Pe K te σ B s) (hz : s.length ≤ 1000000) : Pe K (tCB rListTx (tCons te tNil)) σ B (charsS s) := fun H e Q q => h H e _ fun v B1 H1 u hv => by
  cases at_str.mp hv
  exact ⟨s, rfl, by rw [sizeLine_eq]; omega, fun p hp => q _ _ _ (u.then hp) (at_list.mpr ⟨p, _, rfl, Evl.sq_of upd_same, strs_atAll _⟩)⟩
end
end Ob
set_option Elab.async false
set_option linter.all false
set_option maxRecDepth 100000
set_option maxHeartbeats 4000000
/-! W0a: a comprehension's list is nobody else's. -/
namespace Ob
open PySem L2
open Evl (Ex)
open PySem.W (Datum Tup DatumOrd)
section
variable {K : PySem.W.Frag} {H B B' : Hp} {v : V} {σ : L2.St} {te ta tb tc tk tv : TE} {tt tt1 tu : TT} {vs : List V} {Q : VK} {E : XK}
section
variable {α δ : Type} [Rep α] [Rep δ]
def FnF1 (K : PySem.W.Frag) (pre : α → Prop) (g : α → List δ) : Sp := fun vs H Q _ => ∃ x B, Ex B H ∧ RCons K x RNil vs B ∧ pre x ∧ ∀ l us B2 H2, Up B H B2 H2 → B2 l = none → H l = none → H2 l = some (.lst us) → AtAll K B2 us (g x) → Q (.ref l) H2
theorem FnF1.len {pre : α → Prop} {g : α → List δ} (vs : List V) (H : Hp) (Q : VK) (E : XK) (h : FnF1 K pre g vs H Q E) : vs.length = 1 := by
  obtain ⟨x, B, e, ⟨v, r, rfl, h1, rfl⟩, _⟩ := h
  rfl
theorem FnF1.st {pre : α → Prop} {g : α → List δ} (h : FnF1 K pre g vs H Q E) (N : List Str) : ∃ x B, pre x ∧ St K [] B H [] ([ce x] ++ List.replicate (N.length - 1) none) (start N vs) B H ∧ ∀ l us B2 H2, Up B H B2 H2 → B2 l = none → H l = none → H2 l = some (.lst us) → AtAll K B2 us (g x) → Q (.ref l) H2 := by
  obtain ⟨x, B, e, ⟨v, _, rfl, h1, rfl⟩, hp, q⟩ := h
  exact ⟨x, B, hp, St.pure e (start_slots [v] [ce x] _ (.cons (At1.some h1) .nil)), q⟩
theorem eF_call1 {pre : α → Prop} {g : α → List δ} {x : α} (h1 : Pe K ta σ B x) (hp : pre x) : PeF K (tCall (FnF1 K pre g) [] E (tCons ta tNil)) σ B (g x) := fun H e Q q => a_1 h1 H e _ fun vs B1 H1 u hv => by
  rw [List.append_nil]
  exact ⟨x, B1, u.bh, hv, hp, fun l us B2 H2 u2 hb hh hl hA => q l us B2 H2 (u.trans u2) hb (by
    cases w : H l with
    | none => rfl
    | some o => rw [u.hh l o w] at hh; cases hh) hl hA⟩
theorem eF_kw1 {pre : α → Prop} {g : α → List δ} {x : α} (h1 : Pe K ta σ B x) (hp : pre x) : PeF K (tCallN 0 1 (FnF1 K pre g) (fun _ zs => permL [0] zs) E tNil (tCons ta tNil)) σ B (g x) := fun H e Q q => by
  show tCons ta tNil σ H (fun zs H2 => ([] : List V).length = 0 ∧ zs.length = 1 ∧ FnF1 K pre g (permL [0] zs) H2 Q E)
  refine a_1 h1 H e _ fun vs B1 H1 u hv => ?_
  obtain ⟨v, _, rfl, h1, rfl⟩ := hv
  exact ⟨rfl, rfl, x, B1, u.bh, ⟨v, _, rfl, h1, rfl⟩, hp, fun l us B2 H2 u2 hb hh hl hA => q l us B2 H2 (u.trans u2) hb (by
    cases w : H l with
    | none => rfl
    | some o => rw [u.hh l o w] at hh; cases hh) hl hA⟩
end
end
end Ob
set_option Elab.async false
set_option linter.all false
set_option maxRecDepth 100000
set_option maxHeartbeats 4000000
/-! Dk: the depth of data; a panel as lists is that panel. -/
namespace Ob
open PySem L2
open Evl (Ex)
open PySem.W (Datum Tup DatumOrd)
theorem dkSs {n : Nat} {xs : List Str} (h : xs.length ≤ 1000000) : DOk (n + 1) (.list (xs.map .str)) :=
  ⟨by rw [List.length_map]; exact h, fun d hd => by
    obtain ⟨x, _, rfl⟩ := List.mem_map.mp hd
    cases n <;> trivial⟩
theorem dkP {p : Pan} (h1 : p.sw.length ≤ 1000000) (h2 : p.ex.length ≤ 1000000) : DOk 5 (Datum.toD p.t) := by
  refine ⟨by show 2 ≤ 1000000; decide, fun d hd => ?_⟩
  have hd' : d ∈ [Datum.toD (Tup.mk p.sw), Datum.toD (Tup.mk p.ex)] := hd
  rcases List.mem_cons.mp hd' with rfl | hd'
  · refine ⟨by rw [List.length_map]; exact h1, fun d hd => ?_⟩
    obtain ⟨x, _, rfl⟩ := List.mem_map.mp hd
    trivial
  · rw [List.mem_singleton.mp hd']
    refine ⟨by rw [List.length_map]; exact h2, fun d hd => ?_⟩
    obtain ⟨x, _, rfl⟩ := List.mem_map.mp hd
    refine ⟨by show 2 ≤ 1000000; decide, fun d hd => ?_⟩
    have hd' : d ∈ [PyData.str x.1, PyData.str x.2] := hd
    rcases List.mem_cons.mp hd' with rfl | hd'
    · trivial
    · rw [List.mem_singleton.mp hd']
      trivial
theorem dkT {n : Nat} {xs : List Str} (h : xs.length ≤ 1000000) : DOk (n + 1) (.tuple (xs.map .str)) :=
  ⟨by rw [List.length_map]; exact h, fun d hd => by
    obtain ⟨x, _, rfl⟩ := List.mem_map.mp hd
    cases n <;> trivial⟩
theorem dkI {n : Nat} {i : Int} : DOk n (.int i) := by cases n <;> trivial
theorem dkL {n : Nat} {ds : List PyData} (hz : ds.length ≤ 1000000) (h : ∀ d ∈ ds, DOk n d) : DOk (n + 1) (.list ds) := ⟨hz, h⟩
theorem dkL2 {n : Nat} {a b : PyData} (h1 : DOk n a) (h2 : DOk n b) : DOk (n + 1) (.list [a, b]) := dkL (by show 2 ≤ 1000000; decide) fun d hd => by
  rcases List.mem_cons.mp hd with rfl | hd
  · exact h1
  · rw [List.mem_singleton.mp hd]; exact h2
section
variable {K : PySem.W.Frag} {H : Hp} {v : V}
theorem ddPrs : ∀ {vs : List V} {xs : List (Str × Str)}, DqAll K H vs (xs.map fun e => .list [.str e.1, .str e.2]) → AtAll K H vs (prs xs)
  | _, [], h => by cases h; exact .nil
  | _, x :: xs, h => by
    cases h with
    | cons a b =>
      refine .cons ?_ (ddPrs b)
      cases a with
      | lst s d =>
        cases d with
        | cons d1 d =>
          cases d with
          | cons d2 d =>
            cases d
            cases d1
            cases d2
            exact ⟨_, rfl, .inl s⟩
theorem ddP {p : Pan} (h : Rep.at_ K H v (DD.mk (listyN 5 (Datum.toD p.t)))) : Rep.at_ K H v p := by
  have e : listyN 5 (Datum.toD p.t) = .list [.list (p.sw.map .str), .list (p.ex.map fun e => .list [.str e.1, .str e.2])] := by
    show PyData.list [listyN 4 (.tuple (p.sw.map Datum.toD)), listyN 4 (.tuple (p.ex.map Datum.toD))] = _
    have e1 : listyN 4 (.tuple (p.sw.map Datum.toD)) = .list (p.sw.map .str) := by
      show PyData.list ((p.sw.map Datum.toD).map (listyN 3)) = _
      rw [List.map_map]
      rfl
    have e2 : listyN 4 (.tuple (p.ex.map Datum.toD)) = .list (p.ex.map fun e => .list [.str e.1, .str e.2]) := by
      show PyData.list ((p.ex.map Datum.toD).map (listyN 3)) = _
      rw [List.map_map]
      rfl
    rw [e1, e2]
  have h' : Dq K H v (.list [.list (p.sw.map .str), .list (p.ex.map fun e => .list [.str e.1, .str e.2])]) := e ▸ h
  cases h' with
  | lst s d =>
    cases d with
    | cons d1 d =>
      cases d with
      | cons d2 d =>
        cases d
        cases d1 with
        | lst s1 k1 =>
          cases d2 with
          | lst s2 k2 => exact ⟨_, _, _, rfl, .inl s, ⟨_, _, rfl, .inl s1, dd_strs (v := .non) k1⟩, ⟨_, _, rfl, .inl s2, ddPrs k2⟩⟩
end
end Ob
set_option Elab.async false
set_option linter.all false
set_option maxRecDepth 100000
set_option maxHeartbeats 4000000
/-! Cl: own classes: an instance that doesn't change any more is data; an instance while its __init__ runs; fields, methods, making. -/
namespace Ob
open PySem L2
open Evl (Ex)
open PySem.W (Datum Tup DatumOrd)
/-- an own class: its attributes' names -/
structure ClsF (K : PySem.W.Frag) (ns : List Str) where
  C : Addr
  cl : Cls K C
  no : ∀ f ∈ ns, NoAttr K C f
theorem no_nil {K : PySem.W.Frag} {C : Addr} : ∀ f ∈ ([] : List Str), NoAttr K C f := fun _ h => nomatch h
theorem no_cons {K : PySem.W.Frag} {C : Addr} {f : Str} {r : List Str} (h : NoAttr K C f) (t : ∀ g ∈ r, NoAttr K C g) : ∀ g ∈ f :: r, NoAttr K C g := List.forall_mem_cons.mpr ⟨h, t⟩
/-! ### attributes with their types -/
inductive Flds (K : PySem.W.Frag) (B : Hp) : List (Str × V) → List (Str × Cell) → Prop where
  | nil : Flds K B [] []
  | cons {a : Str × V} {b : Str × Cell} {fs : List (Str × V)} {fz : List (Str × Cell)} (h : a.1 = b.1 ∧ @Rep.at_ b.2.α b.2.inst K B a.2 b.2.x) (t : Flds K B fs fz) : Flds K B (a :: fs) (b :: fz)
abbrev fc {α : Type} [r : Rep α] (f : Str) (x : α) : Str × Cell := (f, ⟨α, r, x⟩)
section
variable {K : PySem.W.Frag} {B B' H : Hp} {fs : List (Str × V)} {fz : List (Str × Cell)}
theorem Flds.monoR (e : ExR B B') (h : Flds K B fs fz) : Flds K B' fs fz := by
  induction h with
  | nil => exact .nil
  | @cons a b fs fz q t ih => exact .cons ⟨q.1, @Rep.monoR b.2.α b.2.inst _ _ _ _ _ e q.2⟩ ih
theorem Flds.mono (e : Ex B B') (h : Flds K B fs fz) : Flds K B' fs fz := h.monoR (ExR.of e)
theorem Flds.at_ : ∀ {fs : List (Str × V)} {fz : List (Str × Cell)}, Flds K B fs fz → (fz.map (·.1)).Nodup → ∀ {i : Nat} {f : Str} {d : Cell}, fz[i]? = some (f, d) → ∃ u, fs.lookup f = some u ∧ @Rep.at_ d.α d.inst K B u d.x
  | _, _, .nil, _, _, _, _, h => by simp at h
  | (a, u) :: fs, (b, e) :: fz, .cons ⟨q, r⟩ t, nd, 0, f, d, h => by
    have h' : b = f ∧ e = d := by simpa using h
    obtain ⟨rfl, rfl⟩ := h'
    have q' : a = b := q
    subst q'
    exact ⟨u, by rw [List.lookup_cons, beq_self_eq_true], r⟩
  | (a, u) :: fs, (b, e) :: fz, .cons ⟨q, r⟩ t, nd, i + 1, f, d, h => by
    have q' : a = b := q
    subst q'
    have h' : fz[i]? = some (f, d) := by simpa using h
    rw [List.map_cons, List.nodup_cons] at nd
    obtain ⟨u', h1, h2⟩ := Flds.at_ t nd.2 h'
    have hne : f ≠ a := fun z => nd.1 (z ▸ List.mem_map.mpr ⟨(f, d), List.mem_of_getElem? h', rfl⟩)
    exact ⟨u', by rw [List.lookup_cons, beq_eq_false_iff_ne.mpr hne]; exact h1, h2⟩
theorem Flds.none_ : ∀ {fs : List (Str × V)} {fz : List (Str × Cell)}, Flds K B fs fz → ∀ {f : Str}, f ∉ fz.map (·.1) → fs.lookup f = none
  | _, _, .nil, _, _ => rfl
  | (a, u) :: fs, (b, e) :: fz, .cons ⟨q, r⟩ t, f, h => by
    have q' : a = b := q
    subst q'
    rw [List.map_cons, List.mem_cons, not_or] at h
    rw [List.lookup_cons, beq_eq_false_iff_ne.mpr h.1]
    exact Flds.none_ t h.2
theorem Flds.len (h : Flds K B fs fz) : fs.length = fz.length := by
  induction h with
  | nil => rfl
  | cons q t ih => exact congrArg (· + 1) ih
theorem Flds.snoc : ∀ {fs : List (Str × V)} {fz : List (Str × Cell)}, Flds K B fs fz → ∀ {f : Str} {u : V} {d : Cell}, @Rep.at_ d.α d.inst K B u d.x → Flds K B (fs ++ [(f, u)]) (fz ++ [(f, d)])
  | _, _, .nil, _, _, _, h => .cons ⟨rfl, h⟩ .nil
  | _, _, .cons q t, _, _, _, h => .cons q (Flds.snoc t h)
theorem putF_new {f : Str} {v : V} : ∀ {fs : List (Str × V)}, fs.lookup f = none → putF f v fs = fs ++ [(f, v)]
  | [], _ => rfl
  | (a, u) :: fs, h => by
    have hne : f ≠ a := fun z => by
      subst z
      rw [List.lookup_cons, beq_self_eq_true] at h
      cases h
    rw [List.lookup_cons, beq_eq_false_iff_ne.mpr hne] at h
    show (if a = f then (a, v) :: fs else (a, u) :: putF f v fs) = _
    rw [if_neg (Ne.symm hne), putF_new h]
    rfl
end
/-- an instance, by what its attributes hold -/
structure ObjP where
  C : Addr
  P : PySem.W.Frag → Hp → List (Str × V) → Prop
  mono : ∀ {K : PySem.W.Frag} {H H' : Hp} {fs : List (Str × V)}, ExR H H' → P K H fs → P K H' fs
instance : Rep ObjP := ⟨fun K H v o => ∃ p dx fs, v = .ref p ∧ H p = some (.ins o.C dx fs) ∧ o.P K H fs, fun {K H H' v x} e ⟨p, dx, fs, h1, h2, h3⟩ => ⟨p, dx, fs, h1, e.2.2 _ _ _ _ h2, x.mono e h3⟩⟩
def objF (C : Addr) (fz : List (Str × Cell)) : ObjP := ⟨C, fun K H fs => Flds K H fs fz, fun e h => h.monoR e⟩
/-- an instance that its __init__ fills -/
def insC (K : PySem.W.Frag) (p C dx : Addr) (fz : List (Str × Cell)) : OC := ⟨p, fun B o => ∃ fs, o = .ins C dx fs ∧ Flds K B fs fz, fun e ⟨fs, h1, h2⟩ => ⟨fs, h1, h2.mono e⟩⟩
section
variable {K : PySem.W.Frag} {W0 : List Addr} {B0 H0 : Hp} {os : List OC} {Γ : List (Option Cell)} {σ : L2.St} {B H B1 H1 : Hp} {te ta tb tc td tk tv : TE} {tt : TT} {D : Ends} {tu tw tz : TS} {ns : List Str} {Cw : ClsF K ns} {fz : List (Str × Cell)} {f : Str} {E : XK}
/-- o.f -/
theorem e_fld {α : Type} [r : Rep α] {x : α} (i : Nat) (h : Pe K te σ B (objF Cw.C fz)) (hp : fz.map (·.1) <+: ns) (hn : ns.Nodup) (hi : fz[i]? = some (fc f x)) : Pe K (tFld K te f) σ B x := fun H e Q q => h H e _ fun v B1 H1 u hv => by
  obtain ⟨p, dx, fs, rfl, h2, h3⟩ := hv
  obtain ⟨w, h4, h5⟩ := h3.at_ (hn.sublist hp.sublist) hi
  exact ⟨p, Cw.C, dx, fs, w, rfl, u.bh _ _ h2, Cw.cl, Cw.no f (hp.subset (List.mem_map.mpr ⟨_, List.mem_of_getElem? hi, rfl⟩)), h4, q w B1 H1 u h5⟩
theorem St.ins {k : Nat} {p dx C : Addr} (s : St K W0 B0 H0 os Γ σ B H) (h : os[k]? = some (insC K p C dx fz)) : B p = none ∧ ∃ fs, H p = some (.ins C dx fs) ∧ Flds K B fs fz := by
  obtain ⟨h1, _, x, h3, fs, rfl, h4⟩ := s.own _ (List.mem_of_getElem? h)
  exact ⟨h1, fs, h3, h4⟩
theorem pre_new {ns l : List Str} {f : Str} (h : l ++ [f] <+: ns) (hn : ns.Nodup) : f ∉ l ∧ f ∈ ns := by
  have h1 := hn.sublist h.sublist
  exact ⟨fun z => (List.nodup_append.mp h1).2.2 f z f (by simp) rfl, h.subset (by simp)⟩
/-- self.f = e, a new attribute -/
theorem St.setF {α : Type} [r : Rep α] {x : α} {i k : Nat} {p dx : Addr} (s : St K W0 B0 H0 os Γ σ B H) (h : os[k]? = some (insC K p Cw.C dx fz)) (hi : cg Γ i = ca p) (hp : fz.map (·.1) ++ [f] <+: ns) (hn : ns.Nodup) (hz : fz.length ≤ 100) (he : Pe K te σ B x)
    (q : ∀ B1 H1, St K W0 B0 H0 (os.set k (insC K p Cw.C dx (fz ++ [fc f x]))) Γ σ B1 H1 → D.nx σ H1) : sFld K (tVar i) te f D σ H := he H s.bh _ fun v B1 H1 u hv => by
  obtain ⟨hf, hm⟩ := pre_new hp hn
  have s1 := s.up u
  obtain ⟨hb, fs, h3, h4⟩ := s1.ins h
  refine ⟨.ref p, s1.sl.rf i hi, p, Cw.C, dx, fs, rfl, h3, Cw.cl, Cw.no f hm, by rw [h4.len]; omega, ?_⟩
  rw [putF_new (h4.none_ hf)]
  exact q B1 _ (s1.chg (o' := insC K p Cw.C dx (fz ++ [fc f x])) (ob := .ins Cw.C dx (fs ++ [(f, v)])) h rfl ⟨_, rfl, h4.snoc hv⟩)
theorem St.qsetF {α : Type} [r : Rep α] {x : α} {i k : Nat} {p dx : Addr} (s : St K W0 B0 H0 os Γ σ B H) (h : os[k]? = some (insC K p Cw.C dx fz)) (hi : cg Γ i = ca p) (hp : fz.map (·.1) ++ [f] <+: ns) (hn : ns.Nodup) (hz : fz.length ≤ 100) (he : Pe K te σ B x)
    (q : ∀ B1 H1, St K W0 B0 H0 (os.set k (insC K p Cw.C dx (fz ++ [fc f x]))) Γ σ B1 H1 → tz D σ H1) : tSeq (sFld K (tVar i) te f) tz D σ H := s.setF (D := { D with nx := tz D }) h hi hp hn hz he q
end
/-! ### reading an instance that is being filled -/
section
variable {K : PySem.W.Frag} {H H' : Hp}
mutual
theorem dq_mono0 (e1 : ∀ a u, plainO u = true → Rd H a u → Rd H' a u) (e2 : ∀ a us, H a = some (.tup us) → H' a = some (.tup us)) : ∀ (d : PyData) (v : V), Dq K H v d → Dq K H' v d
  | .none, _, h => by cases h; exact .non
  | .bool _, _, h => by cases h; exact .bl _
  | .int _, _, h => by cases h; exact .int _
  | .str _, _, h => by cases h; exact .str _
  | .list ds, _, h => by
    cases h with
    | lst a b => exact .lst (a.imp (fun h => e1 _ _ rfl h) id) (dqAll_mono0 e1 e2 ds _ b)
  | .tuple ds, _, h => by
    cases h with
    | tup a b => exact .tup (e2 _ _ a) (dqAll_mono0 e1 e2 ds _ b)
  | .dict _, _, h => by cases h
theorem dqAll_mono0 (e1 : ∀ a u, plainO u = true → Rd H a u → Rd H' a u) (e2 : ∀ a us, H a = some (.tup us) → H' a = some (.tup us)) : ∀ (ds : List PyData) (vs : List V), DqAll K H vs ds → DqAll K H' vs ds
  | [], _, h => by cases h; exact .nil
  | d :: ds, _, h => by
    cases h with
    | cons a b => exact .cons (dq_mono0 e1 e2 d _ a) (dqAll_mono0 e1 e2 ds _ b)
end
theorem cut_ins {B : Hp} {p C dx : Addr} {fs : List (Str × V)} (h : B p = some (.ins C dx fs)) : (∀ a u, plainO u = true → Rd B a u → Rd (cutH B p) a u) ∧ ∀ a us, B a = some (.tup us) → cutH B p a = some (.tup us) := by
  refine ⟨fun a u hp hr => ?_, fun a us ha => ?_⟩
  · have ne : a ≠ p := fun z => by
      subst z
      rcases hr with hr | ⟨o, hr⟩
      · rw [h] at hr
        cases hr
        cases hp
      · rw [h] at hr
        cases hr
    rcases hr with hr | ⟨o, hr⟩
    · exact .inl (by rw [cutH_ne ne]; exact hr)
    · exact .inr ⟨o, by rw [cutH_ne ne]; exact hr⟩
  · have ne : a ≠ p := fun z => by
      subst z
      rw [h] at ha
      cases ha
    rw [cutH_ne ne]
    exact ha
end
/-- data in which no instance lies -/
class ThawI (α : Type) [Rep α] : Prop where
  thaw : ∀ {K : PySem.W.Frag} {B : Hp} {p C dx : Addr} {fs : List (Str × V)} {v : V} {x : α}, B p = some (.ins C dx fs) → Rep.at_ K B v x → Rep.at_ K (cutH B p) v x
instance {α : Type} [DecidableEq α] [Datum α] : ThawI α := ⟨fun h hv => dq_mono0 (cut_ins h).1 (cut_ins h).2 _ _ hv⟩
instance {α : Type} [Rep α] [ThawI α] : ThawI (Dic α) := ⟨fun h ⟨a, ks, h1, h2, hz, h3⟩ => ⟨a, ks, h1, (cut_ins h).1 a _ rfl h2, hz, Paired.mapP h3 fun _ _ q => ⟨q.1, ThawI.thaw h q.2⟩⟩⟩
/-! ### __init__ of three, of two, of one parameter beside self -/
section
variable {α β γ : Type} [Rep α] [Rep β] [Rep γ]
def FnI1 (K : PySem.W.Frag) (C : Addr) (pre : α → Prop) (fz : α → List (Str × Cell)) : Sp := fun vs H Q _ => ∃ p dx x B, (∃ r, vs = .ref p :: r ∧ RCons K x RNil r B) ∧ Ex B H ∧ B p = none ∧ H p = some (.ins C dx []) ∧ pre x ∧ ∀ fs B2 H2, Ub p B H B2 H2 → B2 p = none → H2 p = some (.ins C dx fs) → Flds K B2 fs (fz x) → Q .non H2
def FnI2 (K : PySem.W.Frag) (C : Addr) (pre : α → β → Prop) (fz : α → β → List (Str × Cell)) : Sp := fun vs H Q _ => ∃ p dx x y B, (∃ r, vs = .ref p :: r ∧ RCons K x (RCons K y RNil) r B) ∧ Ex B H ∧ B p = none ∧ H p = some (.ins C dx []) ∧ pre x y ∧ ∀ fs B2 H2, Ub p B H B2 H2 → B2 p = none → H2 p = some (.ins C dx fs) → Flds K B2 fs (fz x y) → Q .non H2
def FnI3 (K : PySem.W.Frag) (C : Addr) (pre : α → β → γ → Prop) (fz : α → β → γ → List (Str × Cell)) : Sp := fun vs H Q _ => ∃ p dx x y z B, (∃ r, vs = .ref p :: r ∧ RCons K x (RCons K y (RCons K z RNil)) r B) ∧ Ex B H ∧ B p = none ∧ H p = some (.ins C dx []) ∧ pre x y z ∧ ∀ fs B2 H2, Ub p B H B2 H2 → B2 p = none → H2 p = some (.ins C dx fs) → Flds K B2 fs (fz x y z) → Q .non H2
end
section
variable {K : PySem.W.Frag} {W0 : List Addr} {B0 H0 : Hp} {os : List OC} {Γ : List (Option Cell)} {σ : L2.St} {B H B1 H1 : Hp} {te ta tb tc td tk tv : TE} {C : Addr} {E : XK} {vs : List V} {Q : VK}
variable {α β γ δ : Type} [Rep α] [Rep β] [Rep γ] [Rep δ] {pre1 : α → Prop} {fz1 : α → List (Str × Cell)} {pre2 : α → β → Prop} {fz2 : α → β → List (Str × Cell)} {pre : α → β → γ → Prop} {fz : α → β → γ → List (Str × Cell)}
theorem FnI1.len (vs : List V) (H : Hp) (Q : VK) (E : XK) (h : FnI1 K C pre1 fz1 vs H Q E) : vs.length = 2 := by
  obtain ⟨p, dx, x, B, ⟨r, rfl, v, _, rfl, _, rfl⟩, _⟩ := h
  rfl
theorem FnI2.len (vs : List V) (H : Hp) (Q : VK) (E : XK) (h : FnI2 K C pre2 fz2 vs H Q E) : vs.length = 3 := by
  obtain ⟨p, dx, x, y, B, ⟨r, rfl, v, _, rfl, _, w, _, rfl, _, rfl⟩, _⟩ := h
  rfl
theorem FnI3.len (vs : List V) (H : Hp) (Q : VK) (E : XK) (h : FnI3 K C pre fz vs H Q E) : vs.length = 4 := by
  obtain ⟨p, dx, x, y, z, B, ⟨r, rfl, v, _, rfl, _, w, _, rfl, _, u, _, rfl, _, rfl⟩, _⟩ := h
  rfl
theorem St.startI {p dx : Addr} (e : Ex B H) (hb : B p = none) (hp : H p = some (.ins C dx [])) (s : Slots K B σ Γ) : St K [p] B H [insC K p C dx []] Γ σ B H :=
  ⟨Ex.refl B, e, fun _ _ _ h => h, fun _ h => h, fun _ h => .inl h, fun o ho => by
    rw [List.mem_singleton.mp ho]
    exact ⟨hb, .inl (by simp [insC]), _, hp, [], rfl, .nil⟩, by simp, s⟩
theorem made_ex {p dx : Addr} (e : Ex B1 H1) (hp : H1 p = none) (hdx : H1 dx = none) : Ex B1 (upd (upd H1 dx (.own p)) p (.ins C dx [])) := ex_upd (ex_upd e (Evl.fresh_back e hdx)) (Evl.fresh_back e hp)
end
/-! ### methods -/
end Ob
set_option Elab.async false
set_option linter.all false
set_option maxRecDepth 100000
set_option maxHeartbeats 4000000
/-! Oc: readings that change one known object (a memo) and else allocate only; sums. -/
namespace Ob
open PySem L2
open Evl (Ex)
open PySem.W (Datum Tup DatumOrd)
/-- the object o stands there, not frozen -/
def OAt (o : OC) (B H : Hp) : Prop := B o.l = none ∧ ∃ ob, H o.l = some ob ∧ o.P B ob
section
variable {o : OC} {B H B1 H1 : Hp}
theorem OAt.ne (t : OAt o B H) : H o.l ≠ none := by
  obtain ⟨_, ob, h, _⟩ := t
  rw [h]
  exact fun z => nomatch z
theorem OAt.up (t : OAt o B H) (u : Up B H B1 H1) : OAt o B1 H1 := by
  obtain ⟨h1, ob, h2, h3⟩ := t
  exact ⟨(u.out h1 h2).1, ob, (u.out h1 h2).2, o.mono u.bb h3⟩
theorem OAt.put {a : Addr} {x : HO} (t : OAt o B H) (ne : o.l ≠ a) : OAt o B (upd H a x) := by
  obtain ⟨h1, ob, h2, h3⟩ := t
  exact ⟨h1, ob, by rw [upd_ne ne]; exact h2, h3⟩
theorem OAt.frz {a : Addr} {x : HO} (t : OAt o B H) (ne : o.l ≠ a) (e : Ex B (upd B a x)) : OAt o (upd B a x) H := by
  obtain ⟨h1, ob, h2, h3⟩ := t
  exact ⟨by rw [upd_ne ne]; exact h1, ob, h2, o.mono e h3⟩
end
/-- a reading behind which the object may have changed -/
def PqO {α : Type} [Rep α] (K : PySem.W.Frag) (o : OC) (te : TE) (σ : L2.St) (B : Hp) (R : α → Prop) : Prop := ∀ H, Ex B H → OAt o B H → ∀ Q : VK, (∀ v x B2 H2, Ub o.l B H B2 H2 → OAt o B2 H2 → R x → Rep.at_ K B2 v x → Q v H2) → te σ H Q
section
variable {K : PySem.W.Frag} {W0 : List Addr} {B0 H0 : Hp} {os : List OC} {Γ : List (Option Cell)} {σ : L2.St} {B H B1 H1 : Hp} {te ta tb tc td tk tv : TE} {tt tt1 : TT} {D : Ends} {tu tw tz : TS} {o : OC}
theorem PqO.sum {R : List Int → Prop} (h : PqO K o te σ B R) : PqO K o (tCB (rSum K) (tCons te tNil)) σ B (fun z : Int => ∃ xs, R xs ∧ z = xs.sum) := fun H e t Q c =>
  h H e t _ fun v xs B1 H1 u t1 r hv => by
    obtain ⟨a, vs, rfl, hs, hx⟩ := at_list.mp hv
    exact ⟨a, xs, rfl, by rw [← atAll_ints hx]; exact Evl.ex_l u.bh hs, c _ xs.sum B1 H1 u t1 ⟨xs, r, rfl⟩ (at_int.mpr rfl)⟩
end
/-! ### a memo: a dict from tuples of texts to numbers, each the value of f -/
structure MemI (base : List Str) (xs : List (List Str)) : Prop where
  nd : xs.Nodup
  sub : ∀ x ∈ xs, x.Sublist base
  emp : [] ∈ xs
/-- all sublists -/
def subsL : List Str → List (List Str)
  | [] => [[]]
  | x :: xs => subsL xs ++ (subsL xs).map (x :: ·)
theorem mem_subsL : ∀ {xs ys : List Str}, ys.Sublist xs → ys ∈ subsL xs
  | [], ys, h => by
    rw [List.sublist_nil.mp h]
    exact List.mem_singleton.mpr rfl
  | x :: xs, ys, h => by
    unfold subsL
    cases h with
    | cons _ h => exact List.mem_append.mpr (.inl (mem_subsL h))
    | cons_cons _ h => exact List.mem_append.mpr (.inr (List.mem_map.mpr ⟨_, mem_subsL h, rfl⟩))
theorem subsL_len : ∀ xs : List Str, (subsL xs).length = 2 ^ xs.length
  | [] => rfl
  | x :: xs => by
    unfold subsL
    rw [List.length_append, List.length_map, subsL_len xs, List.length_cons, Nat.pow_succ]
    omega
theorem MemI.len {base : List Str} {xs : List (List Str)} (h : MemI base xs) : xs.length ≤ 2 ^ base.length := by
  rw [← subsL_len]
  exact h.nd.length_le_of_subset fun x hx => mem_subsL (h.sub x hx)
theorem MemI.put {base : List Str} {xs : List (List Str)} {x : List Str} (h : MemI base xs) (hx : x.Sublist base) : MemI base (if x ∈ xs then xs else xs ++ [x]) := by
  by_cases e : x ∈ xs
  · rw [if_pos e]
    exact h
  · rw [if_neg e]
    refine ⟨List.nodup_append.mpr ⟨h.nd, by simp, fun a ha b hb z => ?_⟩, fun y hy => ?_, List.mem_append.mpr (.inl h.emp)⟩
    · rw [List.mem_singleton.mp hb] at z
      exact e (z ▸ ha)
    · rcases List.mem_append.mp hy with hy | hy
      · exact h.sub y hy
      · rw [List.mem_singleton.mp hy]
        exact hx
end Ob
set_option Elab.async false
set_option linter.all false
set_option maxRecDepth 100000
set_option maxHeartbeats 4000000
/-! M10: section 3 of the proof: which state leads to which. Plain Lean. -/
namespace Ob
open PySem L2
open PySem.W (Datum Tup DatumOrd)
theorem Reach.symm {rv : Str → List Str} (sym : ∀ x y, y ∈ rv x ↔ x ∈ rv y) {sw : List Str} {x y : Str} (hx : x ∈ sw) (h : Reach rv sw x y) : Reach rv sw y x := by
  induction h with
  | refl => exact .refl
  | step h1 hz hs ih =>
    have h1s := h1.sw hx
    exact Reach.trans (.step .refl ((sym _ _).mp hz) h1s) ih
/-! ### pressable switches, obstacles -/
theorem Reach.mono {rv : Str → List Str} {sw sw' : List Str} (h : ∀ z ∈ sw, z ∈ sw') {x y : Str} (k : Reach rv sw x y) : Reach rv sw' x y := by
  induction k with
  | refl => exact .refl
  | step _ hz hs ih => exact .step ih hz (h _ hs)
end Ob
set_option Elab.async false
set_option linter.all false
set_option maxRecDepth 100000
set_option maxHeartbeats 4000000
/-! R1: with_some, allowed_of, pressable_in, pressable, obstacles, leads, look_way, needed. -/
set_option Elab.async false
set_option linter.all false
set_option maxRecDepth 100000
set_option maxHeartbeats 4000000
/-! M11: an order of presses exists where nothing bars the way; what a search reaches; the dark groups. Plain Lean. -/
set_option Elab.async false
set_option linter.all false
set_option maxRecDepth 100000
set_option maxHeartbeats 4000000
/-! M13: an order by falling distance is an order of presses as section 3 wants it (for route). Plain Lean. -/
set_option Elab.async false
set_option linter.all false
set_option maxRecDepth 100000
set_option maxHeartbeats 4000000
/-! M17: section 6: ways round; what is surely before what; the order that has it the other way round. Plain Lean. -/
set_option Elab.async false
set_option linter.all false
set_option maxRecDepth 100000
set_option maxHeartbeats 4000000
/-! Y1a: look_pressed; can_leave, whatever the sets. -/
set_option Elab.async false
set_option linter.all false
set_option maxRecDepth 100000
set_option maxHeartbeats 4000000
/-! Or: class Orders: orders counted from the last press back; orders_many. -/
namespace Ob
open PySem L2
open Evl (Ex)
open PySem.W (Datum Tup DatumOrd)
/-! ### what is counted -/
/-! ### the object -/
structure OrdersW where
  own : Dic (List Str)
  lit : List Str
structure OrdersO (C : Addr) where
  w : OrdersW
  l : Addr
abbrev ordersF (w : OrdersW) (l : Addr) : List (Str × Cell) := [fc "own_rivals" w.own, fc "own_lit" w.lit, fc "own_known" (Any.mk (.ref l))]
instance {C : Addr} : Rep (OrdersO C) := ⟨fun K H v x => Rep.at_ K H v (objF C (ordersF x.w x.l)), fun {K H H' v x} e h => Rep.monoR (x := objF C (ordersF x.w x.l)) e h⟩
end Ob
set_option Elab.async false
set_option linter.all false
set_option maxRecDepth 100000
set_option maxHeartbeats 1000000
/-! M23: orders of some switches, from the last press back: how many leave exactly these on. Plain. -/
set_option Elab.async false
set_option linter.all false
set_option maxRecDepth 100000
set_option maxHeartbeats 1000000
/-! Or2: orders_many gives how many orders there are. -/
set_option Elab.async false
set_option linter.all false
set_option maxRecDepth 100000
set_option maxHeartbeats 1000000
/-! M40: a set that can stay on is left by some order (as M24's, without the classes' texts). Plain. -/
set_option Elab.async false
set_option linter.all false
set_option maxRecDepth 100000
set_option maxHeartbeats 1000000
/-! M34a (split off M34): the order of lists of names, sorted lists of lists. Plain. -/
set_option Elab.async false
set_option linter.all false
set_option maxRecDepth 100000
set_option maxHeartbeats 4000000
/-! Ix (split off Y5): xs.index(x). -/
set_option Elab.async false
set_option linter.all false
set_option maxRecDepth 100000
set_option maxHeartbeats 4000000
/-! R2: look_way (of a way that is free), needed. -/
set_option Elab.async false
set_option linter.all false
set_option maxRecDepth 100000
set_option maxHeartbeats 4000000
/-! R3: distances, order_to, route. -/
set_option Elab.async false
set_option linter.all false
set_option maxRecDepth 100000
set_option maxHeartbeats 4000000
/-! Y1: look_pressed, can_leave, look_order, look_both, is_order. -/
set_option Elab.async false
set_option linter.all false
set_option maxRecDepth 100000
set_option maxHeartbeats 4000000
/-! M18: a search for a path, level by level. Plain Lean. -/
namespace Ob
open PySem L2
open PySem.W (Datum Tup DatumOrd)
structure WPath (rv : Str → List Str) (ins seen : List Str) (st : Str) (w : List Str) : Prop where
  nd : w.Nodup
  mem : ∀ x ∈ w, x ∈ ins ∧ x ∈ seen
  first : w[0]? = some st
  chain : ∀ i x y, w[i]? = some x → w[i + 1]? = some y → y ∈ rv x
  last : ∃ x, w[w.length - 1]? = some x ∧ Reach rv ins st x
section
variable {rv : Str → List Str} {ins es seen : List Str} {st : Str} {W : List (List Str)} {at_ : Nat}
theorem WPath.up {w : List Str} {z : Str} (h : WPath rv ins seen st w) : WPath rv ins (seen ++ [z]) st w := ⟨h.nd, fun x hx => ⟨(h.mem x hx).1, List.mem_append_left _ (h.mem x hx).2⟩, h.first, h.chain, h.last⟩
end
end Ob
set_option Elab.async false
set_option linter.all false
set_option maxRecDepth 100000
set_option maxHeartbeats 4000000
/-! Y2: path_to, way_round, surely_before. -/
namespace Ob
open PySem L2
open Evl (Ex)
open PySem.W (Datum Tup DatumOrd)
section
variable {α β γ δ ε ζ : Type} [Rep α] [Rep β] [Rep γ] [Rep δ] [Rep ε] [Rep ζ] {K : PySem.W.Frag} {vs : List V} {Q : VK} {E : XK} {σ : L2.St} {B H : Hp} {ta tb tc td tf : TE}
def Fn4R (K : PySem.W.Frag) (pre : α → β → γ → δ → Prop) (R : α → β → γ → δ → ε → Prop) : Sp := fun vs H Q _ => ∃ x y z t B, Ex B H ∧ RCons K x (RCons K y (RCons K z (RCons K t RNil))) vs B ∧ pre x y z t ∧ ∀ v r B2 H2, Up B H B2 H2 → R x y z t r → Rep.at_ K B2 v r → Q v H2
theorem Fn4R.len {pre : α → β → γ → δ → Prop} {R : α → β → γ → δ → ε → Prop} (vs : List V) (H : Hp) (Q : VK) (E : XK) (h : Fn4R K pre R vs H Q E) : vs.length = 4 := by
  obtain ⟨x, y, z, t, B, e, ⟨v, r, rfl, h1, v2, r2, rfl, h2, v3, r3, rfl, h3, v4, r4, rfl, h4, rfl⟩, _⟩ := h
  rfl
end
end Ob
set_option Elab.async false
set_option linter.all false
set_option maxRecDepth 100000
set_option maxHeartbeats 4000000
/-! Y3: way_round, surely_before. -/
namespace Ob
open PySem L2
open Evl (Ex)
open PySem.W (Datum Tup DatumOrd)
section
variable {α β γ δ ε ζ : Type} [Rep α] [Rep β] [Rep γ] [Rep δ] [Rep ε] [Rep ζ] {K : PySem.W.Frag} {vs : List V} {Q : VK} {E : XK} {σ : L2.St} {B H : Hp} {ta tb tc td tf te : TE}
def Fn5R (K : PySem.W.Frag) (pre : α → β → γ → δ → ε → Prop) (R : α → β → γ → δ → ε → ζ → Prop) : Sp := fun vs H Q _ => ∃ x y z t w B, Ex B H ∧ RCons K x (RCons K y (RCons K z (RCons K t (RCons K w RNil)))) vs B ∧ pre x y z t w ∧ ∀ v r B2 H2, Up B H B2 H2 → R x y z t w r → Rep.at_ K B2 v r → Q v H2
theorem Fn5R.len {pre : α → β → γ → δ → ε → Prop} {R : α → β → γ → δ → ε → ζ → Prop} (vs : List V) (H : Hp) (Q : VK) (E : XK) (h : Fn5R K pre R vs H Q E) : vs.length = 5 := by
  obtain ⟨x, y, z, t, w, B, e, ⟨v, r, rfl, h1, v2, r2, rfl, h2, v3, r3, rfl, h3, v4, r4, rfl, h4, v5, r5, rfl, h5, rfl⟩, _⟩ := h
  rfl
end
/-! plain -/
end Ob
set_option Elab.async false
set_option linter.all false
set_option maxRecDepth 100000
set_option maxHeartbeats 4000000
/-! Y4: laid_round. -/
namespace Ob
open PySem L2
open Evl (Ex)
open PySem.W (Datum Tup DatumOrd)
section
variable {α β γ δ ε ζ : Type} [Rep α] [Rep β] [Rep γ] [Rep δ] [Rep ε] [Rep ζ] {K : PySem.W.Frag} {vs : List V} {Q : VK} {E : XK} {σ : L2.St} {B H : Hp} {ta tb tc td tf te : TE} {qn : Str} {Pt : Addr}
def FnT5R (K : PySem.W.Frag) (qn : Str) (Pt : Addr) (pre : α → β → γ → δ → ε → Prop) (R : α → β → γ → δ → ε → ζ → Prop) : Sp := fun vs H Q _ => ∃ x y z t w B, Ex B H ∧ LtAt qn B H Pt ∧ RCons K x (RCons K y (RCons K z (RCons K t (RCons K w RNil)))) vs B ∧ pre x y z t w ∧ ∀ v r B2 H2, Ub Pt B H B2 H2 → LtAt qn B2 H2 Pt → R x y z t w r → Rep.at_ K B2 v r → Q v H2
theorem FnT5R.len {pre : α → β → γ → δ → ε → Prop} {R : α → β → γ → δ → ε → ζ → Prop} (vs : List V) (H : Hp) (Q : VK) (E : XK) (h : FnT5R K qn Pt pre R vs H Q E) : vs.length = 5 := by
  obtain ⟨x, y, z, t, w, B, e, _, ⟨v, r, rfl, h1, v2, r2, rfl, h2, v3, r3, rfl, h3, v4, r4, rfl, h4, v5, r5, rfl, h5, rfl⟩, _⟩ := h
  rfl
end
section
variable {K : PySem.W.Frag} {W0 : List Addr} {B0 H0 : Hp} {os : List OC} {Γ : List (Option Cell)} {σ : L2.St} {B H : Hp} {te : TE} {tt : TT} {D : Ends} {tz : TS} {qn : Str} {P0 : Addr}
/-- name += [.. for ..] -/
theorem St.ext {γ β : Type} [Rep γ] [DecidableEq β] [Datum β] {wi : TI} {g : TG} {ns : List Nat} {xs : List γ} {i k : Nat} {l : Addr} {ys : List β} (f : γ → Bool) (y : γ → β) (s : St K W0 B0 H0 os Γ σ B H) (h : os[k]? = some (lstC K l ys)) (hi : cg Γ i = ca l) (hI : ItD K wi σ B xs) (hz : xs.length + ys.length ≤ 1000000)
    (ht : ∀ x ∈ xs, ∀ v B1, Ex B B1 → Rep.at_ K B1 v x → TurnD K g tt te ns σ B1 v (f x) (y x))
    (q : ∀ σ1 B1 H1, St K W0 B0 H0 (os.set k (lstC K l (ys ++ (xs.filter f).map y))) (cs Γ i (ca l)) σ1 B1 H1 → tz D σ1 H1) : tSeq (tAug i (tLc wi g tt te ns) rExt2) tz D σ H :=
  ⟨_, s.sl.rf i hi, lcU (Q := fun y H1 => rExt2 (.ref l) y H1 fun z H2 => tz D (σ.set i (some z)) H2) f y hI s.bh (by omega) ht fun D' ws B1 H1 u hD0 hDH hD hA => by
    have s1 := s.up u
    obtain ⟨_, vs, hl, hAl⟩ := s1.lst h
    refine ⟨l, D', vs, ws, rfl, rfl, hl, hD, ?_, ?_⟩
    · have h1 := hA.length
      rw [List.length_map] at h1
      have h2 := List.length_filter_le f xs
      rw [hAl.length, h1]
      exact Nat.le_trans (show ys.length + (xs.filter f).length ≤ 1000000 by omega) (by rw [sizeLine_eq]; decide)
    · exact q _ B1 _ (St.put (x := Any.mk (.ref l)) (s1.chg (o' := lstC K l (ys ++ (xs.filter f).map y)) (ob := .lst (vs ++ ws)) h rfl ⟨vs ++ ws, rfl, hAl.append hA⟩) i rfl)⟩
theorem Slots.lt (s : Slots K B σ Γ) {γ : Type} [Rep γ] {x : γ} {v : V} {B1 : Hp} {j : Nat} {β : Type} [Rep β] {b : Bool} {r : β} (b1 : Ex B B1) (hv : Rep.at_ K B1 v x) (ht : ∀ σ2, Slots K B1 σ2 (cs (cw Γ [j]) j (ce x)) → Pt tt σ2 B1 b ∧ (b = true → Pe K te σ2 B1 r)) : TurnD K (gName j) tt te [j] σ B1 v b r := by
  obtain ⟨h1, h2⟩ := ht _ ((s.mono b1).turn (j := j) hv)
  exact turn_name rfl (by rw [set_none_comm (List.mem_singleton.mpr rfl), wipe_wipe]) h1 h2
end
end Ob
set_option Elab.async false
set_option linter.all false
set_option maxRecDepth 100000
set_option maxHeartbeats 4000000
/-! Y5: counter_order, shows_counter. -/
namespace Ob
open PySem L2
open Evl (Ex)
open PySem.W (Datum Tup DatumOrd)
section
variable {α β γ δ ε ζ η : Type} [Rep α] [Rep β] [Rep γ] [Rep δ] [Rep ε] [Rep ζ] [Rep η] {K : PySem.W.Frag} {vs : List V} {Q : VK} {E : XK} {σ : L2.St} {B H : Hp} {ta tb tc td te tf : TE}
def Fn6 (K : PySem.W.Frag) (pre : α → β → γ → δ → ε → ζ → Prop) (f : α → β → γ → δ → ε → ζ → η) : Sp := fun vs H Q _ => ∃ x y z t w r B, Ex B H ∧ RCons K x (RCons K y (RCons K z (RCons K t (RCons K w (RCons K r RNil))))) vs B ∧ pre x y z t w r ∧ ∀ v B2 H2, Up B H B2 H2 → Rep.at_ K B2 v (f x y z t w r) → Q v H2
theorem Fn6.len {pre : α → β → γ → δ → ε → ζ → Prop} {f : α → β → γ → δ → ε → ζ → η} (vs : List V) (H : Hp) (Q : VK) (E : XK) (h : Fn6 K pre f vs H Q E) : vs.length = 6 := by
  obtain ⟨x, y, z, t, w, r, B, e, ⟨v, r, rfl, h1, v2, r2, rfl, h2, v3, r3, rfl, h3, v4, r4, rfl, h4, v5, r5, rfl, h5, v6, r6, rfl, h6, rfl⟩, _⟩ := h
  rfl
end
end Ob
set_option Elab.async false
set_option linter.all false
set_option maxRecDepth 100000
set_option maxHeartbeats 4000000
/-! M14: what is connected, step by step; what cuts the way from one switch to another one (k25). Plain Lean. -/
set_option Elab.async false
set_option linter.all false
set_option maxRecDepth 100000
set_option maxHeartbeats 4000000
/-! M16: the pairs that the wired family draws: no pair twice. Plain Lean. -/
namespace Ob
open PySem L2
open PySem.W (Datum Tup DatumOrd)
def TieP (os : List Str) (srt : Int) (k : Nat) (ps : List SS) : Prop := (∀ e ∈ ps, ∃ i j x y, i < j ∧ j < k ∧ os[j]? = some x ∧ os[i]? = some y ∧ e = mm x y ∧ (srt = 5 → j = i + 1)) ∧ ps.Nodup ∧ ps.length ≤ 20 * k
theorem tie_step {os : List Str} {srt : Int} {k : Nat} {ps : List SS} {x : Str} {mates : List Str} (nd : os.Nodup) (h : TieP os srt k ps) (hx : os[k]? = some x) (mn : mates.Nodup) (hm : ∀ m ∈ mates, ∃ i, i < k ∧ os[i]? = some m ∧ (srt = 5 → k = i + 1)) (hl : mates.length ≤ 20) : TieP os srt (k + 1) (ps ++ mates.map fun m => mm x m) := by
  obtain ⟨h1, h2, h3⟩ := h
  have ne : ∀ m ∈ mates, x ≠ m := fun m hm' e => by
    obtain ⟨i, hi, hio, _⟩ := hm m hm'
    rw [← e] at hio
    have := nd_idx nd hx hio
    omega
  refine ⟨fun e he => ?_, List.nodup_append.mpr ⟨h2, star_nd mn ne, fun a ha b hb e => ?_⟩, ?_⟩
  · rcases List.mem_append.mp he with he | he
    · obtain ⟨i, j, x', y, a1, a2, a3⟩ := h1 e he
      exact ⟨i, j, x', y, a1, by omega, a3⟩
    · obtain ⟨m, hm', rfl⟩ := List.mem_map.mp he
      obtain ⟨i, hi, hio, h5⟩ := hm m hm'
      exact ⟨i, k, x, m, hi, Nat.lt_succ_self k, hx, hio, rfl, h5⟩
  · obtain ⟨i, j, x', y, a1, a2, a3, a4, a5, _⟩ := h1 a ha
    obtain ⟨m, hm', rfl⟩ := List.mem_map.mp hb
    have n1 : x' ≠ y := fun z => by
      rw [← z] at a4
      have := nd_idx nd a3 a4
      omega
    rw [a5] at e
    rcases mm_inj n1 (ne m hm') e with ⟨z, _⟩ | ⟨_, z⟩
    · rw [z] at a3
      have := nd_idx nd hx a3
      omega
    · rw [z] at a4
      have := nd_idx nd hx a4
      omega
  · rw [List.length_append, List.length_map]
    omega
theorem tie_ring {os : List Str} {k : Nat} {ps : List SS} (nd : os.Nodup) (h : TieP os 5 k ps) {o l : Str} (ho : os[0]? = some o) (hl : os[os.length - 1]? = some l) (hn : 2 < os.length) : mm o l ∉ ps := fun hm => by
  obtain ⟨i, j, x, y, a1, a2, a3, a4, a5, a6⟩ := h.1 _ hm
  have e := a6 rfl
  have n1 : x ≠ y := fun z => by
    rw [← z] at a4
    have := nd_idx nd a3 a4
    omega
  have n2 : o ≠ l := fun z => by
    rw [z] at ho
    have := nd_idx nd ho hl
    omega
  rcases mm_inj n2 n1 a5 with ⟨z1, z2⟩ | ⟨z1, z2⟩
  · rw [z1] at ho
    rw [z2] at hl
    have := nd_idx nd a3 ho
    have := nd_idx nd a4 hl
    omega
  · rw [z1] at ho
    rw [z2] at hl
    have := nd_idx nd a4 ho
    have := nd_idx nd a3 hl
    omega
theorem tie_good {os ns : List Str} {srt : Int} {k : Nat} {ps : List SS} (nd : os.Nodup) (hp : ∀ x ∈ os, x ∈ ns) (h : TieP os srt k ps) : ∀ e ∈ ps, (e.1 ∈ ns ∧ e.2 ∈ ns) ∧ ltS e.1 e.2 = true := fun e he => by
  obtain ⟨i, j, x, y, a1, a2, a3, a4, a5, _⟩ := h.1 e he
  rw [a5]
  refine good_mm (hp _ (List.mem_of_getElem? a3)) (hp _ (List.mem_of_getElem? a4)) fun z => ?_
  rw [← z] at a4
  have := nd_idx nd a3 a4
  omega
/-- the mates of a name: of the names ahead of it, none twice -/
theorem mates_ok {os M : List Str} {srt : Int} {k : Nat} {y o z : Str} (nd : os.Nodup) (hk : 0 < k) (hl : os.length ≤ 14) (h1 : M.Sublist (os.take k)) (h2 : M ≠ [] → 1 ≤ srt ∧ srt ≤ 3) (hy : os[k - 1]? = some y) (ho : os[0]? = some o) (hz : ∃ i, i < k ∧ os[i]? = some z) :
    ((M ++ (if ngb false (decide (srt ∈ [(4 : Int), 5])) then [y] else []) ++ (if decide (srt = 6) then [o] else []) ++ (if decide (srt = 7) then [z] else [])).Nodup ∧
    (∀ m ∈ M ++ (if ngb false (decide (srt ∈ [(4 : Int), 5])) then [y] else []) ++ (if decide (srt = 6) then [o] else []) ++ (if decide (srt = 7) then [z] else []), ∃ i, i < k ∧ os[i]? = some m ∧ (srt = 5 → k = i + 1))) ∧
    (M ++ (if ngb false (decide (srt ∈ [(4 : Int), 5])) then [y] else []) ++ (if decide (srt = 6) then [o] else []) ++ (if decide (srt = 7) then [z] else [])).length ≤ 20 := by
  have hMl : M.length ≤ 14 := by
    have := h1.length_le
    have := List.length_take_le k os
    have : (os.take k).length ≤ os.length := by rw [List.length_take]; exact Nat.min_le_right _ _
    omega
  by_cases c : M = []
  · subst c
    by_cases c4 : srt ∈ [(4 : Int), 5]
    · have c4' : srt = 4 ∨ srt = 5 := by simpa using c4
      have n6 : ¬ srt = 6 := by omega
      have n7 : ¬ srt = 7 := by omega
      simp only [ngb, c4, n6, n7, decide_true, decide_false, if_true, if_false, List.nil_append, List.append_nil, Bool.false_eq_true]
      refine ⟨⟨by simp, fun m hm => ?_⟩, by simp⟩
      rw [List.mem_singleton.mp hm]
      exact ⟨k - 1, by omega, hy, fun _ => by omega⟩
    · have n5 : ¬ srt = 5 := fun h => c4 (by rw [h]; decide)
      by_cases c6 : srt = 6
      · have n7 : ¬ srt = 7 := by omega
        simp only [ngb, c4, n7, decide_true, decide_false, if_true, if_false, List.nil_append, List.append_nil, Bool.false_eq_true]
        rw [if_pos (decide_eq_true c6)]
        refine ⟨⟨by simp, fun m hm => ?_⟩, by simp⟩
        rw [List.mem_singleton.mp hm]
        exact ⟨0, hk, ho, fun h => absurd h n5⟩
      · simp only [ngb, c4, c6, decide_true, decide_false, if_true, if_false, List.nil_append, List.append_nil, Bool.false_eq_true]
        by_cases c7 : srt = 7
        · rw [if_pos (decide_eq_true c7)]
          refine ⟨⟨by simp, fun m hm => ?_⟩, by simp⟩
          rw [List.mem_singleton.mp hm]
          obtain ⟨i, hi, hio⟩ := hz
          exact ⟨i, hi, hio, fun h => absurd h n5⟩
        · rw [if_neg (by simpa using c7)]
          exact ⟨⟨.nil, fun m hm => nomatch hm⟩, by simp⟩
  · obtain ⟨a1, a2⟩ := h2 c
    have n4 : ¬ srt ∈ [(4 : Int), 5] := fun h => by
      have : srt = 4 ∨ srt = 5 := by simpa using h
      omega
    have n6 : ¬ srt = 6 := by omega
    have n7 : ¬ srt = 7 := by omega
    simp only [ngb, n4, n6, n7, decide_false, if_false, List.append_nil, Bool.false_eq_true]
    refine ⟨⟨(nd.sublist (List.take_sublist k os)).sublist h1, fun m hm => ?_⟩, by omega⟩
    obtain ⟨i, hi⟩ := List.getElem?_of_mem (h1.subset hm)
    rw [List.getElem?_take] at hi
    split at hi
    · rename_i hik
      exact ⟨i, hik, hi, fun h => by omega⟩
    · cases hi
end Ob
set_option Elab.async false
set_option linter.all false
set_option maxRecDepth 100000
set_option maxHeartbeats 4000000
/-! D8w: the wired family's panels, states, presses, subsets. -/
namespace Ob
open PySem L2
open Evl (Ex)
open PySem.W (Datum Tup DatumOrd)
section
variable {K : PySem.W.Frag} {σ : L2.St} {B H : Hp} {te ta tb tc : TE} {tt t1 t2 : TT} {b : Addr} {n m : Int}
/-- a test that draws -/
def Ptb (b : Addr) (n : Int) (tt : TT) (σ : L2.St) (B : Hp) (R : Bool → Prop) : Prop := ∀ H c, Ex B H → BoxAt c B H b → c + n ≤ 2 ^ 40 → ∀ Q : Bool → Hp → Prop, (∀ r B2 H2, Ub b B H B2 H2 → BoxAt (c + n) B2 H2 b → R r → Q r H2) → tt σ H Q
theorem ptb_test {R : Bool → Prop} (h : Pb K b n te σ B R) : Ptb b n (tTest te) σ B R := fun H c e bx hc Q q => h H c e bx hc _ fun v r B2 H2 u ub hr hv => ⟨r, at_bl.mp hv, q r B2 H2 u ub hr⟩
theorem Ptb.imp {R R' : Bool → Prop} (h : Ptb b n tt σ B R) (k : ∀ x, R x → R' x) : Ptb b n tt σ B R' := fun H c e bx hc Q q => h H c e bx hc Q fun r B2 H2 u ub hr => q r B2 H2 u ub (k r hr)
theorem Ptb.mono {R : Bool → Prop} (hm : ∀ {B'}, Ex B B' → Ptb b n tt σ B' R) {B' : Hp} (e : Ex B B') : Ptb b n tt σ B' R := hm e
theorem ptb_or {a : Bool} {R : Bool → Prop} (h1 : Pt t1 σ B a) (h2 : a = false → ∀ B', Ex B B' → Ptb b n t2 σ B' R) (h0 : a = true → R true) (hn : 0 ≤ n) : Ptb b n (tOr t1 t2) σ B R := fun H c e bx hc Q q =>
  h1 H e (fun k H1 => if k = true then Q true H1 else t2 σ H1 Q) fun B1 H1 u => by
    cases a with
    | true => exact q true B1 H1 u.ub ((u.box bx).le (by omega)) (h0 rfl)
    | false => exact h2 rfl B1 u.bb H1 c u.bh (u.box bx) hc Q fun r B2 H2 u2 ub2 r2 => q r B2 H2 (u.ub.trans (u.box bx).ne u2) ub2 r2
theorem ptb_and {a : Bool} {R : Bool → Prop} (h1 : Pt t1 σ B a) (h2 : a = true → ∀ B', Ex B B' → Ptb b n t2 σ B' R) (h0 : a = false → R false) (hn : 0 ≤ n) : Ptb b n (tAnd t1 t2) σ B R := fun H c e bx hc Q q =>
  h1 H e (fun k H1 => if k = true then t2 σ H1 Q else Q false H1) fun B1 H1 u => by
    cases a with
    | false => exact q false B1 H1 u.ub ((u.box bx).le (by omega)) (h0 rfl)
    | true => exact h2 rfl B1 u.bb H1 c u.bh (u.box bx) hc Q fun r B2 H2 u2 ub2 r2 => q r B2 H2 (u.ub.trans (u.box bx).ne u2) ub2 r2
/-- a comprehension whose test draws -/
theorem b_lcT {γ : Type} [DecidableEq γ] [Datum γ] {wi : TI} {g : TG} {vs : List Nat} {xs : List γ} {R : Bool → Prop} (h : ItD K wi σ B xs) (hz : xs.length ≤ 1000000) (hn : 0 ≤ n)
    (ht : ∀ x ∈ xs, ∀ v B1, Ex B B1 → Rep.at_ K B1 v x → ∃ σ2, (∀ H (Q : L2.St → Hp → Prop), Ex B1 H → Q σ2 H → g v (wipe σ vs) H Q) ∧ wipe σ2 vs = wipe σ vs ∧ Ptb b n tt σ2 B1 R ∧ Pe K te σ2 B1 x) :
    Pb K b (n * xs.length) (tLc wi g tt te vs) σ B (fun ys : List γ => ys.Sublist xs ∧ (ys ≠ [] → R true)) := fun H c e bx hc Q q =>
  h H e _ fun J B1 H1 G Y up W hG hY D hD => by
    have hDH : H D = none := Evl.fresh_back up.hh hD
    have hDB : B1 D = none := Evl.fresh_back up.bh hD
    have bx1 := up.box bx
    have hne : b ≠ D := fun z => bx1.ne (z ▸ hD)
    have hmul : ∀ i : Nat, i ≤ xs.length → n * (i : Int) ≤ n * (xs.length : Int) := fun i hi => Int.mul_le_mul_of_nonneg_left (by omega) hn
    refine walk_w W (fun i H' => ∃ Bi ws out, Ex B1 Bi ∧ Ub b B1 H1 Bi H' ∧ BoxAt (c + n * (i : Int)) Bi H' b ∧ Bi D = none ∧ H' D = some (.lst ws) ∧ AtAll K Bi ws out ∧ out.Sublist (xs.take i) ∧ (out ≠ [] → R true))
      ⟨B1, [], [], Ex.refl _, (Ub.refl up.bh).put hD hDB, (bx1.put hne).le (by simp), hDB, upd_same, .nil, List.nil_sublist _, fun h => absurd rfl h⟩ (fun i H' _ p => ?_) (fun i x Hx H' hi p hy => ?_) (fun H' p => ?_)
    · obtain ⟨Bi, ws, out, b1, u, _⟩ := p
      exact hG H' (b1.trans u.bh)
    · obtain ⟨Bi, ws, out, b1, u, ubi, bD, eD, hA, ho, hS⟩ := p
      obtain ⟨d, hd, hB⟩ := hY i x Hx H' hi (b1.trans u.bh) hy
      obtain ⟨B2, u2, hx⟩ := hB Bi b1 u.bh
      obtain ⟨o1, o2⟩ := u2.out bD eD
      obtain ⟨σ2, hg, hw, htt, hte⟩ := ht d (mem_of_get hd) x B2 ((up.bb.trans b1).trans u2.bb) hx
      have hi1 := hmul (i + 1) hi
      have e1 : n * ((i + 1 : Nat) : Int) = n * (i : Int) + n := by
        rw [show ((i + 1 : Nat) : Int) = (i : Int) + 1 by omega, Int.mul_add, Int.mul_one]
      refine hg H' _ u2.bh ⟨hw, htt H' (c + n * (i : Int)) u2.bh (u2.box ubi) (by omega) _ fun r B3 H3 u3 ub3 r3 => ?_⟩
      have o34 := u3.out o1 o2 hne.symm
      cases r with
      | true =>
        refine (hte.mono u3.bb) H3 u3.bh _ fun w B4 H4 u4 hw4 => ⟨ws, (u4.out o34.1 o34.2).2, ?_, B4, ws ++ [w], out ++ [d], ((b1.trans u2.bb).trans u3.bb).trans u4.bb, ?_, ?_, (u4.out o34.1 o34.2).1, upd_same, ?_, ?_, fun _ => r3⟩
        · rw [hA.length, sizeLine_eq]
          have h2 := ho.length_le
          have h3 := List.length_take_le i xs
          omega
        · exact (((u.up ubi.ne u2).trans (u2.box ubi).ne u3).up ub3.ne u4).put hD (u4.out o34.1 o34.2).1
        · exact ((u4.box ub3).le (by omega)).put hne
        · exact (hA.mono ((u2.bb.trans u3.bb).trans u4.bb)).snoc hw4
        · rw [take_snoc hd]
          exact ho.append (List.Sublist.refl _)
      | false =>
        refine ⟨B3, ws, out, (b1.trans u2.bb).trans u3.bb, (u.up ubi.ne u2).trans (u2.box ubi).ne u3, ub3.le (by omega), o34.1, o34.2, hA.mono (u2.bb.trans u3.bb), ?_, hS⟩
        rw [take_snoc hd]
        exact ho.trans (List.sublist_append_left _ _)
    · obtain ⟨Bi, ws, out, b1, u, ubi, bD, eD, hA, ho, hS⟩ := p
      obtain ⟨u4, e4⟩ := (up.ub.trans bx1.ne u).freeze eD hDH
      rw [List.take_length] at ho
      exact q (.ref D) out _ H' u4 (ubi.frz hne) ⟨ho, hS⟩ (at_list.mpr ⟨D, ws, rfl, Evl.sq_of upd_same, hA.mono e4⟩)
/-- xs[k], k drawn -/
theorem b_ix2 {α : Type} [DecidableEq α] [Datum α] {xs : List α} {R : Int → Prop} (ha : Pe K ta σ B xs) (hb : Pb K b n tb σ B R) (hr : ∀ k, R k → ∃ x, atI xs k = some x) : Pb K b n (tOp (rIxU K) ta tb) σ B (fun y => ∃ k, R k ∧ atI xs k = some y) := fun H c e bx hc Q q =>
  ha H e _ fun v B1 H1 u1 hv => (hb.mono u1.bb) H1 c u1.bh (u1.box bx) hc _ fun w k B2 H2 u2 ub r2 hw => by
    obtain ⟨x, hx⟩ := hr k r2
    have hv2 : Rep.at_ K B2 v xs := Rep.mono u2.bb hv
    have key : tOp (rIxU K) (tC v) (tC w) σ H2 Q := (e_ixL (e_const hv2) (e_const hw) hx) H2 u2.bh Q fun z B3 H3 u3 hz => q z x B3 H3 ((u1.ub.trans (u1.box bx).ne u2).up ub.ne u3) (u3.box ub) ⟨k, r2, hx⟩ hz
    exact key
/-- [x] * int(c), x drawn -/
theorem b_repL {α : Type} [DecidableEq α] [Datum α] {R : α → Prop} {c : Bool} (h : Pb K b n te σ B R) (hb : Pe K tb σ B (if c then 1 else 0 : Int)) : Pb K b n (tOp (rMulU) (tLst (tCons te tNil)) tb) σ B (fun ys => ∃ x, R x ∧ ys = if c then [x] else []) := fun H c0 e bx hc Q q =>
  h H c0 e bx hc _ fun v x B1 H1 u1 ub1 r1 hv => by
    have key : tOp (rMulU) (tLst (tCons (tC v) tNil)) tb σ H1 Q := (e_rep1' (e_const hv) (hb.mono u1.bb)) H1 u1.bh Q fun z B3 H3 u3 hz => q z _ B3 H3 (u1.up ub1.ne u3) (u3.box ub1) ⟨x, r1, rfl⟩ hz
    exact key
end
theorem rangeI_get {lo : Int} {n : Nat} {done rest : List Int} {x : Int} (h : rangeI lo n = done ++ x :: rest) : x = lo + (done.length : Int) ∧ done.length < n := by
  have h1 : (rangeI lo n)[done.length]? = some x := by rw [h]; simp
  have h2 : done.length < n := by
    have := congrArg List.length h
    rw [rangeI_len, List.length_append, List.length_cons] at this
    omega
  refine ⟨?_, h2⟩
  unfold rangeI at h1
  simp [h2] at h1
  omega
section
variable {K : PySem.W.Frag} {W0 : List Addr} {B0 H0 : Hp} {os : List OC} {Γ : List (Option Cell)} {σ : L2.St} {B H : Hp} {ta tb tc : TE} {D : Ends} {tz : TS}
/-- xs + ys of a list that may change, as a new one that may change -/
theorem St.addT {α : Type} [DecidableEq α] [Datum α] {i j k : Nat} {l : Addr} {xs ys : List α} (s : St K W0 B0 H0 os Γ σ B H) (h : os[k]? = some (lstC K l xs)) (hi : cg Γ i = ca l) (hb : Pe K tb σ B ys) (hz : xs.length + ys.length ≤ 1000000)
    (q : ∀ l2 σ1 B1 H1, St K W0 B0 H0 (os ++ [lstC K l2 (xs ++ ys)]) (cs Γ j (ca l2)) σ1 B1 H1 → D.nx σ1 H1) : tAsg (tOp (rAddU K) (tVar i) tb) (gName j) D σ H :=
  ⟨_, s.sl.rf i hi, hb H s.bh _ fun w B1 H1 u hw => by
    have s1 := s.up u
    obtain ⟨_, vs, hl, hA⟩ := s1.lst h
    obtain ⟨b, ws, rfl, hs2, hy⟩ := at_list.mp hw
    refine .inr (.inr (.inl ⟨l, b, vs, ws, rfl, rfl, Evl.sq_of hl, Evl.ex_l s1.bh hs2, ?_, fun p hp => ?_⟩))
    · rw [hA.length, hy.length]
      exact Nat.le_trans hz (by rw [sizeLine_eq]; decide)
    · exact q p _ _ _ (St.put (x := Any.mk (.ref p)) (s1.add (ob := .lst (vs ++ ws)) hp (lstC K p (xs ++ ys)) rfl ⟨vs ++ ws, rfl, hA.append hy⟩) j rfl)⟩
/-- an object that may change, let go -/
theorem St.letgo (s : St K W0 B0 H0 os Γ σ B H) (k : Nat) : St K W0 B0 H0 (os.eraseIdx k) Γ σ B H :=
  ⟨s.bb, s.bh, s.hh, s.dm, s.nw, fun o ho => s.own o ((List.eraseIdx_sublist os k).subset ho), s.nd.sublist ((List.eraseIdx_sublist os k).map _), s.sl⟩
/-- (drawn, []) unpacked -/
theorem St.unpBN {α : Type} [Rep α] {b : Addr} {c n : Int} {R1 : α → Prop} {i j : Nat} (s : St K W0 B0 H0 (boxC b c :: os) Γ σ B H) (h1 : Pb K b n ta σ B R1) (β : Type) [Rep β] (hc : c + n ≤ 2 ^ 40)
    (k : ∀ x l, R1 x → ∀ σ1 B1 H1, St K W0 B0 H0 (boxC b (c + n) :: (os ++ [lstC K l ([] : List β)])) (cs (cs Γ i (ce x)) j (ca l)) σ1 B1 H1 → tz D σ1 H1) : tSeq (tAsg (tTup (tCons ta (tCons (tLst tNil) tNil))) (gUnp K 2 (gCons (gName i) (gCons (gName j) gNil)))) tz D σ H :=
  h1 H c s.bh s.box hc _ fun v x B1 H1 u1 ub1 r1 hv => ⟨Nat.zero_le _, fun p hp => ⟨by show 2 ≤ sizeLine; rw [sizeLine_eq]; decide, fun t ht => .inl ⟨t, [v, .ref p], rfl, Evl.st_of upd_same, rfl, _, _, rfl, _, _, rfl, rfl, by
    have s2 : St K W0 B0 H0 (boxC b (c + n) :: (os ++ [lstC K p ([] : List β)])) Γ σ B1 (upd H1 p (.lst [])) := (s.ub u1 ub1).add (ob := .lst []) hp (lstC K p ([] : List β)) rfl ⟨[], rfl, .nil⟩
    have w3 := Up.new (o := .tup [v, .ref p]) s2.bh ht
    exact k x p r1 _ _ _ (St.put (x := Any.mk (.ref p)) (((s2.up w3).put i (Rep.mono w3.bb hv))) j rfl)⟩⟩⟩
end
section
variable {K : PySem.W.Frag}
/-- a drawn panel, with the least number of its switches -/
structure PanGL (lo m : Int) (p : Pan) extends PanG m p where
  low : lo ≤ (p.sw.length : Int)
abbrev sp_Ltied (K : PySem.W.Frag) : Sp := FnB1 K 20000 (fun ns : List Str => Asc ns ∧ 1 ≤ ns.length ∧ ns.length ≤ 14 ∧ ∀ y ∈ ns, y ∈ poolN) (fun ns (y : PanT) => ∃ p, y = p.t ∧ PanGL ns.length ns.length p ∧ p.sw = ns)
def N_Ltied : List Str := ["_law_box_here", "_law_called", "_law_sort", "_law_pairs", "_law_line", "_law_at", "_law_mates", "_law_mate"]
def t_Ltied (K : PySem.W.Frag) : TS :=
  (tSeq (tAsg (tTup (tCons (tCall (sp_Ltake K) [] E0 (tCons (tVar 0) (tCons (tC (.int 8)) tNil))) (tCons (tLst tNil) tNil))) (gUnp K 2 (gCons (gName 2) (gCons (gName 3) gNil))))
    (tSeq (tAsg (tCall (sp_Lstrewn K) [] E0 (tCons (tVar 0) (tCons (tVar 1) tNil))) (gName 4))
    (tSeq (tFor (iRng2 (tCons (tC (.int 1)) (tCons (tCB (rLenU K) (tCons (tVar 4) tNil)) tNil))) (gName 5) (tSeq (tAsg (tLc (iSeq K (tSl (rSlU K) (tVar 4) tNoPart (tPart (tVar 5)))) (gName 7) (tOr (tTest (tOp (rEqP K) (tVar 2) (tC (.int 3)))) (tAnd (tTest (tOp (rInU K false) (tVar 2) (tTup (tCons (tC (.int 1)) (tCons (tC (.int 2)) tNil))))) (tTest (tOp (rEqP K) (tCall (sp_Ltake K) [] E0 (tCons (tVar 0) (tCons (tOp (rI0 fun i j => .int (i - j)) (tC (.int 4)) (tVar 2)) tNil))) (tC (.int 0)))))) (tVar 7) [7]) (gName 6))
    (tSeq (tAsg (tOp (rAddU K) (tOp (rAddU K) (tVar 6) (tOp (rMulU) (tLst (tCons (tOp (rIxU K) (tVar 4) (tOp (rI0 fun i j => .int (i - j)) (tVar 5) (tC (.int 1)))) tNil)) (tCB (rInt1) (tCons (tOp (rInU K false) (tVar 2) (tTup (tCons (tC (.int 4)) (tCons (tC (.int 5)) tNil)))) tNil)))) (tOp (rMulU) (tLst (tCons (tOp (rIxU K) (tVar 4) (tC (.int 0))) tNil)) (tCB (rInt1) (tCons (tOp (rEqP K) (tVar 2) (tC (.int 6))) tNil)))) (gName 6))
    (tSeq (tAsg (tOp (rAddU K) (tVar 6) (tOp (rMulU) (tLst (tCons (tOp (rIxU K) (tVar 4) (tCall (sp_Ltake K) [] E0 (tCons (tVar 0) (tCons (tVar 5) tNil)))) tNil)) (tCB (rInt1) (tCons (tOp (rEqP K) (tVar 2) (tC (.int 7))) tNil)))) (gName 6))
    (tAsg (tOp (rAddU K) (tVar 3) (tLc (iSeq K (tVar 6)) (gName 7) tYes (tTup (tCons (tCB (rMinU) (tCons (tOp (rIxU K) (tVar 4) (tVar 5)) (tCons (tVar 7) tNil))) (tCons (tCB (rMaxU) (tCons (tOp (rIxU K) (tVar 4) (tVar 5)) (tCons (tVar 7) tNil))) tNil))) [7])) (gName 3))))))
    (tSeq (tIfS (tAnd (tTest (tOp (rEqP K) (tVar 2) (tC (.int 5)))) (tTest (tOp (rGtU K) (tCB (rLenU K) (tCons (tVar 4) tNil)) (tC (.int 2))))) (tDrop (tBM K "list" (rAppend) (tVar 3) (tCons (tTup (tCons (tCB (rMinU) (tCons (tOp (rIxU K) (tVar 4) (tC (.int 0))) (tCons (tOp (rIxU K) (tVar 4) (tUn (rU fun i => .int (-i)) (tC (.int 1)))) tNil))) (tCons (tCB (rMaxU) (tCons (tOp (rIxU K) (tVar 4) (tC (.int 0))) (tCons (tOp (rIxU K) (tVar 4) (tUn (rU fun i => .int (-i)) (tC (.int 1)))) tNil))) tNil))) tNil))) tNext)
    (tRet (tTup (tCons (tCB (rTupleU K) (tCons (tVar 1) tNil)) (tCons (tCB (rTupleU K) (tCons (tCB (rSortU K) (tCons (tVar 3) tNil)) tNil)) tNil))))))))
theorem l_Ltied (vs : List V) (H : Hp) (Q : VK) (E : XK) (h : sp_Ltied K vs H Q E) : vs.length = 2 := FnB1.len vs H Q E h
theorem r_Ltied (vs : List V) (H : Hp) (Q : VK) (E : XK) (h : sp_Ltied K vs H Q E) : t_Ltied K (Ends.ret Q) (start N_Ltied vs) H := by
  obtain ⟨b, c, ns, B, ⟨hasc, n1, n14, hnm⟩, hc, s, q⟩ := FnB1.st h N_Ltied
  refine s.unpBN (n := 1) (x_take (i := 0) (b := b) rfl s.sl (e_int (i := 8)) (by decide) (by decide)) SS (by omega) fun k l0 hk σ1 B1 H1 s1 => ?_
  obtain ⟨k0, k8⟩ := hk
  replace s1 : St K [b] B H [boxC b (c + 1), lstC K l0 ([] : List SS)] [ca b, ce ns, ce k, ca l0, none, none, none, none] σ1 B1 H1 := s1
  refine s1.setB (n := 10000) (e_strewn (b := b) (i := 0) (xs := ns) (s1.sl.rf 0 rfl) ((s1.v (x := ns) 1 rfl).imp sq_list) (by omega)) (by omega) fun os hos σ2 B2 H2 s2 => ?_
  have ond : os.Nodup := hos.nodup_iff.mpr (asc_nodup hasc)
  have ol : os.length = ns.length := hos.length_eq
  have osub : ∀ x ∈ os, x ∈ ns := fun x hx => hos.mem_iff.mp hx
  obtain ⟨o, ho⟩ : ∃ o, os[0]? = some o := ⟨os[0]'(by omega), List.getElem?_eq_getElem (by omega)⟩
  replace s2 : St K [b] B H [boxC b (c + 10001), lstC K l0 ([] : List SS)] [ca b, ce ns, ce k, ca l0, ce os, none, none, none] σ2 B2 H2 := s2.le (by omega)
  refine s2.qforG (δ := Addr × List SS) (it_rng2 (e_int (i := 1)) (e_lenL (s2.v (x := os) 4 rfl)) ⟨by decide, by decide, by omega, by omega⟩) (fun done d => [boxC b (c + 10001 + 100 * (done.length : Int)), lstC K d.1 d.2]) (fun _ d => [ca b, ce ns, ce k, ca d.1, ce os, none, none, none]) (fun done d => TieP os k (1 + done.length) d.2) ⟨(l0, []), ⟨(fun e he => nomatch he), .nil, Nat.zero_le _⟩, fun _ _ s3 => s3.le (by simp)⟩ (fun done at_ rest d ex hP v σ' B' H' N hN s3 hv => ?_) fun d hP σ' B' H' s3 => ?_
  · obtain ⟨l, ps⟩ := d
    obtain ⟨hat, hlt⟩ := rangeI_get ex
    have hdl : done.length + 1 < os.length := by omega
    obtain ⟨kk, hkk⟩ : ∃ kk : Nat, kk = 1 + done.length := ⟨_, rfl⟩
    have hat' : at_ = (kk : Int) := by omega
    rw [← hkk] at hP
    have hkl : kk < os.length := by omega
    obtain ⟨x, hx⟩ : ∃ x, os[kk]? = some x := ⟨os[kk]'hkl, List.getElem?_eq_getElem hkl⟩
    obtain ⟨y, hy⟩ : ∃ y, os[kk - 1]? = some y := ⟨os[kk - 1]'(by omega), List.getElem?_eq_getElem (by omega)⟩
    have s4 := s3.here.put 5 hv
    replace s4 : St K [b, l] B' H' [boxC b (c + 10001 + 100 * (done.length : Int)), lstC K l ps] [ca b, ce ns, ce k, ca l, ce os, ce at_, none, none] _ B' H' := s4
    have hix : atI os at_ = some x := by rw [hat']; exact atI_nat (by omega) (by simpa using hx)
    have htk : (os.take kk).length ≤ 14 := by rw [List.length_take]; omega
    refine s4.setB (n := 14) (R := fun M : List Str => M.Sublist (os.take kk) ∧ (M ≠ [] → 1 ≤ k ∧ k ≤ 3)) (((b_lcT (n := 1) (R := fun r => r = true → 1 ≤ k ∧ k ≤ 3) (it_seqL ((e_slL (s4.v (x := os) 4 rfl) o_none (o_some ((s4.v (x := at_) 5 rfl).is hat'))).is (cutA_to os kk))) (by omega) (by decide) fun z hz w B5 b5 hw => ⟨_, fun H Q _ q => q, ?_, ?_, ((s4.sl.mono b5).turn (j := 7) hw).v 7 rfl⟩).imp fun M hM => ⟨hM.1, fun h => hM.2 h rfl⟩).le (by omega)) (by omega) fun M hM σ5 B5 H5 s5 => ?_
    · rw [set_none_comm (List.mem_singleton.mpr rfl), wipe_wipe]
    · have s5 : Slots K B5 _ (cs (cw [ca b, ce ns, ce k, ca l, ce os, ce at_, none, none] [7]) 7 (ce z)) := (s4.sl.mono b5).turn (j := 7) hw
      refine ptb_or (a := decide (k = 3)) (t_test (e_eq (s5.v (x := k) 2 rfl) (e_int (i := 3)))) (fun _ B6 b6 => ?_) (fun h _ => by have := of_decide_eq_true h; omega) (by decide)
      have s6 := s5.mono b6
      refine ptb_and (a := ngb false (decide (k ∈ [(1 : Int), 2]))) (t_test (e_inT (s6.v (x := k) 2 rfl) (e_intsT [1, 2] (by decide)) false)) (fun ha B7 b7 => ?_) (fun _ h => by cases h) (by decide)
      have s7 := s6.mono b7
      have hk12 : k = 1 ∨ k = 2 := by simpa [ngb] using ha
      exact (ptb_test (b_opL (f := fun z : Int => decide (z = 0)) (x_take (b := b) (i := 0) rfl s7 (e_subI (e_int (i := 4)) (s7.v (x := k) 2 rfl)) (by omega) (by omega)) (e_int (i := 0)) (fun _ _ => rd_eq))).imp fun r _ _ => by omega
    obtain ⟨hM1, hM2⟩ := hM
    replace s5 : St K [b, l] B' H' [boxC b (c + 10001 + 100 * (done.length : Int) + 14), lstC K l ps] [ca b, ce ns, ce k, ca l, ce os, ce at_, ce M, none] σ5 B5 H5 := s5
    have hMl : M.length ≤ 14 := Nat.le_trans hM1.length_le htk
    have hiy : atI os (at_ - 1) = some y := by
      rw [show at_ - 1 = ((kk - 1 : Nat) : Int) by omega]
      exact atI_nat (by omega) (by simpa using hy)
    have hio : atI os 0 = some o := atI_nat (by decide) (by simpa using ho)
    have l1 : ∀ (c : Bool) (w : Str), (if c then [w] else ([] : List Str)).length ≤ 1 := fun c w => by split <;> simp
    obtain ⟨M1, hM1e⟩ : ∃ M1, M1 = M ++ if ngb false (decide (k ∈ [(4 : Int), 5])) then [y] else [] := ⟨_, rfl⟩
    obtain ⟨M2, hM2e⟩ : ∃ M2, M2 = M1 ++ if decide (k = 6) then [o] else [] := ⟨_, rfl⟩
    have hM1l : M1.length ≤ 15 := by
      have := l1 (ngb false (decide (k ∈ [(4 : Int), 5]))) y
      rw [hM1e, List.length_append]
      omega
    have hM2l : M2.length ≤ 16 := by
      have := l1 (decide (k = 6)) o
      rw [hM2e, List.length_append]
      omega
    have y1 := l1 (ngb false (decide (k ∈ [(4 : Int), 5]))) y
    have y2 := l1 (decide (k = 6)) o
    refine s5.set (x := M2) ((e_addL ((e_addL (s5.v (x := M) 6 rfl) (e_rep1' (c := ngb false (decide (k ∈ [(4 : Int), 5]))) (e_ixL (s5.v (x := os) 4 rfl) (e_subI (s5.v (x := at_) 5 rfl) (e_int (i := 1))) hiy) (e_intB (e_inT (s5.v (x := k) 2 rfl) (e_intsT [4, 5] (by decide)) false))) (by omega)).is hM1e.symm) (e_rep1' (c := decide (k = 6)) (e_ixL (s5.v (x := os) 4 rfl) (e_int (i := 0)) hio) (e_intB (e_eq (s5.v (x := k) 2 rfl) (e_int (i := 6))))) (by omega)).is hM2e.symm) fun σ6 B6 H6 s6 => ?_
    replace s6 : St K [b, l] B' H' [boxC b (c + 10001 + 100 * (done.length : Int) + 14), lstC K l ps] [ca b, ce ns, ce k, ca l, ce os, ce at_, ce M2, none] σ6 B6 H6 := s6
    refine s6.setB (n := 1) (b_op (f := fun ys : List Str => M2 ++ ys) (s6.v (x := M2) 6 rfl) (b_repL (c := decide (k = 7)) (b_ix2 (s6.v (x := os) 4 rfl) (x_take (b := b) (i := 0) rfl s6.sl (s6.v (x := at_) 5 rfl) (by omega) (by omega)) fun j hj => ⟨os[j.toNat]'(by omega), atI_nat hj.1 (List.getElem?_eq_getElem (by omega))⟩) (e_intB (e_eq (s6.v (x := k) 2 rfl) (e_int (i := 7))))) fun ys hys => rd_addL (by
      obtain ⟨w, _, rfl⟩ := hys
      have := l1 (decide (k = 7)) w
      omega)) (by omega) fun M3 hM3 σ7 B7 H7 s7 => ?_
    obtain ⟨_, ⟨z, ⟨j, hj, hz⟩, rfl⟩, rfl⟩ := hM3
    have hz' : ∃ i, i < kk ∧ os[i]? = some z := by
      refine ⟨j.toNat, by omega, ?_⟩
      have hjl : j.toNat < os.length := by omega
      have h0 : atI os j = some (os[j.toNat]'hjl) := atI_nat hj.1 (List.getElem?_eq_getElem hjl)
      rw [h0] at hz
      rw [List.getElem?_eq_getElem hjl]
      exact hz
    have hmo := mates_ok (srt := k) ond (show 0 < kk by omega) (show os.length ≤ 14 by omega) hM1 hM2 hy ho hz'
    rw [← hM1e, ← hM2e] at hmo
    obtain ⟨⟨m1, m2⟩, m3⟩ := hmo
    obtain ⟨M3, hM3⟩ : ∃ M3, M3 = M2 ++ if decide (k = 7) then [z] else [] := ⟨_, rfl⟩
    rw [← hM3] at m1 m2 m3
    rw [← hM3] at s7
    replace s7 : St K [b, l] B' H' [boxC b (c + 10001 + 100 * (done.length : Int) + 14 + 1), lstC K l ps] [ca b, ce ns, ce k, ca l, ce os, ce at_, ce M3, none] σ7 B7 H7 := s7
    have hpl : ps.length ≤ 20 * kk := hP.2.2
    refine s7.addT (i := 3) (j := 3) (k := 1) (l := l) (xs := ps) (ys := M3.map fun m => mm x m) rfl rfl (s7.sl.lcA (j := 7) (fun m => mm x m) (it_seqL (s7.v (x := M3) 6 rfl)) (by omega) fun m _ σ8 B8 b8 s8 => e_pair (e_minS (e_ixL (s8.v (x := os) 4 rfl) (s8.v (x := at_) 5 rfl) hix) (s8.v 7 rfl)) (e_maxS (e_ixL (s8.v (x := os) 4 rfl) (s8.v (x := at_) 5 rfl) hix) (s8.v 7 rfl))) (by rw [List.length_map]; omega) fun l2 σ8 B8 H8 s8 => hN (l2, ps ++ M3.map fun m => mm x m) (B3 := B8) ?_ ?_
    · show TieP os k (1 + (done ++ [at_]).length) _
      rw [List.length_append, List.length_singleton, show 1 + (done.length + 1) = kk + 1 by omega]
      exact tie_step ond hP hx m1 m2 m3
    · have s9 : St K [b, l] B' H' [boxC b (c + 10001 + 100 * (done.length : Int) + 14 + 1), lstC K l2 (ps ++ M3.map fun m => mm x m)] [ca b, ce ns, ce k, ca l2, ce os, ce at_, ce M3, none] σ8 B8 H8 := s8.letgo 1
      exact (s9.fg [5, 6, 7]).le (by rw [List.length_append, List.length_singleton]; omega)
  · obtain ⟨l, ps⟩ := d
    have hrl : (rangeI 1 ((os.length : Int) - 1).toNat).length ≤ 13 := by rw [rangeI_len]; omega
    replace s3 : St K [b] B H [boxC b (c + 15000), lstC K l ps] [ca b, ce ns, ce k, ca l, ce os, none, none, none] σ' B' H' := s3.le (by omega)
    have g1 := tie_good ond osub hP
    have g2 : ps.length ≤ 20 * (1 + (rangeI 1 ((os.length : Int) - 1).toNat).length) := hP.2.2
    have g3 : ps.Nodup := hP.2.1
    have hlb : l ≠ b := fun z => by
      have := s3.nd
      rw [z] at this
      exact (List.nodup_cons.mp this).1 List.mem_cons_self
    have hfin : ∀ (ps' : List SS), (∀ e ∈ ps', (e.1 ∈ ns ∧ e.2 ∈ ns) ∧ ltS e.1 e.2 = true) → ps'.length ≤ 300 → ps'.Nodup → ∀ σ4 B4 H4, St K [b] B H [boxC b (c + 15000), lstC K l ps'] [ca b, ce ns, ce k, ca l, ce os, none, none, none] σ4 B4 H4 →
        tRet (tTup (tCons (tCB (rTupleU K) (tCons (tVar 1) tNil)) (tCons (tCB (rTupleU K) (tCons (tCB (rSortU K) (tCons (tVar 3) tNil)) tNil)) tNil))) (Ends.ret Q) σ4 H4 := fun ps' g1 g2 g3 σ4 B4 H4 s4 => by
      obtain ⟨B5, b5, s5⟩ := s4.frz (i := 3) (k := 1) (l := l) (xs := ps') rfl rfl (fun hm => hlb (List.mem_singleton.mp hm))
      replace s5 : St K [b] B H [boxC b (c + 15000)] [ca b, ce ns, ce k, ce ps', ce os, none, none, none] σ4 B5 H4 := s5
      refine s5.ret (e_pair (e_tupL (s5.v (x := ns) 1 rfl)) (e_tupL (α := SS) (e_sortSq ((s5.v (x := ps') 3 rfl).imp sq_list) (sortable_pair _)))) fun v B5 H5 s5 hv => ?_
      exact q v _ _ _ _ B5 H5 (s5.le (by omega)) ⟨⟨ns, sortD ps'⟩, rfl, ⟨⟨hasc, (fun h => by rw [show ns = [] from h] at n1; exact absurd n1 (by decide)), Int.le_refl _, fun e he => g1 e (mem_sortD.mp he), sortP_idem ps', by show (sortD ps').length ≤ 300; rw [sortD_len]; exact g2, (sortD_perm ps').nodup_iff.mpr g3, hnm⟩, Int.le_refl _⟩, rfl⟩ hv
    obtain ⟨z, hz⟩ : ∃ z, os[os.length - 1]? = some z := ⟨os[os.length - 1]'(by omega), List.getElem?_eq_getElem (by omega)⟩
    obtain ⟨hb, hbe⟩ : ∃ hb : Bool, hb = (decide (k = 5) && DatumOrd.lt (2 : Int) (os.length : Int)) := ⟨_, rfl⟩
    have hb1 : hb = true → k = 5 ∧ 2 < os.length := fun h => by
      rw [hbe, Bool.and_eq_true] at h
      have h2 : decide ((2 : Int) < (os.length : Int)) = true := h.2
      exact ⟨of_decide_eq_true h.1, by have := of_decide_eq_true h2; omega⟩
    refine s3.iteJ [boxC b (c + 15000), lstC K l (if hb then ps ++ [mm o z] else ps)] [ca b, ce ns, ce k, ca l, ce os, none, none, none] (b := hb) ((t_and (t_test (e_eq (s3.v (x := k) 2 rfl) (e_int (i := 5)))) fun _ => t_test (e_gt (e_lenL (s3.v (x := os) 4 rfl)) (e_int (i := 2)))).is hbe.symm) (fun σ4 B4 H4 s4 => ?_) (fun hbt N hN B4 H4 s4 => ?_) fun hbf N hN B4 H4 s4 => hN (by rw [if_neg (by rw [hbf]; decide)]; exact s4)
    · refine hfin _ ?_ ?_ ?_ σ4 B4 H4 s4
      · intro e he
        split at he
        · rename_i h
          obtain ⟨h5, hl2⟩ := hb1 h
          rcases List.mem_append.mp he with he | he
          · exact g1 e he
          · rw [List.mem_singleton.mp he]
            refine good_mm (osub _ (List.mem_of_getElem? ho)) (osub _ (List.mem_of_getElem? hz)) fun w => ?_
            rw [w] at ho
            have := nd_idx ond ho hz
            omega
        · exact g1 e he
      · split
        · rw [List.length_append, List.length_singleton]; omega
        · omega
      · split
        · rename_i h
          obtain ⟨h5, hl2⟩ := hb1 h
          subst h5
          exact List.nodup_append.mpr ⟨g3, by simp, fun a ha b hb e => tie_ring ond hP ho hz hl2 (by rw [← List.mem_singleton.mp hb, ← e]; exact ha)⟩
        · exact g3
    · obtain ⟨h5, hl2⟩ := hb1 hbt
      have hio : atI os 0 = some o := atI_nat (by decide) (by simpa using ho)
      have hiz : atI os (-1) = some z := atI_last (n := os.length - 1) (by omega) hz
      refine s4.app (i := 3) (k := 1) (l := l) (xs := ps) (x := mm o z) rfl rfl (e_pair (e_minS (e_ixL (s4.v (x := os) 4 rfl) (e_int (i := 0)) hio) (e_ixL (s4.v (x := os) 4 rfl) (e_negI (K := K) (e_int (i := 1))) hiz)) (e_maxS (e_ixL (s4.v (x := os) 4 rfl) (e_int (i := 0)) hio) (e_ixL (s4.v (x := os) 4 rfl) (e_negI (K := K) (e_int (i := 1))) hiz))) (by omega) fun B5 H5 s5 => hN (B1 := B5) ?_
      rw [if_pos hbt]
      exact s5
abbrev sp_Lwired (K : PySem.W.Frag) : Sp := FnB2 K 40000 (fun (lo hi : Int) => 1 ≤ lo ∧ lo ≤ hi ∧ hi ≤ 14) (fun lo hi (y : PanT) => ∃ p, y = p.t ∧ PanGL lo hi p)
def N_Lwired : List Str := ["_law_box_here", "_law_least", "_law_most"]
def t_Lwired (K : PySem.W.Frag) : TS :=
  (tRet (tCall (sp_Ltied K) [] E0 (tCons (tVar 0) (tCons (tCall (sp_Lnames K) [] E0 (tCons (tVar 0) (tCons (tOp (rAddU K) (tVar 1) (tCall (sp_Ltake K) [] E0 (tCons (tVar 0) (tCons (tOp (rAddU K) (tOp (rI0 fun i j => .int (i - j)) (tVar 2) (tVar 1)) (tC (.int 1))) tNil)))) tNil))) tNil))))
theorem l_Lwired (vs : List V) (H : Hp) (Q : VK) (E : XK) (h : sp_Lwired K vs H Q E) : vs.length = 3 := FnB2.len vs H Q E h
theorem r_Lwired (vs : List V) (H : Hp) (Q : VK) (E : XK) (h : sp_Lwired K vs H Q E) : t_Lwired K (Ends.ret Q) (start N_Lwired vs) H := by
  obtain ⟨b, c, lo, hi, B, ⟨a1, a2, a3⟩, hc, s, q⟩ := FnB2.st h N_Lwired
  refine s.retB (n := 1 + 10000 + 20000) (b_call1 (n := 20000) (i := 0) (s.sl.rf 0 rfl) (b_call1 (n := 10000) (i := 0) (s.sl.rf 0 rfl) (b_op (f := fun y : Int => lo + y) (s.v 1 rfl) (x_take (b := b) (i := 0) rfl s.sl (e_addI (e_subI (s.v (x := hi) 2 rfl) (s.v (x := lo) 1 rfl)) (e_int (i := 1))) (by omega) (by omega)) (fun _ _ => rd_addI)) fun x hx => ?_) fun ns hns => ?_) (by omega) fun v y hy B1 H1 s1 hv => ?_
  · obtain ⟨k, hk, rfl⟩ := hx
    omega
  · obtain ⟨x, ⟨k, hk, rfl⟩, h1, h2, h3⟩ := hns
    exact ⟨h1, by omega, by omega, h3⟩
  · obtain ⟨ns, ⟨x, ⟨k, hk, rfl⟩, h1, h2, _⟩, p, rfl, g, _⟩ := hy
    exact q v _ _ _ _ B1 H1 (s1.le (by omega)) ⟨p, rfl, { g with len := by have := g.len; omega, low := by have := g.low; omega }⟩ hv
end
end Ob
set_option Elab.async false
set_option linter.all false
set_option maxRecDepth 100000
set_option maxHeartbeats 4000000
/-! Bo: b is True, b is not True, both truth values. -/
set_option Elab.async false
set_option linter.all false
set_option maxRecDepth 100000
set_option maxHeartbeats 4000000
/-! Y6: k76's own defs: _law_left, _law_free, _law_web, _law_webs, _law_fits, _law_all_stay, _law_hits. -/
set_option Elab.async false
set_option linter.all false
set_option maxRecDepth 100000
set_option maxHeartbeats 4000000
/-! Y7: _law_webs, _law_fits, _law_all_stay, _law_hits (k76). -/
set_option Elab.async false
set_option linter.all false
set_option maxRecDepth 100000
set_option maxHeartbeats 4000000
/-! Y8: _law_is_sure, _law_hits (k76). -/
set_option Elab.async false
set_option linter.all false
set_option maxRecDepth 100000
set_option maxHeartbeats 4000000
/-! M19: the sets that stay (k76): what stayAll holds, and that it isn't empty. Plain Lean. -/
set_option Elab.async false
set_option linter.all false
set_option maxRecDepth 100000
set_option maxHeartbeats 1000000
/-! M37: lists of pairs as dicts with keys of any kind; dicts that count. Plain. -/
set_option Elab.async false
set_option linter.all false
set_option maxRecDepth 100000
set_option maxHeartbeats 1000000
/-! M39: the sets that some order leaves on, as stays lists them. Plain (k65). -/
set_option Elab.async false
set_option linter.all false
set_option maxRecDepth 100000
set_option maxHeartbeats 4000000
/-! Tm: min of a list of data (after the library's KE.DataMinMax), list.remove of a text (after HandS.SetFor's of a number), the reverse of a pair. -/
namespace L2
open PySem PySem.Spec PyProof.Rows
end L2
set_option Elab.async false
set_option linter.all false
set_option maxRecDepth 100000
set_option maxHeartbeats 1000000
/-! M21: orientations of a history's last presses (section 5): arrows, sinks, no cycle, the first order that has an orientation. Plain. -/
set_option Elab.async false
set_option linter.all false
set_option maxRecDepth 100000
set_option maxHeartbeats 2000000
/-! Io (split off Ow): in_order. -/
set_option Elab.async false
set_option linter.all false
set_option maxRecDepth 100000
set_option maxHeartbeats 2000000
/-! Ow: orientations (k69): exclusions_among, orientation_of, sinks_among, is_acyclic, is_orientation, sinks_of, order_of. -/
namespace Ob
open PySem L2
open Evl (Ex)
open PySem.W (Datum Tup DatumOrd)
section
variable {K : PySem.W.Frag} {W0 : List Addr} {B0 H0 : Hp} {os : List OC} {Γ : List (Option Cell)} {σ : L2.St} {B H B1 H1 : Hp} {te ta tb tc td tk tv : TE} {tt tt1 : TT} {D : Ends} {tu tw tz : TS} {E : XK} {vs : List V} {Q : VK}
theorem ll_list {α : Type} [DecidableEq α] [Datum α] {H : Hp} {v : V} {xs : List α} (h : Rep.at_ K H v (LL.mk xs)) : Rep.at_ K H v xs := by
  obtain ⟨a, vs, rfl, hs, hA⟩ := h
  exact at_list.mpr ⟨a, vs, rfl, hs, hA⟩
/-- of two, of three parameters: a list that nobody else holds -/
def FnF2 {α β δ : Type} [Rep α] [Rep β] [Rep δ] (K : PySem.W.Frag) (pre : α → β → Prop) (g : α → β → List δ) : Sp := fun vs H Q _ => ∃ x y B, Ex B H ∧ RCons K x (RCons K y RNil) vs B ∧ pre x y ∧ ∀ l us B2 H2, Up B H B2 H2 → B2 l = none → H l = none → H2 l = some (.lst us) → AtAll K B2 us (g x y) → Q (.ref l) H2
section
variable {α β γ δ : Type} [Rep α] [Rep β] [Rep γ] [Rep δ] {pre : α → β → Prop} {g : α → β → List δ} {pre3 : α → β → γ → Prop} {g3 : α → β → γ → List δ} {x : α} {y : β} {z : γ}
theorem FnF2.len (vs : List V) (H : Hp) (Q : VK) (E : XK) (h : FnF2 K pre g vs H Q E) : vs.length = 2 := by
  obtain ⟨x, y, B, e, ⟨v, r, rfl, h1, v2, r2, rfl, h2, rfl⟩, _⟩ := h
  rfl
end
end
end Ob
set_option Elab.async false
set_option linter.all false
set_option maxRecDepth 100000
set_option maxHeartbeats 1000000
/-! Oi: independent_sets, stays. -/
set_option Elab.async false
set_option linter.all false
set_option maxRecDepth 100000
set_option maxHeartbeats 4000000
/-! M20: section 4 of the proof: which effects there are. Plain Lean. -/
set_option Elab.async false
set_option linter.all false
set_option maxRecDepth 100000
set_option maxHeartbeats 4000000
/-! U1a: split off U1: dicts read under a lock, k in d, sorted(d). -/
namespace Ob
open PySem L2
open Evl (Ex)
open PySem.W (Datum Tup DatumOrd)
section
variable {K : PySem.W.Frag} {W0 : List Addr} {B0 H0 : Hp} {os : List OC} {Γ : List (Option Cell)} {σ : L2.St} {B B' H B1 H1 : Hp} {te ta tb tc td tk tv : TE} {tt tt1 : TT} {D : Ends} {tu tw tz : TS}
theorem Slots.monoR (s : Slots K B σ Γ) (e : ExR B B') : Slots K B' σ Γ := by
  induction s with
  | nil => exact .nil
  | cons h t ih => exact .cons (fun d hd => by
      obtain ⟨v, h1, h2⟩ := h d hd
      exact ⟨v, h1, @Rep.monoR d.α d.inst _ _ _ _ _ e h2⟩) ih
end
end Ob
set_option Elab.async false
set_option linter.all false
set_option maxRecDepth 100000
set_option maxHeartbeats 4000000
/-! V1: a dict with texts as keys that grows, its values any things. -/
set_option Elab.async false
set_option linter.all false
set_option maxRecDepth 100000
set_option maxHeartbeats 2000000
/-! Lk: a for over a dict that stays, while other objects change; dicts that grow and count; d != {}. -/
set_option Elab.async false
set_option linter.all false
set_option maxRecDepth 100000
set_option maxHeartbeats 2000000
/-! Lk2: dicts with texts as keys that grow and count: {k: v}, k in d, d[k] = d.get(k, 0) + n. -/
set_option Elab.async false
set_option linter.all false
set_option maxRecDepth 100000
set_option maxHeartbeats 2000000
/-! Dj: dicts with tuples as keys, from the model up: sorted(d); d != {} (after the library's KE.KDictList, KE.KDictSum, KE.KEqDict). -/
namespace DjZ
open PySem PySem.Calls PyProof.Rows PyProof.V PySem.Spec PySem.W L2
section
variable {prog : Program} {w : World} {A : Around}
/-- a dict whose entries are these -/
def Ent (h : Heap) (d : Addr) (es : Array DictEntry) (ep : Nat) : Prop := ∃ o, h.get? d = some o ∧ o.ExactDict ∧ o.data = .dict es ep
theorem Ent.at {h h' : Heap} {d : Addr} {es : Array DictEntry} {ep : Nat} (x : Ent h d es ep) (e : ∀ o, h.get? d = some o → h'.get? d = some o) : Ent h' d es ep := let ⟨o, a, b⟩ := x; ⟨o, e o a, b⟩
end
end DjZ
set_option Elab.async false
set_option linter.all false
set_option maxRecDepth 100000
set_option maxHeartbeats 2000000
/-! Dj2: dicts with tuples as keys: all tuples of the heap frozen (TC); dicts that change (dtvC): k in d, d[k] = v, d[k] = d.get(k, 0) + n; a for over such a dict's keys; for over sorted(d). -/
set_option Elab.async false
set_option linter.all false
set_option maxRecDepth 100000
set_option maxHeartbeats 1000000
/-! Oy: is_acyclic, are_arrows, is_orientation, sinks_of, order_of (k69). -/
set_option Elab.async false
set_option linter.all false
set_option maxRecDepth 100000
set_option maxHeartbeats 1000000
/-! Oz: the law's own orders, arrows, last presses (k69). -/
set_option Elab.async false
set_option linter.all false
set_option maxRecDepth 100000
set_option maxHeartbeats 1000000
/-! M41: the orders listed hold no order twice; how many leave a set on is what the tally says (k65, k66). Plain. -/
set_option Elab.async false
set_option linter.all false
set_option maxRecDepth 100000
set_option maxHeartbeats 1000000
/-! Tl: what the laws with tallies over orders share (k65, k66): _law_right's start with all tuples frozen; d.get(k, 0) of a dict with tuples as keys; sorted(d) beside a list that nobody else holds. -/
namespace Ob
open PySem L2
open Evl (Ex)
open PySem.W (Datum Tup DatumOrd)
section
variable {K : PySem.W.Frag} {W0 : List Addr} {B0 H0 : Hp} {os : List OC} {Γ : List (Option Cell)} {σ : L2.St} {B H B1 H1 : Hp} {te ta tb tc td tk tv : TE} {tt : TT} {D : Ends} {tu tw tz : TS} {b : Addr} {c n m : Int} {vs : List V} {Q : VK} {E : XK}
theorem e_lst2D {a b : PyData} (h1 : Pe K ta σ B (DD.mk a)) (h2 : Pe K tb σ B (DD.mk b)) : Pe K (tLst (tCons ta (tCons tb tNil))) σ B (DD.mk (.list [a, b])) := fun H e Q q =>
  (a_2 h1 h2) H e (fun vs H1 => vs.length ≤ sizeLine ∧ ∀ p, H1 p = none → Q (.ref p) (upd H1 p (.lst vs))) fun vs B1 H1 u hv => by
    obtain ⟨v1, _, rfl, k1, v2, _, rfl, k2, rfl⟩ := hv
    refine ⟨by show 2 ≤ sizeLine; rw [sizeLine_eq]; decide, fun p hp => ?_⟩
    have w := Up.new (o := .lst [v1, v2]) u.bh hp
    exact q _ _ _ (u.then hp) (Dq.lst (Evl.sq_of upd_same) (.cons (dq_monoR (ExR.of w.bb) _ _ k1) (.cons (dq_monoR (ExR.of w.bb) _ _ k2) .nil)))
end
end Ob
set_option Elab.async false
set_option linter.all false
set_option maxRecDepth 100000
set_option maxHeartbeats 4000000
/-! Lm: a lambda without parameters, handed to a def that calls it within a try. -/
set_option Elab.async false
set_option linter.all false
set_option maxRecDepth 100000
set_option maxHeartbeats 4000000
/-! LamF: a lambda of one parameter, handed to a def that calls it: g(e1, e2, lambda y: body). -/
set_option Elab.async false
set_option linter.all false
set_option maxRecDepth 100000
set_option maxHeartbeats 4000000
/-! Xf: except with two, with four classes, the exception held behind the suite (after ps_try_hold3 of Xc; printed by a program). -/
namespace L2
open PySem PySem.Spec PyProof.Rows
section
variable {X : Cx} {n x1 x2 x3 x4 : Str} {c1 c2 c3 c4 : Value} {i : Nat} {body suite : List Stmt} {b₀ : Stmt} {p1 p2 p3 p4 tpos pos pos' : Pos} {kk : Nat} {tb : WX → TS} {ts : Addr → Value → Option Addr → TS} {Wout : WX}
theorem ps_try_hold2 (hs : X.stack = X.env :: X.outer) (hf : X.env.frame = some X.env.locals) (hex : X.ex = []) (hN : X.N.Nodup) (hi : X.N[i]? = some n) (hln : X.env.kindOf n = some .local) (hc1 : Names X x1 c1) (hc2 : Names X x2 c2) (tk : Takes X Wout)
    (hb : ∀ (W : WX) (pn : List (Addr × Obj)) (xe : Value → Shared → Prop), Takes (X.tr pn xe) W → PassesOwn (model X.prog X.w) X.A X.env xe → PSs (X.tr pn xe) body (tb W))
    (hsu : ∀ (a : Addr) (oe : Obj) (cls : Value) (d : Option Addr) (pn : List (Addr × Obj)), Zc cls d oe → (∃ vs, oe.data = .fields vs) → PSs (X.suite a ((a, oe) :: pn)) (b₀ :: suite) (ts a cls d)) :
    PS X (.Try body [.ExceptHandler (some (.Tuple [.Name x1 p1, .Name x2 p2] kk tpos)) (some n) (b₀ :: suite) pos'] [] [] pos) (fun D σ H => tb (wHold X.K [c1, c2] i ts Wout D) D σ H) := by
  refine ⟨fun pins s σ H D I h => ?_⟩
  have ok := I.ok
  have hfr : X.A.frames = some (X.env :: X.outer) := by rw [ok.frames, hs]
  have hloc : Loc X.env.scope n := .inl hln
  refine wpAny_Try_except ?_
  refine wpAny_mono ((hb (wHold X.K [c1, c2] i ts Wout D) (X.pn ++ pins) (fun e s₁ => wpAny (model X.prog X.w) X.A (noteFrame e X.env) (fun _ s₂ => wpAny (model X.prog X.w) X.A (setFlight e none) (fun _ s₃ =>
    wpAny (model X.prog X.w) X.A (handleBy e X.env [.ExceptHandler (some (.Tuple [.Name x1 p1, .Name x2 p2] kk tpos)) (some n) (b₀ :: suite) pos']) (SP X pins D) X.xe s₃) X.xe s₂) X.xe s₁) (fun u s' xx => ?_) PassesOwn.looking).run [] s σ H D (I.toTry _) h) (fun f s1 hsp => ?_) (fun e s1 he => he)
  · -- the catch
    obtain ⟨a, B, sI, pins', σ', H', cls, d, rfl, J', nb, up, sky, na, os, ag, b, hb1, hyes, hno⟩ := xx
    have J : Inv X pins σ' H' sI := J'.ofTry ok
    have sky' : Sky B (X.env :: X.outer) a (Zc cls d) X.env.locals s'.heap := by rw [← hs]; exact sky
    show wpAny (model X.prog X.w) X.A (noteFrame (.ref a) X.env) _ _ _
    refine Sky.land Zc.steady hfr hf sky' fun h3 fl3 up3 => ?_
    have J3 : Inv X pins σ' H' { s' with heap := h3 } := J.landed nb fl3.1 (up.trans up3) os ag
    obtain ⟨oe3, vs3, he3, hz3, hd3⟩ := fl3.there
    have notFr : ∀ {h : Heap} {o : Obj} {vs : Array Value}, h.FunFrames B (X.env :: X.outer) → h.get? a = some o → o.data = .fields vs → a ∉ frs (X.env :: X.outer) := fun {h o vs} ff e dd hm => by
      obtain ⟨_, o', e', hnf⟩ := ff.mem hm
      rw [e] at e'; cases e'
      exact hnf _ dd
    have nfr := notFr fl3.2.2.1 he3 hd3
    have nL : a ≠ X.env.locals := fun z => nfr (List.mem_filterMap.mpr ⟨X.env, List.mem_cons_self, by rw [hf, z]⟩)
    have nF : a ∉ X.fs := fun hm => by
      obtain ⟨e, he, q⟩ := List.mem_filterMap.mp hm
      exact nfr (List.mem_filterMap.mpr ⟨e, List.mem_cons_of_mem _ he, q⟩)
    have nI : sI.heap.get? a = none := by
      cases q : sI.heap.get? a with
      | none => rfl
      | some o =>
        have z := nb a o q (by rw [hs]; exact nfr)
        rw [fl3.2.1] at z
        cases z
    have n0 : X.s_0.heap.get? a = none := by
      cases q : X.s_0.heap.get? a with
      | none => rfl
      | some o =>
        obtain ⟨o', z⟩ := J.base.there a o q (by rw [hex]; exact fun z => nomatch z)
        rw [nI] at z
        cases z
    have nP : ∀ p ∈ X.pn ++ pins, p.1 ≠ a := fun p hp z => by
      obtain ⟨e, _⟩ := J.pin p hp
      rw [z, nI] at e
      cases e
    have S3 := J3.suite he3 hd3 na nL nF
    refine wpAny_handleBy_cons (codeAny_handlers_test ?_) (by intro q; cases q)
    have LT : PySem.W.Looks (model X.prog X.w) h3 (typeOf (.ref a)) cls := fun A Q E s k q => wpAny_typeOf_ref (k _ _ he3) (by rw [hz3.1]; exact q)
    have test : ∀ {x : Str} {np : Pos} {c : Value} {Q : Value → Shared → Prop} {E : Value → Shared → Prop}, Names X x c → Q c { s' with heap := h3 } → wpAny (model X.prog X.w) (X.A.mark (some (.ref a))) (eval (.Name x np) X.env) Q E { s' with heap := h3 } := fun {x np c Q E} hc q => by
      obtain ⟨hg, hdbg, hm | ⟨hm, hv, hnn⟩⟩ := hc
      · exact ld_glob (X := X.suite a ((a, oe3) :: (X.pn ++ pins))) S3 hg hm q hdbg
      · exact ld_blt (X := X.suite a ((a, oe3) :: (X.pn ++ pins))) S3 hg hm hv q hnn hdbg
    refine wpAny_Tuple ?_
    refine wpAny_items_cons (test hc1 ?_)
    refine wpAny_items_cons (test hc2 ?_)
    refine wpAny_items_nil ⟨by show 2 ≤ sizeLine; rw [sizeLine_eq]; decide, ?_⟩
    have kp : ∀ q o, h3.get? q = some o → (h3.push { cls := .type "tuple", data := .seq [c1, c2].toArray }).get? q = some o := fun _ _ z => Heap.get?_push_of_some _ z
    have fl5 := flying_push (o := { cls := .type "tuple", data := .seq [c1, c2].toArray }) fl3
    have up5 : h3.UpToSlots (h3.push { cls := .type "tuple", data := .seq [c1, c2].toArray }) := Heap.UpToSlots.of_keeps kp
    refine (PySem.W.exm_tup2 (M := model X.prog X.w) (J3.kIn.keeps kp) (LT.keeps kp) (Heap.get?_push_size h3 rfl) hb1).here ?_
    cases b with
    | true =>
      refine codeAny_handlers_suite_as ?_
      refine HandSPX.lands_againZ fl5 fun h4 fl4 up4 => ?_
      have J4 : Inv X pins σ' H' { s' with heap := h4 } := J.landed nb fl4.1 (((up.trans up3).trans up5).trans up4) os ag
      obtain ⟨oe4, vs4, he4, hz4, hd4⟩ := fl4.there
      have S4 := J4.suite he4 hd4 na nL nF
      refine store_ok (X := X.suite a ((a, oe4) :: (X.pn ++ pins))) (v := .ref a) S4 hN hi hloc rfl (fun s5 S5 => ?_) (.inr hln)
      refine wpAny_mono ((hsu a oe4 cls d (X.pn ++ pins) hz4 ⟨_, hd4⟩).run [] s5 _ H' _ S5 (hyes rfl a na)) (fun f s6 hsp => ?_) (fun _ _ z => False.elim z)
      have end_ : ∀ {σ6 : St} {H6 : Hp} {Q : Shared → Prop}, Inv (X.suite a ((a, oe4) :: (X.pn ++ pins))) [] σ6 H6 s6 → (∀ s7, Inv X pins (σ6.set i none) H6 s7 → Q s7) →
          wpAny (model X.prog X.w) X.A (do bindName X.env n .none; unbindBehindTheSuite X.env n pos') (fun _ s7 => Q s7) X.xe s6 := fun {σ6 H6 Q} S6 hq => gone_ok (S6.unsuite ok) hN hi hln hq
      cases f with
      | next =>
        obtain ⟨σ6, H6, S6, q6⟩ := hsp
        obtain ⟨ea, na6, _⟩ := S6.pin (a, oe4) (List.mem_append_left _ List.mem_cons_self)
        exact gone_ok ((S6.unsuite ok).track ea hz4 hd4 na6 nL n0 nP) hN hi hln fun s7 J7 => ⟨_, _, J7, q6 na6⟩
      | brk =>
        obtain ⟨σ6, H6, S6, q6⟩ := hsp
        exact end_ S6 fun s7 J7 => ⟨_, _, J7, q6⟩
      | cont =>
        obtain ⟨σ6, H6, S6, q6⟩ := hsp
        exact end_ S6 fun s7 J7 => ⟨_, _, J7, q6⟩
      | ret u =>
        obtain ⟨v6, σ6, H6, S6, r6, q6⟩ := hsp
        exact end_ S6 fun s7 J7 => ⟨_, _, _, J7, r6, q6⟩
    | false =>
      show wpAny _ X.A (handleBy (.ref a) X.env []) _ _ _
      refine wpAny_handleBy_nil ?_
      obtain ⟨k1, k2, k3, oe, vs, T, oT, ts', he, hz, hd, h1, hr⟩ := id fl5
      unfold PySem.passOn
      refine wpAny_bind (wpAny_field he hd h1 ?_)
      rw [if_neg (show ¬ ((Value.ref T == Value.none) = true) from by simp)]
      have fin : wpAny (model X.prog X.w) X.A (setFlight (.ref a) X.env.frame) (fun _ s4 => wpAny (model X.prog X.w) X.A (throw (.ref a) : Sem Flow) (SP X pins D) X.xe s4) X.xe { s' with heap := h3.push { cls := .type "tuple", data := .seq [c1, c2].toArray } } := by
        rw [hf]
        refine HandSPX.setFlight_upZ fl5 fun h4 hh4 up4 => wpAny_throw (tk _ _ ?_)
        exact ⟨a, B, sI, pins, σ', H', cls, d, rfl, J, nb, ((up.trans up3).trans up5).trans up4, .inr (.inr (by rw [hs]; exact hh4)), na, os, ag, hno rfl⟩
      first
        | exact wpAny_bind (wpAny_pure (wpAny_bind fin))
        | exact wpAny_bind fin
  · cases f with
    | next =>
      obtain ⟨σ', H', J', q⟩ := hsp
      exact wpAny_execs_nil ⟨σ', H', J'.ofTry ok, q⟩
    | brk =>
      obtain ⟨σ', H', J', q⟩ := hsp
      exact ⟨σ', H', J'.ofTry ok, q⟩
    | cont =>
      obtain ⟨σ', H', J', q⟩ := hsp
      exact ⟨σ', H', J'.ofTry ok, q⟩
    | ret u =>
      obtain ⟨v, σ', H', J', r, q⟩ := hsp
      exact ⟨v, σ', H', J'.ofTry ok, r, q⟩
end
end L2
set_option Elab.async false
set_option linter.all false
set_option maxRecDepth 100000
set_option maxHeartbeats 4000000
/-! Nq: as Ny's CnG, for except clauses of two and of four classes (printed by a program). -/
namespace Ob
open PySem PySem.Spec PyProof.Rows L2
structure CnGo3 (K : PySem.W.Frag) (f : Str) (bm : List Value) (nid : String) where
  C : Addr
  fI : Addr
  c1 : Addr
  c2 : Addr
  c3 : Addr
  T : NsC K C fI f bm nid
  hx : PySem.W.exmAny K (.ref C) [.ref c1, .ref c2, .ref c3] = some true
  hv : PySem.W.kitOne K (.ref C) (bm.headD .none) = some true
  ho : PySem.W.kitOne K (.ref C) (.ref c1) = some false
  ho2 : PySem.W.kitOne K (.ref C) (.ref c2) = some false
end Ob
set_option Elab.async false
set_option linter.all false
set_option maxRecDepth 100000
set_option maxHeartbeats 4000000
/-! Nt: an exception with a field, the last of a clause of three classes; isinstance(caught, (A, B)); promises of defs that only raise; a try whose body is an if with calls that raise. -/
namespace L2
open PySem PySem.Spec PyProof.Rows
end L2
namespace Ob
open PySem PySem.Spec PyProof.Rows L2
open Evl (Ex)
open PySem.W (Datum Tup DatumOrd)
theorem CnGo3.none {K : PySem.W.Frag} {f : Str} {bm : List Value} {nid : String} (Ce : CnGo3 K f bm nid) : PySem.W.kitAny K (.ref Ce.C) [.ref Ce.c1, .ref Ce.c2] = some false :=
  kitAny_cons Ce.ho (fun _ => kitAny_cons Ce.ho2 (fun _ => rfl) fun h => by cases h) fun h => by cases h
section
variable {K : PySem.W.Frag} {W0 : List Addr} {B0 H0 : Hp} {os : List OC} {Γ : List (Option Cell)} {σ : L2.St} {B H B1 H1 : Hp} {te ta tb tc td tk tv : TE} {tt tt1 : TT} {D : Ends} {tu tw tz : TS} {C : Addr} {f : Str}
variable {α β γ δ : Type} [Rep α] [Rep β] [Rep γ] [Rep δ] {vs : List V} {Q : VK} {E : XK}
/-- defs that only raise C, its field a text -/
def FnR2 (K : PySem.W.Frag) (C : Addr) (f : Str) (bad : α → β → Str → Prop) : Sp := fun vs H _ E => ∃ x y z B, Ex B H ∧ RCons K x (RCons K y RNil) vs B ∧ bad x y z ∧ ∀ d B2 H2, Up B H B2 H2 → B2 d = some (.xd [(f, .str z)]) → E (.ref C) (some d) H2
def FnR3 (K : PySem.W.Frag) (C : Addr) (f : Str) (bad : α → β → γ → Str → Prop) : Sp := fun vs H _ E => ∃ x y t z B, Ex B H ∧ RCons K x (RCons K y (RCons K t RNil)) vs B ∧ bad x y t z ∧ ∀ d B2 H2, Up B H B2 H2 → B2 d = some (.xd [(f, .str z)]) → E (.ref C) (some d) H2
def FnR4 (K : PySem.W.Frag) (C : Addr) (f : Str) (bad : α → β → γ → δ → Str → Prop) : Sp := fun vs H _ E => ∃ x y t w z B, Ex B H ∧ RCons K x (RCons K y (RCons K t (RCons K w RNil))) vs B ∧ bad x y t w z ∧ ∀ d B2 H2, Up B H B2 H2 → B2 d = some (.xd [(f, .str z)]) → E (.ref C) (some d) H2
theorem FnR2.len {bad : α → β → Str → Prop} (vs : List V) (H : Hp) (Q : VK) (E : XK) (h : FnR2 K C f bad vs H Q E) : vs.length = 2 := by
  obtain ⟨x, y, z, B, e, ⟨v, r, rfl, h1, v2, r2, rfl, h2, rfl⟩, _⟩ := h
  rfl
theorem FnR3.len {bad : α → β → γ → Str → Prop} (vs : List V) (H : Hp) (Q : VK) (E : XK) (h : FnR3 K C f bad vs H Q E) : vs.length = 3 := by
  obtain ⟨x, y, t, z, B, e, ⟨v, r, rfl, h1, v2, r2, rfl, h2, v3, r3, rfl, h3, rfl⟩, _⟩ := h
  rfl
theorem FnR4.len {bad : α → β → γ → δ → Str → Prop} (vs : List V) (H : Hp) (Q : VK) (E : XK) (h : FnR4 K C f bad vs H Q E) : vs.length = 4 := by
  obtain ⟨x, y, t, w, z, B, e, ⟨v, r, rfl, h1, v2, r2, rfl, h2, v3, r3, rfl, h3, v4, r4, rfl, h4, rfl⟩, _⟩ := h
  rfl
/-- a try's body that raises C -/
def RaX (C : Addr) (f : Str) (body : WX → TS) (σ : L2.St) (B : Hp) (z : Str) : Prop := ∀ (W : WX) (D : Ends) (H : Hp), Ex B H → (∀ d B2 H2, Up B H B2 H2 → B2 d = some (.xd [(f, .str z)]) → W (.ref C) (some d) σ H2) → body W D σ H
theorem RaX.c2 {bad : α → β → Str → Prop} {x : α} {y : β} {z : Str} (h1 : Pe K ta σ B x) (h2 : Pe K tb σ B y) (hb : bad x y z) : RaX C f (fun W => tDrop (tCallS (FnR2 K C f bad) (WE W) (tCons ta (tCons tb tNil)))) σ B z := fun W D H e k =>
  (a_2 h1 h2) H e (fun vs H1 => FnR2 K C f bad vs H1 (fun _ H' => D.nx σ H') (WE W σ)) fun vs B1 H1 u hv => ⟨x, y, z, B1, u.bh, hv, hb, fun d B2 H2 u2 hd => k d B2 H2 (u.trans u2) hd⟩
end
end Ob
set_option Elab.async false
set_option linter.all false
set_option maxRecDepth 100000
set_option maxHeartbeats 4000000
/-! Xo: a class over RuntimeError without a field; except (A, B) as e, A the class itself, B another one. -/
namespace Ob
open PySem PySem.Spec PyProof.Rows L2
structure CesO (K : PySem.W.Frag) where
  C : Addr
  c1 : Addr
  c2 : Addr
  ec : ExcC K C
  hx : PySem.W.exmAny K (.ref C) [.ref c1, .ref c2] = some true
  hv : PySem.W.kitOne K (.ref C) (.type "RuntimeError") = some true
  ho : PySem.W.kitOne K (.ref C) (.ref c2) = some false
  x : PySem.W.excIn K C reB "RuntimeError.__new__" = true
  kc : PySem.W.keepIn K (.ref C) = true
  bc : PySem.W.subIn K (.ref C) (.type "BaseException") = some true
  tc : PySem.W.typeIn K (.ref C) = some (.type "type")
end Ob
set_option Elab.async false
set_option linter.all false
set_option maxRecDepth 100000
set_option maxHeartbeats 4000000
/-! No: as Nq's CnG2, where it is asked whether the exception is of the clause's first class, too: it isn't. -/
set_option Elab.async false
set_option linter.all false
set_option maxRecDepth 100000
set_option maxHeartbeats 4000000
/-! Nr: two own classes raised in one law (see Np): what is known of them. -/
namespace Ob
open PySem PySem.Spec PyProof.Rows L2
structure CnGq2 (K : PySem.W.Frag) (f : Str) (bm : List Value) (nid : String) where
  C : Addr
  fI : Addr
  o : CesO K
  T : NsC K C fI f bm nid
  hx : PySem.W.exmAny K (.ref C) [.ref o.C, .ref C] = some true
  hv : PySem.W.kitOne K (.ref C) (bm.headD .none) = some true
  ho : PySem.W.kitOne K (.ref C) (.ref o.C) = some false
  e1 : o.c1 = o.C
  e2 : o.c2 = C
abbrev CnGq2.c1 {K : PySem.W.Frag} {f : Str} {bm : List Value} {nid : String} (Ce : CnGq2 K f bm nid) : Addr := Ce.o.C
abbrev CnGq2.c2 {K : PySem.W.Frag} {f : Str} {bm : List Value} {nid : String} (Ce : CnGq2 K f bm nid) : Addr := Ce.C
end Ob
set_option Elab.async false
set_option linter.all false
set_option maxRecDepth 100000
set_option maxHeartbeats 4000000
/-! Np: two own classes raised in one law: one over LookupError with a field, one over RuntimeError without; the clause names the second first. -/
namespace L2
open PySem PySem.Spec PyProof.Rows
/-- isinstance(e, c), e a held exception, with or without a dict -/
def rIsG (K : PySem.W.Frag) : List V → Hp → VK → Prop := fun xs H Q => rIsF K xs H Q ∨ rIsH K xs H Q
theorem call_isG {X : Cx} : CallR X (.builtin "isinstance") (rIsG X.K) := by
  intro pins s σ H xs us Q I r h
  rcases h with h | h
  · exact call_isF pins s σ H xs us Q I r h
  · exact call_isH pins s σ H xs us Q I r h
end L2
namespace Ob
open PySem PySem.Spec PyProof.Rows L2
open Evl (Ex)
open PySem.W (Datum Tup DatumOrd)
section
variable {K : PySem.W.Frag} {W0 : List Addr} {B0 H0 : Hp} {os : List OC} {Γ : List (Option Cell)} {σ : L2.St} {B H B1 H1 : Hp} {te ta tb tc td tk tv : TE} {tt tt1 : TT} {D : Ends} {tu tw tz : TS} {C : Addr} {f : Str}
theorem e_isGF {fI dd a : Addr} {bmB : List Value} {newId : String} {fs : List (Str × V)} {c : V} {cv : Value} {b : Bool} (h : Pe K ta σ B (Any.mk (.ref a))) (hB : B a = some (exH a (.ref C) (some dd))) (hd : B dd = some (.xd fs)) (T : NsC K C fI f bmB newId) (hc : ∀ u, RelV c u → u = cv) (hk : PySem.W.kitOne K (.ref C) cv = some b) : Pe K (tCB (rIsG K) (tCons ta (tCons (tC c) tNil))) σ B b := fun H e Q q => h H e _ fun v B1 H1 u hv => by
  cases (show v = .ref a from hv)
  exact .inl ⟨a, C, fI, dd, f, bmB, newId, fs, c, cv, b, rfl, u.bh _ _ (u.bb _ _ hB), u.bh _ _ (u.bb _ _ hd), T, hc, hk, q _ B1 H1 u (at_bl.mpr rfl)⟩
end
end Ob
set_option Elab.async false
set_option linter.all false
set_option maxRecDepth 100000
set_option maxHeartbeats 4000000
/-! Tw: law and _law_right where several defs make lambdas: a list of tables that may grow. -/
namespace Ob
open PySem PySem.Spec PyProof.Rows L2
open Evl (Ex)
open LamX (CodeO TabB)
open PySem.W (Datum Tup DatumOrd)
structure UbW (W : List Addr) (B H B2 H2 : Hp) : Prop where
  bb : Ex B B2
  bh : Ex B2 H2
  hh : ∀ a u, a ∉ W → H a = some u → H2 a = some u
  nw : ∀ a, B2 a ≠ none → B a ≠ none ∨ H a = none
def LtAs (ts : List (Str × Addr)) (B H : Hp) : Prop := ∀ t ∈ ts, LtAt t.1 B H t.2
abbrev Wof (ts : List (Str × Addr)) : List Addr := ts.map (·.2)
section
variable {ts : List (Str × Addr)} {W : List Addr} {B H B1 H1 B2 H2 : Hp} {a : Addr} {o : HO}
theorem LtAs.up (t : LtAs ts B H) (u : Up B H B1 H1) : LtAs ts B1 H1 := fun x hx => (t x hx).up u
theorem LtAs.ne (t : LtAs ts B H) : ∀ a ∈ Wof ts, H a ≠ none := fun a ha => by
  obtain ⟨x, hx, rfl⟩ := List.mem_map.mp ha
  exact (t x hx).ne
theorem LtAs.put (t : LtAs ts B H) (ne : a ∉ Wof ts) : LtAs ts B (upd H a o) := fun x hx => (t x hx).put fun z => ne (List.mem_map.mpr ⟨x, hx, z⟩)
theorem LtAs.frz (t : LtAs ts B H) (ne : a ∉ Wof ts) (e : Ex B (upd B a o)) : LtAs ts (upd B a o) H := fun x hx => (t x hx).frz (fun z => ne (List.mem_map.mpr ⟨x, hx, z⟩)) e
theorem Up.ubW (u : Up B H B2 H2) : UbW W B H B2 H2 := ⟨u.bb, u.bh, fun a o _ h => u.hh a o h, u.nw⟩
theorem UbW.trans (u : UbW W B H B1 H1) (hb : ∀ a ∈ W, H1 a ≠ none) (w : UbW W B1 H1 B2 H2) : UbW W B H B2 H2 :=
  ⟨u.bb.trans w.bb, w.bh, fun a o ne h => w.hh a o ne (u.hh a o ne h), fun x h => by
    rcases w.nw x h with z | z
    · exact u.nw x z
    · cases q : H x with
      | none => exact .inr rfl
      | some o =>
        by_cases e : x ∈ W
        · exact absurd z (hb x e)
        · rw [u.hh x o e q] at z
          cases z⟩
theorem UbW.up (u : UbW W B H B1 H1) (hb : ∀ a ∈ W, H1 a ≠ none) (w : Up B1 H1 B2 H2) : UbW W B H B2 H2 := u.trans hb w.ubW
theorem UbW.fb (u : UbW W B H B2 H2) (hb : B a = none) (h : H a = some o) : B2 a = none := by
  cases q : B2 a with
  | none => rfl
  | some x =>
    rcases u.nw a (by rw [q]; exact fun z => nomatch z) with z | z
    · exact absurd hb z
    · rw [h] at z
      cases z
theorem UbW.out (u : UbW W B H B2 H2) (hb : B a = none) (h : H a = some o) (ne : a ∉ W) : B2 a = none ∧ H2 a = some o := ⟨u.fb hb h, u.hh a o ne h⟩
theorem UbW.put (u : UbW W B H B2 H2) (hf : H a = none) (hb : B2 a = none) : UbW W B H B2 (upd H2 a o) :=
  ⟨u.bb, ex_upd u.bh hb, fun c x ne h => by
    have : c ≠ a := fun z => by rw [z, hf] at h; cases h
    rw [upd_ne this]
    exact u.hh c x ne h, u.nw⟩
theorem UbW.freeze (u : UbW W B H B2 H2) (h : H2 a = some o) (hf : H a = none) : UbW W B H (upd B2 a o) H2 ∧ Ex B2 (upd B2 a o) := by
  have e2 : Ex B2 (upd B2 a o) := fun c x hc => by
    by_cases hca : c = a
    · subst hca
      have := u.bh c x hc
      rw [h] at this
      rw [upd_same]
      exact this
    · rw [upd_ne hca]
      exact hc
  refine ⟨⟨u.bb.trans e2, ex_in u.bh h, u.hh, fun c hc => ?_⟩, e2⟩
  by_cases hca : c = a
  · subst hca
    exact .inr hf
  · rw [upd_ne hca] at hc
    exact u.nw c hc
end
/-- a reading behind which the tables may have grown -/
def PqW {α : Type} [Rep α] (K : PySem.W.Frag) (ts : List (Str × Addr)) (te : TE) (σ : L2.St) (B : Hp) (R : α → Prop) : Prop := ∀ H, Ex B H → LtAs ts B H → ∀ Q : VK, (∀ v x B2 H2, UbW (Wof ts) B H B2 H2 → LtAs ts B2 H2 → R x → Rep.at_ K B2 v x → Q v H2) → te σ H Q
/-- _law_right, behind which the tables may have grown -/
def RightPW (K : PySem.W.Frag) (ts : List (Str × Addr)) : Sp := fun vs H Q _ => ∃ b B, vs = [.ref b] ∧ Ex B H ∧ BoxAt 0 B H b ∧ LtAs ts B H ∧ (Wof ts).Nodup ∧
  ∀ B2 H2, Ex B B2 → Ex B2 H2 → (∀ a u, a ≠ b → a ∉ Wof ts → H a = some u → H2 a = some u) → (∀ a, B2 a ≠ none → B a ≠ none ∨ H a = none) → LtAs ts B2 H2 → Q (.bl true) H2
section
variable {K : PySem.W.Frag} {W0 : List Addr} {B0 H0 : Hp} {os : List OC} {Γ : List (Option Cell)} {σ : L2.St} {B H B1 H1 : Hp} {te ta tb tc td tk tv : TE} {tt tt1 : TT} {D : Ends} {tu tw tz : TS} {ts : List (Str × Addr)} {vs : List V} {Q : VK} {E : XK}
theorem RightPW.len (vs : List V) (H : Hp) (Q : VK) (E : XK) (h : RightPW K ts vs H Q E) : vs.length = 1 := by
  obtain ⟨b, B, rfl, _⟩ := h
  rfl
end
/-- the law, of its script -/
def LawPW (K : PySem.W.Frag) (ts : List (Str × Addr)) : Sp := fun vs H Q _ => ∃ (s : Sq Int) (B : Hp), Ex B H ∧ LtAs ts B H ∧ (Wof ts).Nodup ∧ (∃ v, vs = [v] ∧ Rep.at_ K B v s) ∧ ∀ H2, Q (.bl true) H2
theorem LawPW.len {K : PySem.W.Frag} {ts : List (Str × Addr)} (vs : List V) (H : Hp) (Q : VK) (E : XK) (h : LawPW K ts vs H Q E) : vs.length = 1 := by
  obtain ⟨s, B, _, _, _, ⟨v, rfl, _⟩, _⟩ := h
  rfl
def cutW (B : Hp) (W : List Addr) : Hp := fun a => if a ∈ W then none else B a
theorem LawPW.start {K : PySem.W.Frag} {ts : List (Str × Addr)} {H : Hp} {a : Addr} {ns : List Int} (nd : (Wof ts).Nodup) (hP : ∀ t ∈ ts, H t.2 = some (.tbl #[])) (hS : SqL K H a (ns.map V.int)) : LawPW K ts [.ref a] H (fun v _ => v = .bl true) fun _ _ _ => False := by
  have hW : ∀ b ∈ Wof ts, H b = some (.tbl #[]) := fun b hb => by
    obtain ⟨t, ht, rfl⟩ := List.mem_map.mp hb
    exact hP t ht
  have cut : ∀ {b : Addr} {o : HO}, H b = some o → o ≠ .tbl #[] → cutW H (Wof ts) b = some o := fun {b o} h n => by
    have : b ∉ Wof ts := fun z => n (by rw [hW b z] at h; exact (Option.some.inj h).symm)
    unfold cutW
    rw [if_neg this]
    exact h
  refine ⟨⟨ns⟩, cutW H (Wof ts), fun b o h => ?_, fun t ht => ⟨if_pos (List.mem_map.mpr ⟨t, ht, rfl⟩), #[], hP t ht, trivial, fun pos cv h => by simp [codeAmong] at h⟩, nd, ⟨_, rfl, a, _, rfl, .inl (hS.imp (fun h => h.imp (fun h => cut h fun z => nomatch z) fun ⟨o, h⟩ => ⟨o, cut h fun z => nomatch z⟩) id), ints_atAll ns⟩, fun _ => rfl⟩
  unfold cutW at h
  by_cases hb : b ∈ Wof ts
  · rw [if_pos hb] at h
    cases h
  · rw [if_neg hb] at h
    exact h
end Ob
set_option Elab.async false
set_option linter.all false
set_option maxRecDepth 100000
set_option maxHeartbeats 4000000
/-! Qr: readings behind which a table may have grown: operations, tests (they began in Ri). -/
set_option Elab.async false
set_option linter.all false
set_option maxRecDepth 100000
set_option maxHeartbeats 4000000
/-! Wq: readings and tests behind which several tables may have grown. -/
namespace Ob
open PySem L2
open Evl (Ex)
open PySem.W (Datum Tup DatumOrd)
/-- a test behind which the tables may have grown -/
def PtW (K : PySem.W.Frag) (ts : List (Str × Addr)) (tt : TT) (σ : L2.St) (B : Hp) (b : Bool) : Prop := ∀ H, Ex B H → LtAs ts B H → ∀ Q : Bool → Hp → Prop, (∀ B2 H2, UbW (Wof ts) B H B2 H2 → LtAs ts B2 H2 → Q b H2) → tt σ H Q
section
variable {K : PySem.W.Frag} {W0 : List Addr} {B0 H0 : Hp} {os : List OC} {Γ : List (Option Cell)} {σ : L2.St} {B H B1 H1 B2 H2 : Hp} {te ta tb tc td tk tv : TE} {tt tt1 : TT} {D : Ends} {tu tw tz : TS} {q : Str} {P : Addr} {ts : List (Str × Addr)} {b c : Bool}
variable {α β γ δ ε : Type} [Rep α] [Rep β] [Rep γ] [Rep δ] [Rep ε] {vs : List V} {Q : VK} {E : XK}
theorem LtAt.of {q : Str} (h1 : B P = none) {ob : HO} (h2 : H P = some ob) (h3 : (tabC q P).P B ob) : LtAt q B H P := by
  obtain ⟨ps, rfl, h4⟩ := h3
  exact ⟨h1, ps, h2, h4⟩
theorem Ub.w {W : List Addr} (h : P ∈ W) (u : Ub P B H B1 H1) : UbW W B H B1 H1 := ⟨u.bb, u.bh, fun a w ne h0 => u.hh a w (fun z => ne (z ▸ h)) h0, u.nw⟩
theorem LtAs.inW (h : (q, P) ∈ ts) : P ∈ Wof ts := List.mem_map.mpr ⟨_, h, rfl⟩
theorem wof_inj (nd : (Wof ts).Nodup) {x y : Str × Addr} (hx : x ∈ ts) (hy : y ∈ ts) (h : x.2 = y.2) : x = y := by
  obtain ⟨i, hi⟩ := List.getElem?_of_mem hx
  obtain ⟨j, hj⟩ := List.getElem?_of_mem hy
  have e1 : (Wof ts)[i]? = some x.2 := by rw [List.getElem?_map, hi]; rfl
  have e2 : (Wof ts)[j]? = some x.2 := by rw [List.getElem?_map, hj, h]; rfl
  have : i = j := (List.getElem?_inj (List.getElem?_eq_some_iff.mp e1).1 nd).mp (e1.trans e2.symm)
  rw [this, hj] at hi
  exact (Option.some.inj hi).symm
theorem LtAs.ub (t : LtAs ts B H) (nd : (Wof ts).Nodup) (hm : (q, P) ∈ ts) (u : Ub P B H B1 H1) (t1 : LtAt q B1 H1 P) : LtAs ts B1 H1 := fun x hx => by
  by_cases e : x.2 = P
  · have : x = (q, P) := wof_inj nd hx hm e
    rw [this]
    exact t1
  · obtain ⟨h1, ob, h3, h4⟩ := (t x hx).own
    exact LtAt.of (u.out h1 h3 e).1 (u.out h1 h3 e).2 ((tabC x.1 x.2).mono u.bb h4)
theorem PqT.w {R : α → Prop} (h : PqT K q P te σ B R) (hm : (q, P) ∈ ts) (nd : (Wof ts).Nodup) : PqW K ts te σ B R := fun H e t Q k => h H e (t _ hm) Q fun v x B2 H2 u t2 r hv => k v x B2 H2 (u.w (LtAs.inW hm)) (t.ub nd hm u t2) r hv
theorem Pe.w {x : α} {R : α → Prop} (h : Pe K te σ B x) (hx : R x) : PqW K ts te σ B R := fun H e t Q k => h H e _ fun v B1 H1 u hv => k v x B1 H1 u.ubW (t.up u) hx hv
theorem PqW.imp {R S : α → Prop} (h : PqW K ts te σ B R) (k : ∀ x, R x → S x) : PqW K ts te σ B S := fun H e t Q q => h H e t Q fun v x B2 H2 u t2 r hv => q v x B2 H2 u t2 (k x r) hv
/-- such a reading ahead of another one -/
theorem PqW.bind {R : α → Prop} {S : β → Prop} (ctx : TE → TE) (h : PqW K ts te σ B R) (k : ∀ x, R x → ∀ v B', Ex B B' → Rep.at_ K B' v x → PqW K ts (ctx (tC v)) σ B' S)
    (hctx : ∀ H Q, (te σ H fun v H1 => ctx (tC v) σ H1 Q) → ctx te σ H Q := by exact fun _ _ h => h) : PqW K ts (ctx te) σ B S := fun H e t Q q => hctx H Q (h H e t _ fun v x B1 H1 ub t1 r hv => k x r v B1 ub.bb hv H1 ub.bh t1 Q fun w z B2 H2 u2 t2 hz hw => q w z B2 H2 (ub.trans t1.ne u2) t2 hz hw)
theorem PtW.of (h : Ob.Pt tt σ B b) : PtW K ts tt σ B b := fun H e t Q k => h H e Q fun B2 H2 u => k B2 H2 u.ubW (t.up u)
theorem PtW.or (h : PtW K ts tt σ B b) (h2 : b = false → ∀ B', Ex B B' → PtW K ts tt1 σ B' c) : PtW K ts (tOr tt tt1) σ B (b || c) := fun H e t Q k => h H e t _ fun B1 H1 u t1 => by
  cases b with
  | true => exact k B1 H1 u t1
  | false => exact h2 rfl B1 u.bb H1 u.bh t1 Q fun B2 H2 u2 t2 => k B2 H2 (u.trans t1.ne u2) t2
theorem PtW.and (h : PtW K ts tt σ B b) (h2 : b = true → ∀ B', Ex B B' → PtW K ts tt1 σ B' c) : PtW K ts (tAnd tt tt1) σ B (b && c) := fun H e t Q k => h H e t _ fun B1 H1 u t1 => by
  cases b with
  | false => exact k B1 H1 u t1
  | true => exact h2 rfl B1 u.bb H1 u.bh t1 Q fun B2 H2 u2 t2 => k B2 H2 (u.trans t1.ne u2) t2
theorem PtW.is (h : PtW K ts tt σ B b) (e : b = c) : PtW K ts tt σ B c := e ▸ h
/-- the tables stand in os -/
def InOs (ts : List (Str × Addr)) (os : List OC) : Prop := ∀ t ∈ ts, ∃ k : Nat, os[k]? = some (tabC t.1 t.2)
theorem St.ubW (s : St K W0 B0 H0 os Γ σ B H) (hj : InOs ts os) (u : UbW (Wof ts) B H B1 H1) (t : LtAs ts B1 H1) : St K W0 B0 H0 os Γ σ B1 H1 := by
  have hW : ∀ a ∈ Wof ts, a ∈ W0 ∨ H0 a = none := fun a ha => by
    obtain ⟨x, hx, rfl⟩ := List.mem_map.mp ha
    obtain ⟨k, hk⟩ := hj x hx
    exact (s.own _ (List.mem_of_getElem? hk)).2.1
  refine ⟨s.bb.trans u.bb, u.bh, fun a w ha h0 => ?_, fun a h => ?_, fun a h => ?_, fun o ho => ?_, s.nd, s.sl.mono u.bb⟩
  · refine u.hh a w (fun z => ?_) (s.hh a w ha h0)
    rcases hW a z with y | y
    · exact ha y
    · rw [y] at h0
      cases h0
  · by_cases e : a ∈ Wof ts
    · exact t.ne a e
    · cases q : H a with
      | none => exact absurd q (s.dm a h)
      | some o =>
        rw [u.hh a o e q]
        exact fun z => nomatch z
  · rcases u.nw a h with z | z
    · exact s.nw a z
    · cases q : H0 a with
      | none => exact .inr rfl
      | some o => exact absurd z (s.dm a (by rw [q]; exact fun z => nomatch z))
  · by_cases e : o.l ∈ Wof ts
    · obtain ⟨x, hx, hxl⟩ := List.mem_map.mp e
      obtain ⟨k, hk⟩ := hj x hx
      have hP := s.own _ (List.mem_of_getElem? hk)
      obtain ⟨j, hj⟩ := List.getElem?_of_mem ho
      have e1 : (os.map (·.l))[j]? = some x.2 := by rw [List.getElem?_map, hj, hxl]; rfl
      have e2 : (os.map (·.l))[k]? = some x.2 := by rw [List.getElem?_map, hk]; rfl
      have : j = k := (List.getElem?_inj (List.getElem?_eq_some_iff.mp e1).1 s.nd).mp (e1.trans e2.symm)
      subst this
      rw [hj] at hk
      cases hk
      obtain ⟨h1, h2⟩ := (t x hx).own
      exact ⟨h1, hP.2.1, h2⟩
    · obtain ⟨h1, h2, ob, h3, h4⟩ := s.own o ho
      exact ⟨(u.out h1 h3 e).1, h2, ob, (u.out h1 h3 e).2, o.mono u.bb h4⟩
/-- a def of three parameters behind which the tables may have grown -/
def FnW3R (K : PySem.W.Frag) (ts : List (Str × Addr)) (pre : α → β → γ → Prop) (R : α → β → γ → δ → Prop) : Sp := fun vs H Q _ => ∃ x y z B, Ex B H ∧ LtAs ts B H ∧ (Wof ts).Nodup ∧ RCons K x (RCons K y (RCons K z RNil)) vs B ∧ pre x y z ∧ ∀ v r B2 H2, UbW (Wof ts) B H B2 H2 → LtAs ts B2 H2 → R x y z r → Rep.at_ K B2 v r → Q v H2
theorem FnW3R.len {pre : α → β → γ → Prop} {R : α → β → γ → δ → Prop} (vs : List V) (H : Hp) (Q : VK) (E : XK) (h : FnW3R K ts pre R vs H Q E) : vs.length = 3 := by
  obtain ⟨x, y, z, B, e, _, _, ⟨v, r, rfl, h1, v2, r2, rfl, h2, v3, r3, rfl, h3, rfl⟩, _⟩ := h
  rfl
end
end Ob
set_option Elab.async false
set_option linter.all false
set_option maxRecDepth 100000
set_option maxHeartbeats 4000000
/-! Kv: a call of an own exception class with one argument by its name. -/
namespace PySem
namespace HandSPX
open Builtin Builtin.ObjectAttr
end HandSPX
end PySem
set_option Elab.async false
set_option linter.all false
set_option maxRecDepth 100000
set_option maxHeartbeats 4000000
/-! Xk: own exception classes called for their instances: X(e), X(f = e), X(); isinstance of these; their fields. -/
namespace L2
open PySem PySem.Spec PyProof.Rows
section
variable {X : Cx} {o e : Expr} {es : List Expr} {to te : TE} {ta tk : TA} {f x : Str} {p p' p1 p2 pos pos2 : Pos} {C fI : Addr} {B newId initId : String} {bmB : List Value}
theorem pe_veinitX {pl : Sem Bool} (T : NsC X.K C fI f bmB "ValueError.__new__") (hb0 : bmB = [.type "ValueError", .type "Exception", .type "BaseException", .type "object"]) (hg : Gl X "ValueError") (hm : X.mg "ValueError" = none)
    (vV : PySem.W.findCls X.K (.type "ValueError") (.type "type") "__init__" = some (.val (.builtin "ValueError.__init__"))) (ha : PA X (e :: es) ta)
    (hc : eval (.Call (.Attribute (.Name "ValueError" p1) "__init__" p2) (e :: es) [] pos) X.env = (do
      let ov ← eval (.Name "ValueError" p1) X.env
      standAt p2.atName
      let (f, first) ← holding [ov] (getMethod ov "__init__" pl)
      callWith pos f first (backTo pos (starEach (e :: es) X.env)) (backToKw pos (keywordEach [] X.env))) := by rfl)
    (he : starEach (e :: es) X.env = (false, eval e X.env) :: starEach es X.env := by rfl) (hpl : (backTo pos (starEach es X.env)).any (·.1) = false := by rfl) :
    PE X (.Call (.Attribute (.Name "ValueError" p1) "__init__" p2) (e :: es) [] pos) (tBinit C ta) := by
  subst hb0
  refine ⟨fun pins s σ H Q I h => ?_⟩
  refine PySem.W.methodCall_KW (ld_blt I hg hm (u := .type "ValueError") (by decide +kernel) ?_ (by decide) (by decide)) hc
  obtain ⟨m, fr⟩ := I.fr
  refine PySem.W.method_type (T := "ValueError") (name := "__init__") (v := .builtin "ValueError.__init__") (pl := pl) fr I.ok.mod.kin (show typeOf (.type "ValueError") = pure (.type "type") by kernel_rfl) (by decide +kernel) vV (by decide +kernel) ?_
  show wpAny _ _ (callWith pos (Value.builtin "ValueError.__init__") [] (backTo pos (starEach (e :: es) X.env)) []) _ _ _
  refine PyProof.Rows.callWith_method1 (thn (ha.run pos pins _ σ H _ (I.tok _) h) fun us s1 ⟨vs, H1, I1, r1, a, ws, ev, hl, ea, q⟩ => ?_) he hpl
  subst ev
  cases r1 with
  | @cons _ u0 _ ur ra rw' =>
    obtain rfl : u0 = Value.ref a := ra
    have hlen : ur.length ≤ sizeLine := by
      rw [← Paired.length rw', sizeLine_eq]
      omega
    exact binit_ok PySem.F.excBase_ValueError T I1 ea hlen fun s' J => ⟨.non, H1, J, rfl, q⟩
/-! such an exception is asked -/
structure XIn (H : Hp) (a C : Addr) (d : Option Addr) : Prop where
  o : Rd H a (exo a C d)
  f : ∀ dx, d = some dx → ∃ fs, Rd H dx (exd dx fs)
theorem rdo_at {P : Program} {w : World} {H : Hp} {h : Heap} {e C : Addr} {d : Option Addr} (hok : HOk P w H h) (he : Rd H e (exo e C d)) : ∃ t1 : Addr, h.get? e = some ({ cls := .ref C, dict := d, data := .fields #[.ref t1, .none, .none, .none, .bool false, .none] } : Obj) := by
  have x : ObjOk P w H h e (.ext fun h => ∃ t1 : Addr, h.get? e = some ({ cls := .ref C, dict := d, data := .fields #[.ref t1, .none, .none, .none, .bool false, .none] } : Obj)) := he.ok hok
  exact x.1
theorem rdd_at {P : Program} {w : World} {H : Hp} {h : Heap} {dx : Addr} {fs : List (Str × V)} (hok : HOk P w H h) (he : Rd H dx (exd dx fs)) : ∃ mA, h.Ns1 dx mA ∧ ∀ f, RelO (fs.lookup f) (mA f) := by
  have x : ObjOk P w H h dx (.ext fun h => ∃ mA, h.Ns1 dx mA ∧ ∀ f, RelO (fs.lookup f) (mA f)) := he.ok hok
  exact x.1
theorem XIn.inst {P : Program} {w : World} {H : Hp} {h : Heap} {a : Addr} {d : Option Addr} (hok : HOk P w H h) (x : XIn H a C d) : ∃ (oe : Obj) (od : Option Obj), PySem.W.InstAt h a oe C od := by
  obtain ⟨t1, ho⟩ := rdo_at hok x.o
  cases d with
  | none => exact ⟨_, none, ho, rfl, rfl, trivial⟩
  | some dx =>
    obtain ⟨fs, hd⟩ := x.f dx rfl
    obtain ⟨mA, hns, hr⟩ := rdd_at hok hd
    obtain ⟨od, hod, hl⟩ := lookIn_ns hns
    exact ⟨_, some od, ho, rfl, rfl, hod⟩
end
end L2
set_option Elab.async false
set_option linter.all false
set_option maxRecDepth 100000
set_option maxHeartbeats 4000000
/-! Xk2: the eighteen exception classes as data: ExV k d, the k-th class's instance, its field holding d. -/
namespace Ob
open PySem PySem.Spec PyProof.Rows L2
open Evl (Ex)
open PySem.W (Datum Tup DatumOrd)
structure Row29 where
  n : Str
  f : Option Str
  b : Nat
def rows29 : List Row29 := [⟨"BadText", some "at", 0⟩, ⟨"BadRow", some "number", 0⟩, ⟨"SameSwitch", some "switch", 0⟩, ⟨"BadName", some "name", 0⟩, ⟨"NoEffect", none, 0⟩, ⟨"NotConnected", none, 0⟩, ⟨"NoSwitch", some "switch", 1⟩, ⟨"NoPair", some "pair", 1⟩, ⟨"NoState", some "number", 1⟩, ⟨"NoDeed", some "many", 1⟩,
  ⟨"Barred", some "obstacle", 2⟩, ⟨"NoOrder", none, 2⟩, ⟨"NoPress", some "at", 2⟩, ⟨"Taken", some "switch", 2⟩, ⟨"Known", some "pair", 2⟩, ⟨"BothOn", some "pair", 2⟩, ⟨"LastSwitch", none, 2⟩, ⟨"TooMany", some "many", 3⟩]
def row29 (k : Nat) : Row29 := rows29.getD k ⟨"", none, 0⟩
abbrev nm29 (k : Nat) : Str := (row29 k).n
abbrev fl29 (k : Nat) : Option Str := (row29 k).f
def bm29 : Nat → List Value
  | 0 => [.type "ValueError", .type "Exception", .type "BaseException", .type "object"]
  | 1 => [.type "LookupError", .type "Exception", .type "BaseException", .type "object"]
  | 2 => [.type "RuntimeError", .type "Exception", .type "BaseException", .type "object"]
  | _ => [.type "OverflowError", .type "ArithmeticError", .type "Exception", .type "BaseException", .type "object"]
def bn29 : Nat → String
  | 0 => "ValueError"
  | 1 => "LookupError"
  | 2 => "RuntimeError"
  | _ => "OverflowError"
def nid29 : Nat → String
  | 0 => "ValueError.__new__"
  | 1 => "LookupError.__new__"
  | 2 => "RuntimeError.__new__"
  | _ => "OverflowError.__new__"
def excCB (x : Str) (K : PySem.W.Frag) : Bool :=
  He.eqO (PySem.W.findIn K (.ref (He.ga K x)) "__getattribute__") (some (some (.builtin "BaseException.__getattribute__"))) && (He.eqO (PySem.W.findIn K (.ref (He.ga K x)) "__getattr__") (some none) && (decide (PySem.W.subIn K (.ref (He.ga K x)) (.type "BaseException") = some true) &&
  (PySem.W.hasDictIn K (He.ga K x) && (He.eqO (PySem.W.findIn K (.ref (He.ga K x)) "__class__") (some (some (.builtin "object.__class__"))) && (He.eqO (PySem.W.specialIn K (.builtin "object.__class__") "__get__") (some (some (.builtin "getset_descriptor.__get__"))) &&
  (decide (PySem.W.takesIn K (.builtin "object.__class__") = some true) && decide (PySem.W.mroIn K (He.ga K x) (.type "object") = some true)))))))
section
variable {K : PySem.W.Frag}
theorem all29 {n k : Nat} {p : Nat → Bool} (h : (List.range n).all p = true) (hk : k < n) : p k = true := List.all_eq_true.mp h k (List.mem_range.mpr hk)
end
/-- the k-th class's instance, its field holding d -/
structure ExV where
  k : Nat
  d : PyData
def FldX (K : PySem.W.Frag) (H : Hp) (d : Option Addr) : Option Str → PyData → Prop
  | none, _ => d = none
  | some f, p => ∃ dx w, d = some dx ∧ Rd H dx (exd dx [(f, w)]) ∧ Dq K H w p
theorem FldX.mono {K : PySem.W.Frag} {H H' : Hp} {d : Option Addr} {p : PyData} (e : ExR H H') : ∀ {o : Option Str}, FldX K H d o p → FldX K H' d o p
  | none, h => h
  | some f, ⟨dx, w, h1, h2, h3⟩ => ⟨dx, w, h1, e.1 dx (exd dx [(f, w)]) rfl h2, dq_monoR e _ _ h3⟩
instance : Rep ExV := ⟨fun K H v x => ∃ a d, v = .ref a ∧ Rd H a (exo a (He.ga K (nm29 x.k)) d) ∧ FldX K H d (fl29 x.k) x.d, fun {K H H' v x} e ⟨a, d, h1, h2, h3⟩ => ⟨a, d, h1, e.1 a (exo a (He.ga K (nm29 x.k)) d) rfl h2, h3.mono e⟩⟩
end Ob
namespace Ob
open PySem
theorem ve_initX {K : PySem.W.Frag} : PySem.W.findCls K (.type "ValueError") (.type "type") "__init__" = some (.val (.builtin "ValueError.__init__")) := by kernel_rfl
end Ob
set_option Elab.async false
set_option linter.all false
set_option maxRecDepth 100000
set_option maxHeartbeats 4000000
/-! Xr: several raised classes, addressed by name: what is known of them; outcomes of a call (told, or one of the exceptions); a def that raises though it is handed a lambda; a def that tells what a lambda raised. -/
namespace Ob
open PySem PySem.Spec PyProof.Rows L2
open Evl (Ex)
open LamX (CodeO TabB LamS lamEnv lamCx)
open PySem.W (Datum Tup DatumOrd)
/-! ### readings -/
/-- isinstance(x, c), x an exception that is held, or plain data -/
def rIsY (K : PySem.W.Frag) : List V → Hp → VK → Prop := fun xs H Q => rIsG K xs H Q ∨ rIsi K xs H Q
theorem call_isY {X : Cx} : CallR X (.builtin "isinstance") (rIsY X.K) := call_isG.or call_isi
/-! ### what is known of the classes -/
def rowX (K : PySem.W.Frag) (r : Row29) : Bool := match r.f with
  | some f => nsB r.n f (bm29 r.b) (nid29 r.b) K
  | none => PySem.W.excIn K (He.ga K r.n) (bm29 r.b) (nid29 r.b) && (PySem.W.keepIn K (.ref (He.ga K r.n)) && (decide (PySem.W.subIn K (.ref (He.ga K r.n)) (.type "BaseException") = some true) && decide (PySem.W.typeIn K (.ref (He.ga K r.n)) = some (.type "type"))))
/-- rows: the classes; cl: those of the except clause, in its order -/
structure RowsX where
  rows : List Row29
  cl : List Str
def rowOf (r : RowsX) (i : Nat) : Row29 := r.rows.getD i ⟨"", none, 0⟩
def clX (K : PySem.W.Frag) (r : RowsX) : List Value := r.cl.map fun n => .ref (He.ga K n)
def okX (r : RowsX) (K : PySem.W.Frag) : Bool := ((List.range r.rows.length).all fun i => excCB (rowOf r i).n K) && (((List.range r.rows.length).all fun i => rowX K (rowOf r i)) &&
  (((List.range r.rows.length).all fun i => (List.range r.rows.length).all fun j => decide (PySem.W.kitOne K (.ref (He.ga K (rowOf r i).n)) (.ref (He.ga K (rowOf r j).n)) = some (decide (j = i)))) &&
  (((List.range r.rows.length).all fun i => decide (PySem.W.kitOne K (.ref (He.ga K (rowOf r i).n)) (.type (bn29 (rowOf r i).b)) = some true)) &&
  (((List.range r.rows.length).all fun i => decide (PySem.W.exmAny K (.ref (He.ga K (rowOf r i).n)) (clX K r) = some true)) &&
  ((List.range r.rows.length).all fun i => decide (PySem.W.kitOne K (.type "NoneType") (.ref (He.ga K (rowOf r i).n)) = some false))))))
section
variable {K : PySem.W.Frag} {r : RowsX}
theorem rowX_ok (h : okX r K = true) {k : Nat} (hk : k < r.rows.length) : rowX K (rowOf r k) = true := all29 (He.ba (He.ba h).2).1 hk
theorem kitX (h : okX r K = true) {i j : Nat} (hi : i < r.rows.length) (hj : j < r.rows.length) : PySem.W.kitOne K (.ref (He.ga K (rowOf r i).n)) (.ref (He.ga K (rowOf r j).n)) = some (decide (j = i)) :=
  of_decide_eq_true (all29 (p := fun j => decide (PySem.W.kitOne K (.ref (He.ga K (rowOf r i).n)) (.ref (He.ga K (rowOf r j).n)) = some (decide (j = i)))) (all29 (He.ba (He.ba (He.ba h).2).2).1 hi) hj)
theorem kitBX (h : okX r K = true) {i : Nat} (hi : i < r.rows.length) : PySem.W.kitOne K (.ref (He.ga K (rowOf r i).n)) (.type (bn29 (rowOf r i).b)) = some true := of_decide_eq_true (all29 (He.ba (He.ba (He.ba (He.ba h).2).2).2).1 hi)
theorem exmX (h : okX r K = true) {i : Nat} (hi : i < r.rows.length) : PySem.W.exmAny K (.ref (He.ga K (rowOf r i).n)) (clX K r) = some true := of_decide_eq_true (all29 (He.ba (He.ba (He.ba (He.ba (He.ba h).2).2).2).2).1 hi)
theorem nsX (h : okX r K = true) (k : Nat) (n f : Str) (b : Nat) (hr : r.rows[k]? = some ⟨n, some f, b⟩) : NsC K (He.ga K n) (He.ma K (He.ga K n) "__init__") f (bm29 b) (nid29 b) := by
  obtain ⟨hk, hr2⟩ := List.getElem?_eq_some_iff.mp hr
  have q := rowX_ok h hk
  have e : rowOf r k = ⟨n, some f, b⟩ := by
    unfold rowOf
    rw [List.getD_eq_getElem?_getD, hr]
    rfl
  rw [e] at q
  exact nsB_ok q
end
/-! ### outcomes -/
/-- what a call comes to: what it tells, or what it raises (the first obstacle; how many are free; no effect) -/
inductive Out where
  | told (d : PyData)
  | bar (z : Str × Str)
  | many (n : Int)
  | noeff
/-- how it ends -/
def Fw (K : PySem.W.Frag) (ts : List (Str × Addr)) (B H : Hp) (E : XK) (Q : VK) : Out → Prop
  | .told d => ∀ v B2 H2, UbW (Wof ts) B H B2 H2 → LtAs ts B2 H2 → Rep.at_ K B2 v (DD.mk d) → Q v H2
  | .bar z => ∀ d v B2 H2, UbW (Wof ts) B H B2 H2 → LtAs ts B2 H2 → B2 d = some (.xd [("obstacle", v)]) → Rep.at_ K B2 v z → E (.ref (He.ga K "Barred")) (some d) H2
  | .many n => ∀ d v B2 H2, UbW (Wof ts) B H B2 H2 → LtAs ts B2 H2 → B2 d = some (.xd [("many", v)]) → Rep.at_ K B2 v n → E (.ref (He.ga K "TooMany")) (some d) H2
  | .noeff => ∀ B2 H2, UbW (Wof ts) B H B2 H2 → LtAs ts B2 H2 → E (.ref (He.ga K "NoEffect")) none H2
theorem Fw.mono {K : PySem.W.Frag} {ts : List (Str × Addr)} {B H B1 H1 : Hp} {E : XK} {Q : VK} {o : Out} (h : Fw K ts B H E Q o) (u : UbW (Wof ts) B H B1 H1) (t : LtAs ts B1 H1) : Fw K ts B1 H1 E Q o := by
  cases o with
  | told d => exact fun v B2 H2 u2 t2 hv => h v B2 H2 (u.trans t.ne u2) t2 hv
  | bar z => exact fun d v B2 H2 u2 t2 hd hv => h d v B2 H2 (u.trans t.ne u2) t2 hd hv
  | many n => exact fun d v B2 H2 u2 t2 hd hv => h d v B2 H2 (u.trans t.ne u2) t2 hd hv
  | noeff => exact fun B2 H2 u2 t2 => h B2 H2 (u.trans t.ne u2) t2
/-- any outcome of R will do -/
abbrev FwR (K : PySem.W.Frag) (ts : List (Str × Addr)) (B H : Hp) (E : XK) (Q : VK) (R : Out → Prop) : Prop := ∀ o, R o → Fw K ts B H E Q o
/-- a reading that comes to one of R -/
def PoW (K : PySem.W.Frag) (ts : List (Str × Addr)) (t : XK → TE) (σ : L2.St) (B : Hp) (R : Out → Prop) : Prop := ∀ (E : XK) H (Q : VK), Ex B H → LtAs ts B H → FwR K ts B H E Q R → t E σ H Q
section
variable {α β γ : Type} [Rep α] [Rep β] [Rep γ]
/-- defs of three, of two parameters that come to one of R -/
def FnO3 (K : PySem.W.Frag) (ts : List (Str × Addr)) (pre : α → β → γ → Prop) (R : α → β → γ → Out → Prop) : Sp := fun vs H Q E => ∃ x y z B, Ex B H ∧ LtAs ts B H ∧ (Wof ts).Nodup ∧ RCons K x (RCons K y (RCons K z RNil)) vs B ∧ pre x y z ∧ FwR K ts B H E Q (R x y z)
def FnO2 (K : PySem.W.Frag) (ts : List (Str × Addr)) (pre : α → β → Prop) (R : α → β → Out → Prop) : Sp := fun vs H Q E => ∃ x y B, Ex B H ∧ LtAs ts B H ∧ (Wof ts).Nodup ∧ RCons K x (RCons K y RNil) vs B ∧ pre x y ∧ FwR K ts B H E Q (R x y)
end
section
variable {α β γ : Type} [Rep α] [Rep β] [Rep γ] {K : PySem.W.Frag} {ts : List (Str × Addr)} {σ : L2.St} {B H : Hp} {ta tb tc : TE} {vs : List V} {Q : VK} {E : XK} {q : Str} {P : Addr} {t : XK → TE}
theorem FnO3.len {pre : α → β → γ → Prop} {R : α → β → γ → Out → Prop} (vs : List V) (H : Hp) (Q : VK) (E : XK) (h : FnO3 K ts pre R vs H Q E) : vs.length = 3 := by
  obtain ⟨x, y, z, B, e, _, _, ⟨v, r, rfl, h1, v2, r2, rfl, h2, v3, r3, rfl, h3, rfl⟩, _⟩ := h
  rfl
theorem FnO2.len {pre : α → β → Prop} {R : α → β → Out → Prop} (vs : List V) (H : Hp) (Q : VK) (E : XK) (h : FnO2 K ts pre R vs H Q E) : vs.length = 2 := by
  obtain ⟨x, y, B, e, _, _, ⟨v, r, rfl, h1, v2, r2, rfl, h2, rfl⟩, _⟩ := h
  rfl
/-- tables within tables -/
theorem Fw.sub {ts2 : List (Str × Addr)} {o : Out} (hs : ∀ x ∈ ts2, x ∈ ts) (nd : (Wof ts).Nodup) (t0 : LtAs ts B H) (h : Fw K ts B H E Q o) : Fw K ts2 B H E Q o := by
  have key : ∀ {B2 H2 : Hp}, UbW (Wof ts2) B H B2 H2 → LtAs ts2 B2 H2 → UbW (Wof ts) B H B2 H2 ∧ LtAs ts B2 H2 := fun {B2 H2} u t => by
    refine ⟨⟨u.bb, u.bh, fun a w ne h => u.hh a w (fun z => ne ?_) h, u.nw⟩, fun x hx => ?_⟩
    · obtain ⟨y, hy, rfl⟩ := List.mem_map.mp z
      exact List.mem_map.mpr ⟨y, hs y hy, rfl⟩
    · by_cases hm : x.2 ∈ Wof ts2
      · obtain ⟨y, hy, hxy⟩ := List.mem_map.mp hm
        exact (wof_inj nd (hs y hy) hx hxy) ▸ t y hy
      · obtain ⟨h1, ob, h3, h4⟩ := (t0 x hx).own
        exact LtAt.of (u.out h1 h3 hm).1 (u.out h1 h3 hm).2 ((tabC x.1 x.2).mono u.bb h4)
  cases o with
  | told d => exact fun v B2 H2 u t hv => h v B2 H2 (key u t).1 (key u t).2 hv
  | bar z => exact fun d v B2 H2 u t hd hv => h d v B2 H2 (key u t).1 (key u t).2 hd hv
  | many n => exact fun d v B2 H2 u t hd hv => h d v B2 H2 (key u t).1 (key u t).2 hd hv
  | noeff => exact fun B2 H2 u t => h B2 H2 (key u t).1 (key u t).2
theorem LtAs.sub {ts2 : List (Str × Addr)} (hs : ∀ x ∈ ts2, x ∈ ts) (t : LtAs ts B H) : LtAs ts2 B H := fun x hx => t x (hs x hx)
theorem Fw.up {o : Out} {B1 H1 : Hp} (h : Fw K ts B H E Q o) (u : Up B H B1 H1) (t : LtAs ts B H) : Fw K ts B1 H1 E Q o := h.mono u.ubW (t.up u)
theorem PoW.c2 {ts2 : List (Str × Addr)} {pre : α → β → Prop} {R : α → β → Out → Prop} {x : α} {y : β} (hs : ∀ x ∈ ts2, x ∈ ts) (nd : (Wof ts).Nodup) (nd2 : (Wof ts2).Nodup) (h1 : Pe K ta σ B x) (h2 : Pe K tb σ B y) (hr : pre x y) :
    PoW K ts (fun E => tCallS (FnO2 K ts2 pre R) (fun _ => E) (tCons ta (tCons tb tNil))) σ B (R x y) := fun E H Q e t k => a_2 h1 h2 H e _ fun vs B1 H1 u hv =>
  ⟨x, y, B1, u.bh, (t.up u).sub hs, nd2, hv, hr, fun o ho => ((k o ho).up u t).sub hs nd (t.up u)⟩
end
/-! ### a def that tells what a lambda told or raised -/
section
variable {K : PySem.W.Frag} {ts : List (Str × Addr)} {σ : L2.St} {B H : Hp} {ta tb tc : TE} {vs : List V} {Q : VK} {E : XK} {q : Str} {P : Addr} {t : XK → TE}
variable {C : Addr} {f : Str}
theorem e_isYF {fI dd a : Addr} {bmB : List Value} {newId : String} {fs : List (Str × V)} {c : V} {cv : Value} {b : Bool} (h : Pe K ta σ B (Any.mk (.ref a))) (hB : B a = some (exH a (.ref C) (some dd))) (hd : B dd = some (.xd fs)) (T : NsC K C fI f bmB newId) (hc : ∀ u, RelV c u → u = cv) (hk : PySem.W.kitOne K (.ref C) cv = some b) : Pe K (tCB (rIsY K) (tCons ta (tCons (tC c) tNil))) σ B b := fun H e Q q =>
  (e_isGF h hB hd T hc hk) H e Q q |> fun z => by
    exact h H e _ fun v B1 H1 u hv => by
      cases (show v = .ref a from hv)
      exact .inl (.inl ⟨a, C, fI, dd, f, bmB, newId, fs, c, cv, b, rfl, u.bh _ _ (u.bb _ _ hB), u.bh _ _ (u.bb _ _ hd), T, hc, hk, q _ B1 H1 u (at_bl.mpr rfl)⟩)
end
end Ob
set_option Elab.async false
set_option linter.all false
set_option maxRecDepth 100000
set_option maxHeartbeats 4000000
/-! Nm: is_name, names_text, names_in, panel_text, _law_page, _law_is_name, _law_names_of (k87). -/
namespace Ob
open PySem L2 TL
open Evl (Ex)
open PySem.W (Datum Tup DatumOrd)
def rows87 : RowsX := ⟨[⟨"BadText", some "at", 0⟩, ⟨"BadRow", some "number", 0⟩], ["BadRow", "BadText"]⟩
abbrev cBad (K : PySem.W.Frag) : Addr := He.ga K "BadText"
/-! ### plain -/
theorem charsS_all (w : Str) : ((charsS w).all fun c => inS c lettersS) = (tl w).all fun c => decide (97 ≤ c) && decide (c ≤ 122) := by
  unfold charsS
  rw [List.all_map]
  refine congrArg (fun f => (tl w).all f) (funext fun c => ?_)
  show inS ⟨#[c]⟩ lettersS = _
  unfold inS
  rw [PySem.StrLaws.found_one, ← letters_has]
  rw [Bool.eq_iff_iff, decide_eq_true_eq, Array.contains_iff_mem]
  simp
section
variable {K : PySem.W.Frag} {W0 : List Addr} {B0 H0 : Hp} {os : List OC} {Γ : List (Option Cell)} {σ : L2.St} {B H B1 H1 : Hp} {te ta tb tc : TE} {D : Ends} {tz : TS} {i j : Nat}
/-- a, b = a panel, however written -/
theorem St.unpPan {p : Pan} (s : St K W0 B0 H0 os Γ σ B H) (h : Pe K te σ B p) (k : ∀ σ1 B1 H1, St K W0 B0 H0 os (cs (cs Γ i (ce (Sq.mk p.sw))) j (ce (Sq.mk (prs p.ex)))) σ1 B1 H1 → tz D σ1 H1) : tSeq (tAsg te (gUnp K 2 (gCons (gName i) (gCons (gName j) gNil)))) tz D σ H :=
  h H s.bh _ fun v B1 H1 u hv => by
    obtain ⟨a, v1, v2, rfl, hs, h1, h2⟩ := hv
    have s1 := ((s.up u).put i h1).put j h2
    rcases hs with hs | hs
    · exact .inr ⟨a, [v1, v2], rfl, Evl.ex_l u.bh hs, rfl, _, _, rfl, _, _, rfl, rfl, k _ B1 H1 s1⟩
    · exact .inl ⟨a, [v1, v2], rfl, ex_tx u.bh hs, rfl, _, _, rfl, _, _, rfl, rfl, k _ B1 H1 s1⟩
theorem Slots.lcPr87 {β : Type} [Rep β] {wi : TI} {xs : List Pr} {i j : Nat} (s : Slots K B σ Γ) (y : Pr → β) (h : ItD K wi σ B xs) (hz : xs.length ≤ 1000000)
    (ht : ∀ p ∈ xs, ∀ σ2 B1, Ex B B1 → Slots K B1 σ2 (cs (cs (cw Γ [i, j]) i (ce p.a)) j (ce p.b)) → Pe K te σ2 B1 (y p)) : Pe K (tLc wi (gUnp K 2 (gCons (gName i) (gCons (gName j) gNil))) tYes te [i, j]) σ B (LL.mk (xs.map y)) :=
  (e_lcS (fun _ => true) y h hz fun p hp v B1 b1 hv => ⟨_, fun H Q e q => unp_pr hv e q, by rw [set_none_comm (by simp), set_none_comm (by simp), wipe_wipe], t_yes, fun _ => ht p hp _ B1 b1 ((((s.mono b1).wipe [i, j]).set i (x := p.a) (at_str.mpr rfl)).set j (x := p.b) (at_str.mpr rfl))⟩).is (by rw [List.filter_eq_self.mpr fun _ _ => rfl])
end
section
variable {K : PySem.W.Frag}
/-! ### is_name -/
abbrev sp_is_name (K : PySem.W.Frag) : Sp := Fn1 K (fun w : Str => w.length ≤ 1000000) nameS
def N_is_name : List Str := ["thing", "letter"]
def t_is_name (K : PySem.W.Frag) : TS :=
  (tSeq (tIfS (tOr (tNot (tB (tCB (rIsi K) (tCons (tVar 0) (tCons (tC (.ty "str")) tNil))))) (tNot (tTest (tChain (rLeU K) (rLeU K) (tC (.int 1)) (tCB (rLenU K) (tCons (tVar 0) tNil)) (tC (.int 6)))))) (tRet (tC (.bl false))) tNext)
    (tRet (tCB (rAll K) (tCons (tLc (iStr (tVar 0)) (gName 1) tYes (tOp (rInU K false) (tVar 1) (tC (.str "abcdefghijklmnopqrstuvwxyz"))) [1]) tNil))))
theorem l_is_name (vs : List V) (H : Hp) (Q : VK) (E : XK) (h : sp_is_name K vs H Q E) : vs.length = 1 := Fn1.len vs H Q E h
theorem r_is_name (vs : List V) (H : Hp) (Q : VK) (E : XK) (h : sp_is_name K vs H Q E) : t_is_name K (Ends.ret Q) (start N_is_name vs) H := by
  obtain ⟨w, B, hz, s, q⟩ := Fn1.st (E := E) h N_is_name
  replace s : St K [] B H [] [ce w, none] (start N_is_name vs) B H := s
  have hl := len_tl w
  have hsz : (charsS w).length ≤ 1000000 := by
    unfold charsS
    rw [List.length_map, Array.length_toList]
    exact hz
  have h1 : Ob.Pt (tNot (tB (tCB (rIsi K) (tCons (tVar 0) (tCons (tC (.ty "str")) tNil))))) (start N_is_name vs) B false := (t_not (t_B (e_isiD (x := DD.mk (.str w)) (c := "str") (b := true) "str" (e_dd (s.v (x := w) 0 rfl)) (by decide +kernel)))).is rfl
  obtain ⟨b, hb⟩ : ∃ b, b = (!DatumOrd.lt ((w.length : Nat) : Int) 1 && !DatumOrd.lt (6 : Int) ((w.length : Nat) : Int)) := ⟨_, rfl⟩
  have hbd : b = (decide (1 ≤ (tl w).length) && decide ((tl w).length ≤ 6)) := by
    rw [hb]
    show (!decide ((w.length : Int) < 1) && !decide ((6 : Int) < (w.length : Int))) = _
    rw [hl, ← decide_not, ← decide_not]
    congr 1
    · exact decide_eq_decide.mpr (by omega)
    · exact decide_eq_decide.mpr (by omega)
  refine s.ite (b := !b) ((t_or (a := false) h1 fun _ => t_not (t_test ((e_chain (K := K) (e_int (i := 1)) (e_lenS (s.v (x := w) 0 rfl) hz) (e_int (i := 6)) rd_le rd_le).is hb.symm))).is (Bool.false_or _)) (fun hc B1 H1 s1 => ?_) fun hc B1 H1 s1 => ?_
  · rw [Bool.not_eq_true'] at hc
    have hn : nameS w = false := by
      unfold nameS
      rw [← hbd, hc, Bool.false_and]
    exact St.ret (D := { Ends.ret Q with nx := _ }) (x := false) s1 e_bl fun v B2 H2 s2 hv => q v B2 H2 s2.toUp (by rw [hn]; exact hv)
  · rw [Bool.not_eq_false'] at hc
    have hn : ((charsS w).map fun c => inS c lettersS).all id = nameS w := by
      rw [List.all_map]
      show ((charsS w).all fun c => inS c lettersS) = _
      unfold nameS
      rw [charsS_all, ← hbd, hc, Bool.true_and]
    exact St.ret (D := Ends.ret Q) (x := nameS w) s1 ((e_all (s1.sl.lcA (j := 1) (fun c => inS c lettersS) (it_str (s1.v (x := w) 0 rfl)) hsz fun x hx σ2 B2 b2 s2 => e_inSt (s2.v (x := x) 1 rfl) e_str)).is hn) fun v B2 H2 s2 hv => q v B2 H2 s2.toUp hv
/-! ### names_text -/
abbrev sp_names_text (K : PySem.W.Frag) : Sp := Fn1 K (fun xs : Sq Str => sumL xs.items + xs.items.length ≤ 1000000) fun xs => pageN xs.items
def N_names_text : List Str := ["names"]
def t_names_text (K : PySem.W.Frag) : TS :=
  (tRet (tIf (tTest (tOp (rGtU K) (tCB (rLenU K) (tCons (tVar 0) tNil)) (tC (.int 0)))) (tJoinS K (tC (.str " ")) (tCB (rListU K) (tCons (tVar 0) tNil))) (tC (.str "-"))))
theorem l_names_text (vs : List V) (H : Hp) (Q : VK) (E : XK) (h : sp_names_text K vs H Q E) : vs.length = 1 := Fn1.len vs H Q E h
theorem r_names_text (vs : List V) (H : Hp) (Q : VK) (E : XK) (h : sp_names_text K vs H Q E) : t_names_text K (Ends.ret Q) (start N_names_text vs) H := by
  obtain ⟨⟨xs⟩, B, hz, s, q⟩ := Fn1.st (E := E) h N_names_text
  replace s : St K [] B H [] [ce (Sq.mk xs)] (start N_names_text vs) B H := s
  replace hz : sumL xs + xs.length ≤ 1000000 := hz
  refine St.ret (D := Ends.ret Q) (x := pageN xs) s ?_ fun v B2 H2 s2 hv => q v B2 H2 s2.toUp hv
  have ht : ∀ {B' : Hp}, Ex B B' → Ob.Pt (tTest (tOp (rGtU K) (tCB (rLenU K) (tCons (tVar 0) tNil)) (tC (.int 0)))) (start N_names_text vs) B' (decide (xs ≠ [])) := fun b => (t_test (e_gt (e_lenSq ((s.sl.mono b).v (x := Sq.mk xs) 0 rfl)) (e_int (i := 0)))).is (decide_eq_decide.mpr (by
    rw [← List.length_pos_iff]
    show (0 : Int) < (xs.length : Int) ↔ _
    omega))
  intro H1 e1 Q1 q1
  refine (ht (Ex.refl _)) H1 e1 _ fun B2 H2 u2 => ?_
  by_cases hx : xs = []
  · rw [decide_eq_false (fun z => z hx), if_neg (by decide)]
    exact (e_str (i := "-")) H2 u2.bh Q1 fun v B3 H3 u3 hv => q1 v B3 H3 (u2.trans u3) (by unfold pageN; rw [if_neg (fun z => z hx)]; exact hv)
  · rw [decide_eq_true hx, if_pos rfl]
    have hj : Pe K (tJoinS K (tC (.str " ")) (tCB (rListU K) (tCons (tVar 0) tNil))) (start N_names_text vs) B2 (Txt.join " " xs) := e_join e_str ((e_lstSq ((s.sl.mono u2.bb).v (x := Sq.mk xs) 0 rfl)).imp sq_list) (by
      rw [len_one, Nat.mul_one]
      show sumL xs + xs.length ≤ _
      omega)
    exact hj H2 u2.bh Q1 fun v B3 H3 u3 hv => q1 v B3 H3 (u2.trans u3) (by unfold pageN; rw [if_pos hx]; exact hv)
/-! ### panel_text -/
/-- a panel of names, not too long -/
structure PgP (p : Pan) : Prop where
  ne : p.sw ≠ []
  nm : ∀ x ∈ p.sw, nameS x = true
  ex : ∀ e ∈ p.ex, e.1 ∈ p.sw ∧ e.2 ∈ p.sw
  l1 : p.sw.length ≤ 1000
  l2 : p.ex.length ≤ 1000
theorem PgP.s1 {p : Pan} (g : PgP p) : sumL p.sw ≤ 6 * p.sw.length := sumL_le fun x hx => (name_len (g.nm x hx)).2
theorem PgP.s2 {p : Pan} (g : PgP p) : sumL (p.ex.map pw) ≤ 13 * p.ex.length := by
  have h := sumL_le (xs := p.ex.map pw) (n := 13) fun x hx => by
    obtain ⟨e, he, rfl⟩ := List.mem_map.mp hx
    exact pw_len (g.nm _ (g.ex e he).1) (g.nm _ (g.ex e he).2)
  rw [List.length_map] at h
  exact h
abbrev sp_panel_text (K : PySem.W.Frag) : Sp := Fn1 K PgP pageP
def N_panel_text : List Str := ["panel", "switches", "exclusions", "pairs", "one", "other"]
def t_panel_text (K : PySem.W.Frag) : TS :=
  (tSeq (tAsg (tVar 0) (gUnp K 2 (gCons (gName 1) (gCons (gName 2) gNil))))
    (tSeq (tAsg (tLc (iSeq K (tVar 2)) (gUnp K 2 (gCons (gName 4) (gCons (gName 5) gNil))) tYes (tJoinS K (tC (.str "-")) (tLst (tCons (tVar 4) (tCons (tVar 5) tNil)))) [4, 5]) (gName 3))
    (tRet (tJoinS K (tC (.str " ")) (tLst (tCons (tCall (sp_names_text K) [] E0 (tCons (tVar 1) tNil)) (tCons (tC (.str "/")) (tCons (tCall (sp_names_text K) [] E0 (tCons (tVar 3) tNil)) tNil))))))))
theorem l_panel_text (vs : List V) (H : Hp) (Q : VK) (E : XK) (h : sp_panel_text K vs H Q E) : vs.length = 1 := Fn1.len vs H Q E h
theorem r_panel_text (vs : List V) (H : Hp) (Q : VK) (E : XK) (h : sp_panel_text K vs H Q E) : t_panel_text K (Ends.ret Q) (start N_panel_text vs) H := by
  obtain ⟨p, B, g, s, q⟩ := Fn1.st (E := E) h N_panel_text
  have l1 := g.l1
  have l2 := g.l2
  have h1 := g.s1
  have h2 := g.s2
  replace s : St K [] B H [] [ce p, none, none, none, none, none] (start N_panel_text vs) B H := s
  refine s.unpPan (p := p) (s.v (x := p) 0 rfl) fun σ1 B1 H1 s1 => ?_
  replace s1 : St K [] B H [] [ce p, ce (Sq.mk p.sw), ce (Sq.mk (prs p.ex)), none, none, none] σ1 B1 H1 := s1
  have hlc : Pe K (tLc (iSeq K (tVar 2)) (gUnp K 2 (gCons (gName 4) (gCons (gName 5) gNil))) tYes (tJoinS K (tC (.str "-")) (tLst (tCons (tVar 4) (tCons (tVar 5) tNil)))) [4, 5]) σ1 B1 (p.ex.map pw) := by
    have h0 := s1.sl.lcPr87 (i := 4) (j := 5) (fun r : Pr => pw (r.a, r.b)) (it_sq (s1.v (x := Sq.mk (prs p.ex)) 2 rfl)) (by unfold prs; rw [List.length_map]; omega) fun r hr σ2 B2 b2 s2 => (e_join (x := "-") e_str ((e_lst2 (s2.v (x := r.a) 4 rfl) (s2.v (x := r.b) 5 rfl)).imp sq_list) (by
      obtain ⟨e, he, rfl⟩ := List.mem_map.mp (show r ∈ p.ex.map fun p => Pr.mk p.1 p.2 from hr)
      have n1 := (name_len (g.nm _ (g.ex e he).1)).2
      have n2 := (name_len (g.nm _ (g.ex e he).2)).2
      show e.1.length + (e.2.length + 0) + 2 * ("-" : Str).length ≤ _
      rw [show ("-" : Str).length = 1 by rw [len_tl, tl_hy]; rfl]
      omega)).is (join_two r.a r.b)
    have h3 := h0.imp ll_list
    rw [show (prs p.ex).map (fun r : Pr => pw (r.a, r.b)) = p.ex.map pw by
      unfold prs
      rw [List.map_map]
      rfl] at h3
    exact h3
  refine s1.set (x := p.ex.map pw) hlc fun σ2 B2 H2 s2 => ?_
  replace s2 : St K [] B H [] [ce p, ce (Sq.mk p.sw), ce (Sq.mk (prs p.ex)), ce (p.ex.map pw), none, none] σ2 B2 H2 := s2
  have hsw : pageN p.sw = Txt.join " " p.sw := by
    unfold pageN
    rw [if_pos g.ne]
  have hpl := pageP_len g.nm g.ex
  have n1 := pageN_len (xs := p.ex.map pw) (n := 13) (by decide) fun x hx => by
    obtain ⟨e, he, rfl⟩ := List.mem_map.mp hx
    exact pw_len (g.nm _ (g.ex e he).1) (g.nm _ (g.ex e he).2)
  have n2 := pageN_len (xs := p.sw) (n := 6) (by decide) fun x hx => (name_len (g.nm x hx)).2
  rw [List.length_map] at n1
  refine St.ret (D := Ends.ret Q) (x := pageP p) s2 (Pe.is (e_join e_str ((e_lstW (xs := [pageN p.sw, "/", pageN (p.ex.map pw)]) (.cons (e_call1 (x := Sq.mk p.sw) (f := fun xs : Sq Str => pageN xs.items) (s2.v (x := Sq.mk p.sw) 1 rfl) (by show sumL p.sw + p.sw.length ≤ _; omega)) (.cons e_str (.cons (e_call1 (x := Sq.mk (p.ex.map pw)) (f := fun xs : Sq Str => pageN xs.items) ((s2.v (x := p.ex.map pw) 3 rfl).imp sq_list) (by show sumL (p.ex.map pw) + (p.ex.map pw).length ≤ _; rw [List.length_map]; omega)) .nil))) (by show 3 ≤ 1000000; decide)).imp sq_list) (by
    rw [len_one]
    show (pageN p.sw).length + (("/" : Str).length + ((pageN (p.ex.map pw)).length + 0)) + 3 * 1 ≤ _
    rw [show ("/" : Str).length = 1 by rw [len_tl, tl_sl]; rfl]
    omega)) (by rw [hsw]; exact pageP_three p)) fun v B3 H3 s3 hv => q v B3 H3 s3.toUp hv
theorem e_addStr {σ : L2.St} {B : Hp} {ta tb : TE} {x y : Str} (ha : Pe K ta σ B x) (hb : Pe K tb σ B y) (hz : x.length + y.length ≤ 1000000) : Pe K (tOp (rAddU K) ta tb) σ B (x ++ y) :=
  e_op ha hb (rd_val (.str (x ++ y)) (fun _ => at_str.mpr rfl) fun B H v w e h1 h2 Q q => .inr (.inl ⟨x, y, at_str.mp h1, at_str.mp h2, by rw [sizeLine_eq]; omega, q⟩))
/-! ### _law_page -/
abbrev sp_Lpage (K : PySem.W.Frag) : Sp := Fn1 K PgP pageP
def N_Lpage : List Str := ["_law_wired_here", "_law_pairs", "_law_name", "_law_mate"]
def t_Lpage (K : PySem.W.Frag) : TS :=
  (tSeq (tAsg (tIf (tTest (tOp (rGtU K) (tCB (rLenU K) (tCons (tOp (rIxU K) (tVar 0) (tC (.int 1))) tNil)) (tC (.int 0)))) (tJoinS K (tC (.str " ")) (tLc (iSeq K (tOp (rIxU K) (tVar 0) (tC (.int 1)))) (gUnp K 2 (gCons (gName 2) (gCons (gName 3) gNil))) tYes (tOp (rAddU K) (tOp (rAddU K) (tVar 2) (tC (.str "-"))) (tVar 3)) [2, 3])) (tC (.str "-"))) (gName 1))
    (tRet (tOp (rAddU K) (tOp (rAddU K) (tJoinS K (tC (.str " ")) (tCB (rListU K) (tCons (tOp (rIxU K) (tVar 0) (tC (.int 0))) tNil))) (tC (.str " / "))) (tVar 1))))
theorem l_Lpage (vs : List V) (H : Hp) (Q : VK) (E : XK) (h : sp_Lpage K vs H Q E) : vs.length = 1 := Fn1.len vs H Q E h
theorem len_hy : ("-" : Str).length = 1 := by rw [len_tl, tl_hy]; rfl
theorem len_ssl : (" / " : Str).length = 3 := by rw [len_tl, tl_ssl]; rfl
theorem r_Lpage (vs : List V) (H : Hp) (Q : VK) (E : XK) (h : sp_Lpage K vs H Q E) : t_Lpage K (Ends.ret Q) (start N_Lpage vs) H := by
  obtain ⟨p, B, g, s, q⟩ := Fn1.st (E := E) h N_Lpage
  have l1 := g.l1
  have l2 := g.l2
  have h1 := g.s1
  have h2 := g.s2
  have n1 := pageN_len (xs := p.ex.map pw) (n := 13) (by decide) fun x hx => by
    obtain ⟨e, he, rfl⟩ := List.mem_map.mp hx
    exact pw_len (g.nm _ (g.ex e he).1) (g.nm _ (g.ex e he).2)
  rw [List.length_map] at n1
  replace s : St K [] B H [] [ce p, none, none, none] (start N_Lpage vs) B H := s
  refine s.set (i := 1) (x := pageN (p.ex.map pw)) (e_if (b := decide (p.ex ≠ [])) ((t_test (e_gt (e_lenSq (e_ex (s.v (x := p) 0 rfl))) (e_int (i := 0)))).is (decide_eq_decide.mpr (by
    rw [← List.length_pos_iff]
    show (0 : Int) < ((prs p.ex).length : Int) ↔ _
    unfold prs
    rw [List.length_map]
    omega))) (fun hb => ?_) fun hb => ?_) fun σ1 B1 H1 s1 => ?_
  · have hx : p.ex ≠ [] := of_decide_eq_true hb
    have h0 := s.sl.lcPr87 (te := tOp (rAddU K) (tOp (rAddU K) (tVar 2) (tC (.str "-"))) (tVar 3)) (i := 2) (j := 3) (fun r : Pr => pw (r.a, r.b)) (it_sq (e_ex (s.v (x := p) 0 rfl))) (by unfold prs; rw [List.length_map]; omega) fun r hr σ2 B2 b2 s2 => by
      obtain ⟨e, he, rfl⟩ := List.mem_map.mp (show r ∈ p.ex.map fun p => Pr.mk p.1 p.2 from hr)
      have n1 := (name_len (g.nm _ (g.ex e he).1)).2
      have n2 := (name_len (g.nm _ (g.ex e he).2)).2
      have n3 : (e.1 ++ "-").length = e.1.length + 1 := by rw [len_tl, tl_append, List.length_append, ← len_tl, tl_hy]; rfl
      exact e_addStr (e_addStr (s2.v (x := e.1) 2 rfl) e_str (by show e.1.length + ("-" : Str).length ≤ _; rw [len_hy]; omega)) (s2.v (x := e.2) 3 rfl) (by show (e.1 ++ "-").length + e.2.length ≤ _; rw [n3]; omega)
    have h3 := h0.imp ll_list
    rw [show (prs p.ex).map (fun r : Pr => pw (r.a, r.b)) = p.ex.map pw by
      unfold prs
      rw [List.map_map]
      rfl] at h3
    exact (e_join e_str (h3.imp sq_list) (by
      rw [len_one]
      show sumL (p.ex.map pw) + (p.ex.map pw).length * 1 ≤ _
      rw [List.length_map]
      omega)).is (by
      unfold pageN
      rw [if_pos fun z => hx (List.map_eq_nil_iff.mp z)])
  · have hx : p.ex = [] := Classical.not_not.mp (of_decide_eq_false hb)
    exact e_str.is (by rw [hx]; rfl)
  replace s1 : St K [] B H [] [ce p, ce (pageN (p.ex.map pw)), none, none] σ1 B1 H1 := s1
  have jl := join_len " " p.sw
  rw [len_one, Nat.mul_one] at jl
  have hj : Pe K (tJoinS K (tC (.str " ")) (tCB (rListU K) (tCons (tOp (rIxU K) (tVar 0) (tC (.int 0))) tNil))) σ1 B1 (Txt.join " " p.sw) := e_join e_str ((e_lstSq (e_sw (s1.v (x := p) 0 rfl))).imp sq_list) (by
    rw [len_one, Nat.mul_one]
    show sumL p.sw + p.sw.length ≤ _
    omega)
  have n3 : (Txt.join " " p.sw ++ " / ").length = (Txt.join " " p.sw).length + 3 := by rw [len_tl, tl_append, List.length_append, ← len_tl, tl_ssl]; rfl
  exact St.ret (D := Ends.ret Q) (x := pageP p) s1 (e_addStr (e_addStr hj e_str (by rw [len_ssl]; omega)) (s1.v (x := pageN (p.ex.map pw)) 1 rfl) (by rw [n3]; omega)) fun v B3 H3 s3 hv => q v B3 H3 s3.toUp hv
/-! ### _law_is_name -/
abbrev sp_Lis_name (K : PySem.W.Frag) : Sp := Fn1 K (fun w : Str => w.length ≤ 1000000) nameS
def N_Lis_name : List Str := ["_law_word"]
def t_Lis_name (K : PySem.W.Frag) : TS :=
  (tRet (tAndV (tChain (rLtU K) (rLtU K) (tC (.int 0)) (tCB (rLenU K) (tCons (tVar 0) tNil)) (tC (.int 7))) (tAndV (tOp (rEqP K) (tStripC (tVar 0) (tC (.str "abcdefghijklmnopqrstuvwxyz"))) (tC (.str ""))) (tIsLower (tVar 0)))))
theorem l_Lis_name (vs : List V) (H : Hp) (Q : VK) (E : XK) (h : sp_Lis_name K vs H Q E) : vs.length = 1 := Fn1.len vs H Q E h
theorem r_Lis_name (vs : List V) (H : Hp) (Q : VK) (E : XK) (h : sp_Lis_name K vs H Q E) : t_Lis_name K (Ends.ret Q) (start N_Lis_name vs) H := by
  obtain ⟨w, B, hz, s, q⟩ := Fn1.st (E := E) h N_Lis_name
  replace s : St K [] B H [] [ce w] (start N_Lis_name vs) B H := s
  refine St.ret (D := Ends.ret Q) (x := nameS w) s (Pe.is (e_andV (e_chain (K := K) (e_int (i := 0)) (e_lenS (s.v (x := w) 0 rfl) hz) (e_int (i := 7)) rd_lt rd_lt) fun _ => e_andV (e_eq (e_stripC (s.v (x := w) 0 rfl) (e_str (i := lettersS)) (by omega)) e_str) fun _ => e_isLower (s.v (x := w) 0 rfl)) (law_name w)) fun v B2 H2 s2 hv => q v B2 H2 s2.toUp hv
/-! ### _law_names_of -/
theorem wrong_enum (ws : List Str) : ((enumI ws).filter fun c => !nameS c.2).map (fun c => c.1) = wrongL 0 ws := by
  have key : ∀ (ws : List Str) (k : Nat), (((ws.zipIdx k).map fun p => ((p.2 : Int), p.1)).filter fun c : Int × Str => !nameS c.2).map (fun c => c.1) = wrongL (k : Int) ws := fun ws => by
    induction ws with
    | nil => intro k; rfl
    | cons w r ih =>
      intro k
      rw [List.zipIdx_cons, List.map_cons, List.filter_cons]
      show (if (!nameS w) = true then _ else _ : List (Int × Str)).map _ = (if nameS w = true then wrongL ((k : Int) + 1) r else (k : Int) :: wrongL ((k : Int) + 1) r)
      have := ih (k + 1)
      rw [show ((k + 1 : Nat) : Int) = (k : Int) + 1 from rfl] at this
      by_cases h : nameS w = true
      · rw [if_neg (by rw [h]; decide), if_pos h]
        exact this
      · rw [if_pos (by rw [Bool.eq_false_iff.mpr h]; rfl), if_neg h, List.map_cons]
        rw [this]
  exact key ws 0
theorem word_small {x y w : Str} (hy : tl y ≠ []) (hk : y.cps.all (· < 256) = true) (h : w ∈ Txt.split x y) : w.length ≤ x.length := Nat.le_trans (sumL_mem h) (split_sum x hy hk).1
abbrev sp_Lnames_of (K : PySem.W.Frag) : Sp := Fn1 K (fun x : Str => x.length ≤ 100000) fun x => DD.mk (outN (Txt.split x " "))
def N_Lnames_of : List Str := ["_law_page_here", "_law_words", "_law_wrong", "_law_at", "_law_word"]
def t_Lnames_of (K : PySem.W.Frag) : TS :=
  (tSeq (tIfS (tTest (tOp (rEqP K) (tVar 0) (tC (.str "-")))) (tRet (tLst tNil)) tNext)
    (tSeq (tAsg (tSplit (tVar 0) (tC (.str " "))) (gName 1))
    (tSeq (tAsg (tLc (iEnum K (tCons (tVar 1) tNil)) (gUnp K 2 (gCons (gName 3) (gCons (gName 4) gNil))) (tNot (tB (tCall (sp_Lis_name K) [] E0 (tCons (tVar 4) tNil)))) (tVar 3) [3, 4]) (gName 2))
    (tRet (tIf (tTest (tOp (rEqP K) (tVar 2) (tLst tNil))) (tVar 1) (tOp (rIxU K) (tVar 2) (tC (.int 0))))))))
theorem l_Lnames_of (vs : List V) (H : Hp) (Q : VK) (E : XK) (h : sp_Lnames_of K vs H Q E) : vs.length = 1 := Fn1.len vs H Q E h
theorem r_Lnames_of (vs : List V) (H : Hp) (Q : VK) (E : XK) (h : sp_Lnames_of K vs H Q E) : t_Lnames_of K (Ends.ret Q) (start N_Lnames_of vs) H := by
  obtain ⟨x, B, hz, s, q⟩ := Fn1.st (E := E) h N_Lnames_of
  obtain ⟨z1, z2, z3⟩ := split_sum x sp_ne k_sp
  obtain ⟨ws, hws⟩ : ∃ ws, ws = Txt.split x " " := ⟨_, rfl⟩
  have hw : ∀ w ∈ ws, w.length ≤ 1000000 := fun w hw => by
    have := word_small sp_ne k_sp (hws ▸ hw)
    omega
  replace s : St K [] B H [] [ce x, none, none, none, none] (start N_Lnames_of vs) B H := s
  replace hz : x.length ≤ 100000 := hz
  refine s.ite (b := decide (x = "-")) (t_test (e_eq (s.v (x := x) 0 rfl) e_str)) (fun hb B1 H1 s1 => ?_) fun hb B1 H1 s1 => ?_
  · have hx : x = "-" := of_decide_eq_true hb
    exact St.ret (D := { Ends.ret Q with nx := _ }) (x := ([] : List Str)) s1 e_lst0 fun v B2 H2 s2 hv => q v B2 H2 s2.toUp (by
      show Rep.at_ K B2 v (DD.mk (outN (Txt.split x " ")))
      unfold outN
      rw [if_pos (split_hy.mpr hx)]
      exact hv)
  · have hx : ¬ x = "-" := of_decide_eq_false hb
    have hne : ws ≠ (["-"] : List Str) := fun z => hx (split_hy.mp (hws ▸ z))
    show tSeq _ _ _ _ _
    refine s1.set (i := 1) (x := ws) (hws ▸ e_split (s1.v (x := x) 0 rfl) e_str (by rw [len_one]; rfl) (by omega)) fun σ2 B2 H2 s2 => ?_
    replace s2 : St K [] B H [] [ce x, ce ws, none, none, none] σ2 B2 H2 := s2
    refine s2.set (i := 2) (x := wrongL 0 ws) ((s2.sl.lc2 (i := 3) (j := 4) (fun c : Int × Str => !nameS c.2) (fun c : Int × Str => c.1) (it_enumL (s2.v (x := ws) 1 rfl)) (by rw [enumI_len, hws]; omega) fun c hc σ3 B3 b3 s3 => ⟨t_not (t_B (e_call1 (x := c.2) (pre := fun w : Str => w.length ≤ 1000000) (f := nameS) (s3.v (x := c.2) 4 rfl) (hw _ (by
      obtain ⟨i, hi⟩ := List.getElem?_of_mem hc
      unfold enumI at hi
      rw [List.getElem?_map, List.getElem?_zipIdx] at hi
      cases hq : ws[i]? with
      | none => rw [hq] at hi; cases hi
      | some w =>
        rw [hq] at hi
        cases hi
        exact List.mem_of_getElem? hq)))), fun _ => s3.v (x := c.1) 3 rfl⟩).is (wrong_enum ws)) fun σ3 B3 H3 s3 => ?_
    replace s3 : St K [] B H [] [ce x, ce ws, ce (wrongL 0 ws), none, none] σ3 B3 H3 := s3
    have hf := wrong_first ws 0
    have hout : outN (Txt.split x " ") = match firstBad 0 ws with
        | some k => .int (k : Int)
        | none => Datum.toD ws := by
      unfold outN
      rw [← hws, if_neg hne]
      all_goals rfl
    refine St.ret (D := Ends.ret Q) (x := DD.mk (outN (Txt.split x " "))) s3 (e_if (b := decide (wrongL 0 ws = [])) (t_test (e_eq (s3.v (x := wrongL 0 ws) 2 rfl) e_lst0)) (fun hc => ?_) fun hc => ?_) fun v B4 H4 s4 hv => q v B4 H4 s4.toUp hv
    · have hc' := of_decide_eq_true hc
      rw [show ((0 : Nat) : Int) = 0 from rfl, hc'] at hf
      cases hq : firstBad 0 ws with
      | some k => rw [hq] at hf; cases hf
      | none =>
        rw [hout, hq]
        exact e_dd (s3.v (x := ws) 1 rfl)
    · have hc' := of_decide_eq_false hc
      rw [show ((0 : Nat) : Int) = 0 from rfl] at hf
      cases hq : firstBad 0 ws with
      | none =>
        rw [hq] at hf
        exact absurd (List.head?_eq_none_iff.mp hf) hc'
      | some k =>
        rw [hout, hq]
        rw [hq] at hf
        exact e_dd (e_ixL (x := (k : Int)) (s3.v (x := wrongL 0 ws) 2 rfl) (e_int (i := 0)) (atI_nat (by decide) (by show (wrongL 0 ws)[0]? = _; rw [← List.head?_eq_getElem?]; exact hf)))
end
end Ob
set_option Elab.async false
set_option linter.all false
set_option maxRecDepth 100000
set_option maxHeartbeats 4000000
/-! Ni: names_in, as its ordinary self (a list that nobody else holds), and raising (k87). -/
namespace Ob
open PySem L2 TL
open Evl (Ex)
open PySem.W (Datum Tup DatumOrd)
theorem enum_at87 {α : Type} [DecidableEq α] [Datum α] {xs : List α} {j : Int} {x : α} {done rest : List (Int × α)} (h : enumI xs = done ++ (j, x) :: rest) : j = (done.length : Int) ∧ xs[done.length]? = some x ∧ done.map (·.2) = xs.take done.length := by
  have e1 : (enumI xs).map (·.2) = xs := by
    unfold enumI
    rw [List.map_map]
    exact List.zipIdx_map_fst 0 xs
  have hlt : done.length < (enumI xs).length := by rw [h]; simp
  have h1 : (enumI xs)[done.length]? = some (j, x) := by rw [h]; simp
  have e2 : xs[done.length]? = some x := by
    have := congrArg (fun l => l[done.length]?) e1
    simp only [List.getElem?_map, h1, Option.map_some] at this
    exact this.symm
  have h2 := enumI_get e2
  rw [h1] at h2
  injection h2 with h3
  injection h3 with h4 _
  refine ⟨h4, e2, ?_⟩
  have e3 : xs = done.map (·.2) ++ (x :: rest.map (·.2)) := by
    rw [← e1, h, List.map_append, List.map_cons]
  rw [e3, List.take_left' (by rw [List.length_map])]
theorem up_cut87 {B H B2 H2 : Hp} {l : Addr} (u : Up B H B2 H2) (hb : B l = none) : Up B H (cutH B2 l) H2 := by
  refine ⟨fun a z hz => ?_, fun a z hz => ?_, u.hh, fun a ha => ?_⟩
  · have ne : a ≠ l := fun k => by rw [k, hb] at hz; cases hz
    rw [cutH_ne ne]
    exact u.bb a z hz
  · by_cases ne : a = l
    · rw [ne, cutH_same] at hz
      cases hz
    · rw [cutH_ne ne] at hz
      exact u.bh a z hz
  · by_cases ne : a = l
    · rw [ne, cutH_same] at ha
      exact absurd rfl ha
    · rw [cutH_ne ne] at ha
      exact u.nw a ha
theorem up_free87 {B H B2 H2 : Hp} {p : Addr} {o : HO} (u : Up B H B2 H2) (hp : H2 p = none) : Up B H B2 (upd H2 p o) ∧ B2 p = none ∧ H p = none := by
  have hb : B2 p = none := Evl.fresh_back u.bh hp
  refine ⟨⟨u.bb, fun a z hz => ?_, fun a z hz => ?_, u.nw⟩, hb, Evl.fresh_back u.hh hp⟩
  · have ne : a ≠ p := fun k => by rw [k, hb] at hz; cases hz
    rw [upd_ne ne]
    exact u.bh a z hz
  · have h3 := u.hh a z hz
    have ne : a ≠ p := fun k => by rw [k, hp] at h3; cases h3
    rw [upd_ne ne]
    exact h3
section
variable {K : PySem.W.Frag}
theorem nm_core {ts : TS} {Q : VK} {x : Str} {l : Addr} {us : List V} {ws : List Str} {B1 H1 : Hp} {σ : L2.St} (s : St K [] B1 H1 [] [ce x, ca l, none, none] σ B1 H1) (hl : B1 l = some (.lst us)) (hA : AtAll K B1 us ws) (hz : ws.length ≤ 1000000) (hw : ∀ w ∈ ws, w.length ≤ 1000000)
    (bad : ws ≠ (["-"] : List Str) → ∀ (k : Nat) (w : Str), firstBad 0 ws = some k → ∀ (D : Ends) (σ' : L2.St) (B' H' B2 H2 : Hp), Up B1 H1 B' H' → St K [] B' H' [] [ce x, ca l, ce (k : Int), ce w] σ' B2 H2 → ts D σ' H2)
    (em : ws = (["-"] : List Str) → ∀ l' B2 H2, Up B1 H1 B2 H2 → B2 l' = none → H1 l' = none → H2 l' = some (.lst []) → Q (.ref l') H2)
    (ok : ws ≠ (["-"] : List Str) → firstBad 0 ws = none → ∀ B2 H2, Up B1 H1 B2 H2 → Q (.ref l) H2) :
    (tSeq (tIfS (tTest (tOp (rEqP K) (tVar 1) (tLst (tCons (tC (.str "-")) tNil)))) (tRet (tLst tNil)) tNext)
    (tSeq (tFor (iEnum K (tCons (tVar 1) tNil)) (gUnp K 2 (gCons (gName 2) (gCons (gName 3) gNil))) (tIfS (tNot (tB (tCall (sp_is_name K) [] E0 (tCons (tVar 3) tNil)))) ts tNext))
    (tRet (tVar 1)))) (Ends.ret Q) σ H1 := by
  have hv : ∀ {σ : L2.St} {Γ : List (Option Cell)} {B' : Hp}, Slots K B' σ Γ → cg Γ 1 = ca l → Ex B1 B' → Pe K (tVar 1) σ B' ws := fun sl h b => e_var (sl.rf 1 h) (Rep.mono b (at_list.mpr ⟨l, us, rfl, Evl.sq_of hl, hA⟩))
  refine s.ite (b := decide (ws = (["-"] : List Str))) (t_test (e_eq (hv s.sl rfl (Ex.refl _)) (e_lst1 e_str))) (fun hb B2 H2 s2 => ?_) fun hb B2 H2 s2 => ?_
  · show tNil σ H2 (fun vs H3 => vs.length ≤ sizeLine ∧ ∀ p, H3 p = none → Q (.ref p) (upd H3 p (.lst vs)))
    refine ⟨Nat.zero_le _, fun p hp => ?_⟩
    obtain ⟨u, hb2, hh⟩ := up_free87 (o := .lst []) s2.toUp hp
    exact em (of_decide_eq_true hb) p B2 _ u hb2 hh upd_same
  · have hne : ws ≠ (["-"] : List Str) := of_decide_eq_false hb
    show tSeq _ _ _ _ _
    refine s2.qforG (δ := Unit) (it_enumL (hv s2.sl rfl s2.bb)) (fun _ _ => []) (fun _ _ => [ce x, ca l, none, none]) (fun done _ => ∀ w ∈ done.map (·.2), nameS w = true) ⟨(), fun w hw => absurd hw (by simp), fun _ _ s3 => s3⟩ (fun done c rest _ ex hP v σ' B' H' N hN s3 hv2 => ?_) fun _ hP σ3 B3 H3 s3 => ?_
    · obtain ⟨j, w⟩ := c
      obtain ⟨ej, hget, htk⟩ := enum_at87 ex
      obtain ⟨a0, v1, v2, rfl, hs, k1, k2⟩ := at_pair.mp hv2
      refine .inl ⟨a0, _, rfl, ex_tx s3.bh hs, rfl, _, _, rfl, _, _, rfl, rfl, ?_⟩
      have s4 : St K [] B' H' [] [ce x, ca l, ce j, ce w] ((σ'.set 2 (some v1)).set 3 (some v2)) B' H' := (s3.here.put 2 k1).put 3 k2
      have hwm : w ∈ ws := List.mem_of_getElem? hget
      refine s4.iteL (b := !nameS w) (t_not (t_B (e_call1 (x := w) (pre := fun w : Str => w.length ≤ 1000000) (f := nameS) (s4.v (x := w) 3 rfl) (hw w hwm)))) (fun hb B5 H5 s5 => ?_) fun hb B5 H5 s5 => ?_
      · rw [Bool.not_eq_true'] at hb
        have hsp : ws = done.map (·.2) ++ w :: ws.drop (done.length + 1) := by
          have hlt := (List.getElem?_eq_some_iff.mp hget).1
          have hw2 : ws[done.length] = w := (List.getElem?_eq_some_iff.mp hget).2
          rw [htk, ← hw2, ← List.drop_eq_getElem_cons hlt, List.take_append_drop]
        subst ej
        exact bad hne done.length w (by rw [hsp, firstBad_app hP hb, List.length_map, Nat.zero_add]) _ _ B' H' B5 H5 (s3.toUp) s5
      · rw [Bool.not_eq_false'] at hb
        exact hN () (B3 := B5) (fun y hy => by
          rw [List.map_append, List.mem_append] at hy
          rcases hy with hy | hy
          · exact hP y hy
          · rw [List.mem_singleton.mp hy]; exact hb) (s5.fg [2, 3])
    · have hall : firstBad 0 ws = none := firstBad_none fun w hw => hP w (by
        have e1 : (enumI ws).map (·.2) = ws := by
          unfold enumI
          rw [List.map_map]
          exact List.zipIdx_map_fst 0 ws
        rw [e1]
        exact hw)
      exact St.ret (D := Ends.ret Q) (x := Any.mk (.ref l)) s3 (e_var (s3.sl.rf 1 rfl) rfl) fun v B4 H4 s4 hv => by
        cases (show v = .ref l from hv)
        exact ok hne hall B4 H4 s4.toUp
/-! ### the ordinary one -/
def wordsI (x : Str) : List Str := if Txt.split x " " = (["-"] : List Str) then [] else Txt.split x " "
def NmI (x : Str) : Prop := x.length ≤ 100000 ∧ (Txt.split x " " ≠ (["-"] : List Str) → firstBad 0 (Txt.split x " ") = none)
abbrev sp_names_inF (K : PySem.W.Frag) : Sp := FnF1 K NmI wordsI
def N_names_inF : List Str := ["text", "words", "at", "word"]
def t_names_inF (K : PySem.W.Frag) : TS :=
  (tSeq (tAsg (tSplit (tVar 0) (tC (.str " "))) (gName 1))
    (tSeq (tIfS (tTest (tOp (rEqP K) (tVar 1) (tLst (tCons (tC (.str "-")) tNil)))) (tRet (tLst tNil)) tNext)
    (tSeq (tFor (iEnum K (tCons (tVar 1) tNil)) (gUnp K 2 (gCons (gName 2) (gCons (gName 3) gNil))) (tIfS (tNot (tB (tCall (sp_is_name K) [] E0 (tCons (tVar 3) tNil)))) tNever tNext))
    (tRet (tVar 1)))))
theorem l_names_inF (vs : List V) (H : Hp) (Q : VK) (E : XK) (h : sp_names_inF K vs H Q E) : vs.length = 1 := FnF1.len vs H Q E h
theorem r_names_inF (vs : List V) (H : Hp) (Q : VK) (E : XK) (h : sp_names_inF K vs H Q E) : t_names_inF K (Ends.ret Q) (start N_names_inF vs) H := by
  obtain ⟨x, B, ⟨hz, hg⟩, s, q⟩ := FnF1.st (E := E) h N_names_inF
  replace s : St K [] B H [] [ce x, none, none, none] (start N_names_inF vs) B H := s
  obtain ⟨z1, z2, z3⟩ := split_sum x sp_ne k_sp
  refine (f_split (s.v (x := x) 0 rfl) e_str (by rw [len_one]; rfl) (by omega)) H s.bh _ fun l us B1 H1 u hb hh hl hA => ?_
  have u2 := up_lst u hb hh hl
  have s1 : St K [] (upd B1 l (.lst us)) H1 [] [ce x, ca l, none, none] ((start N_names_inF vs).set 1 (some (.ref l))) (upd B1 l (.lst us)) H1 := St.put (x := Any.mk (.ref l)) (St.pure u2.bh (s.sl.mono u2.bb)) 1 rfl
  refine nm_core s1 upd_same (AtAll.mono (Ex.new hb) hA) (by omega) (fun w hw => by have := word_small sp_ne k_sp hw; omega) (fun hne k w hk => ?_) (fun he l' B2 H2 u3 hb2 hh2 hl2 => ?_) fun hne hn B2 H2 u3 => ?_
  · rw [hg hne] at hk
    cases hk
  · refine q l' [] B2 H2 (u2.trans u3) hb2 ?_ hl2 (by unfold wordsI; rw [if_pos he]; exact .nil)
    exact Evl.fresh_back u.hh hh2
  · have h1 : B2 l = some (.lst us) := u3.bb _ _ upd_same
    exact q l us (cutH B2 l) H2 (up_cut87 (u2.trans u3) (Evl.fresh_back s.bh hh)) cutH_same hh (u3.bh _ _ h1) (by
      rw [strs_vals hA]
      unfold wordsI
      rw [if_neg hne]
      exact atAll_strS)
/-! ### raising -/
noncomputable def sp_names_inXF (K : PySem.W.Frag) : Sp := fun vs H Q E => ∃ (x : Str) (B : Hp), Ex B H ∧ RCons K x RNil vs B ∧ x.length ≤ 100000 ∧
  ((∀ k, outN (Txt.split x " ") ≠ .int k) → ∀ v B2 H2, Up B H B2 H2 → Rep.at_ K B2 v (DD.mk (outN (Txt.split x " "))) → Q v H2) ∧
  (∀ k, outN (Txt.split x " ") = .int k → ∀ d v B2 H2, Up B H B2 H2 → B2 d = some (.xd [("at", v)]) → Rep.at_ K B2 v k → E (.ref (cBad K)) (some d) H2)
def N_names_inXF : List Str := ["text", "words", "at", "word"]
def t_names_inXF (K : PySem.W.Frag) (E : XK) : TS :=
  (tSeq (tAsg (tSplit (tVar 0) (tC (.str " "))) (gName 1))
    (tSeq (tIfS (tTest (tOp (rEqP K) (tVar 1) (tLst (tCons (tC (.str "-")) tNil)))) (tRet (tLst tNil)) tNext)
    (tSeq (tFor (iEnum K (tCons (tVar 1) tNil)) (gUnp K 2 (gCons (gName 2) (gCons (gName 3) gNil))) (tIfS (tNot (tB (tCall (sp_is_name K) [] E0 (tCons (tVar 3) tNil)))) (tRaiseNs (He.ga K "BadText") "at" E (tCons (tVar 2) tNil)) tNext))
    (tRet (tVar 1)))))
theorem l_names_inXF (vs : List V) (H : Hp) (Q : VK) (E : XK) (h : sp_names_inXF K vs H Q E) : vs.length = 1 := by
  obtain ⟨_, _, _, ⟨v, _, rfl, h1, rfl⟩, _⟩ := h
  rfl
theorem r_names_inXF (vs : List V) (H : Hp) (Q : VK) (E : XK) (h : sp_names_inXF K vs H Q E) : t_names_inXF K E (Ends.ret Q) (start N_names_inXF vs) H := by
  obtain ⟨x, B, e, ⟨v, _, rfl, k1, rfl⟩, hz, qt, qb⟩ := h
  have s : St K [] B H [] [ce x, none, none, none] (start N_names_inXF [v]) B H := St.pure e (start_slots [v] [ce x] 3 (.cons (At1.some k1) .nil))
  obtain ⟨z1, z2, z3⟩ := split_sum x sp_ne k_sp
  refine (f_split (s.v (x := x) 0 rfl) e_str (by rw [len_one]; rfl) (by omega)) H s.bh _ fun l us B1 H1 u hb hh hl hA => ?_
  have u2 := up_lst u hb hh hl
  have s1 : St K [] (upd B1 l (.lst us)) H1 [] [ce x, ca l, none, none] ((start N_names_inXF [v]).set 1 (some (.ref l))) (upd B1 l (.lst us)) H1 := St.put (x := Any.mk (.ref l)) (St.pure u2.bh (s.sl.mono u2.bb)) 1 rfl
  refine nm_core s1 upd_same (AtAll.mono (Ex.new hb) hA) (by omega) (fun w hw => by have := word_small sp_ne k_sp hw; omega) (fun hne k w hk D σ' B' H' B2 H2 u3 s3 => ?_) (fun he l' B2 H2 u3 hb2 hh2 hl2 => ?_) fun hne hn B2 H2 u3 => ?_
  · have ho : outN (Txt.split x " ") = .int (k : Int) := by
      unfold outN
      rw [if_neg hne, hk]
    exact St.raiseG (z := (k : Int)) (s3.v (x := (k : Int)) 2 rfl) s3 fun d w B4 H4 u4 hd hw => qb (k : Int) ho d w B4 H4 ((u2.trans u3).trans u4) hd hw
  · have ho : outN (Txt.split x " ") = Datum.toD ([] : List Str) := by
      unfold outN
      rw [if_pos he]
    have u4 := up_lst (u2.trans u3) hb2 (Evl.fresh_back (u2.hh) hh2) hl2
    refine qt (by rw [ho]; exact fun k z => by cases z) (.ref l') _ H2 u4 ?_
    rw [ho]
    exact at_list.mpr ⟨l', [], rfl, Evl.sq_of upd_same, .nil⟩
  · have ho : outN (Txt.split x " ") = Datum.toD (Txt.split x " ") := by
      unfold outN
      rw [if_neg hne, hn]
    refine qt (by rw [ho]; exact fun k z => by cases z) (.ref l) B2 H2 (u2.trans u3) ?_
    rw [ho]
    exact Rep.mono u3.bb (x := Txt.split x " ") (at_list.mpr ⟨l, us, rfl, Evl.sq_of upd_same, AtAll.mono (Ex.new hb) hA⟩)
end
end Ob
set_option Elab.async false
set_option linter.all false
set_option maxRecDepth 100000
set_option maxHeartbeats 4000000
/-! Rd: the class Reading: an instance with two lists that grow (k87). -/
namespace Ob
open PySem L2 TL
open Evl (Ex)
open PySem.W (Datum Tup DatumOrd)
def rdF (l1 l2 : Addr) (st : RdS) : List (Str × Cell) := [fc "switches" (Any.mk (.ref l1)), fc "exclusions" (Any.mk (.ref l2)), fc "is_parted" st.pt, fc "is_closed" st.cl]
def rdG (st : RdS) : List (Str × Cell) := [fc "switches" st.sw, fc "exclusions" st.ex, fc "is_parted" st.pt, fc "is_closed" st.cl]
def rdO (K : PySem.W.Frag) (C p dx l1 l2 : Addr) (st : RdS) : List OC := [insC K p C dx (rdF l1 l2 st), lstC K l1 st.sw, lstC K l2 st.ex]
def rdV (l1 l2 : Addr) (st : RdS) : List (Str × V) := [("switches", .ref l1), ("exclusions", .ref l2), ("is_parted", .bl st.pt), ("is_closed", .bl st.cl)]
theorem rdV_l1 {l1 l2 : Addr} {st : RdS} : (rdV l1 l2 st).lookup ("switches" : Str) = some (V.ref l1) := by
  unfold rdV
  rw [List.lookup_cons, beq_self_eq_true]
theorem rdV_l2 {l1 l2 : Addr} {st : RdS} : (rdV l1 l2 st).lookup ("exclusions" : Str) = some (V.ref l2) := by
  unfold rdV
  rw [List.lookup_cons, beq_eq_false_iff_ne.mpr (by decide)]
  show List.lookup _ _ = _
  rw [List.lookup_cons, beq_self_eq_true]
theorem rdV_no {l1 l2 : Addr} {st : RdS} {m : Str} (hm : m ∉ (["switches", "exclusions", "is_parted", "is_closed"] : List Str)) : (rdV l1 l2 st).lookup m = none := by
  simp only [List.mem_cons, List.not_mem_nil, or_false, not_or] at hm
  obtain ⟨h1, h2, h3, h4⟩ := hm
  unfold rdV
  rw [List.lookup_cons, beq_eq_false_iff_ne.mpr h1]
  show List.lookup _ _ = _
  rw [List.lookup_cons, beq_eq_false_iff_ne.mpr h2]
  show List.lookup _ _ = _
  rw [List.lookup_cons, beq_eq_false_iff_ne.mpr h3]
  show List.lookup _ _ = _
  rw [List.lookup_cons, beq_eq_false_iff_ne.mpr h4]
  rfl
/-- objects that may change, as they stand -/
def OAs (os : List OC) (B H : Hp) : Prop := ∀ o ∈ os, B o.l = none ∧ ∃ ob, H o.l = some ob ∧ o.P B ob
abbrev CwR (K : PySem.W.Frag) : Type := ClsF K ["switches", "exclusions", "is_parted", "is_closed"]
theorem rdF_flds {K : PySem.W.Frag} {B : Hp} {l1 l2 : Addr} {st : RdS} {fs : List (Str × V)} (h : Flds K B fs (rdF l1 l2 st)) : fs = (rdV l1 l2 st) := by
  cases h with
  | cons q1 t1 => cases t1 with
    | cons q2 t2 => cases t2 with
      | cons q3 t3 => cases t3 with
        | cons q4 t4 => cases t4 with
          | nil =>
            obtain ⟨a1, b1⟩ := q1
            obtain ⟨a2, b2⟩ := q2
            obtain ⟨a3, b3⟩ := q3
            obtain ⟨a4, b4⟩ := q4
            rename_i x1 x2 x3 x4
            obtain ⟨x11, x12⟩ := x1
            obtain ⟨x21, x22⟩ := x2
            obtain ⟨x31, x32⟩ := x3
            obtain ⟨x41, x42⟩ := x4
            have e1 : x11 = "switches" := a1
            have e2 : x21 = "exclusions" := a2
            have e3 : x31 = "is_parted" := a3
            have e4 : x41 = "is_closed" := a4
            have f1 : x12 = .ref l1 := b1
            have f2 : x22 = .ref l2 := b2
            have f3 : x32 = .bl st.pt := at_bl.mp b3
            have f4 : x42 = .bl st.cl := at_bl.mp b4
            rw [e1, e2, e3, e4, f1, f2, f3, f4]
            rfl
theorem flds_rdF {K : PySem.W.Frag} {B : Hp} {l1 l2 : Addr} {st : RdS} : Flds K B (rdV l1 l2 st) (rdF l1 l2 st) :=
  .cons ⟨rfl, rfl⟩ (.cons ⟨rfl, rfl⟩ (.cons ⟨rfl, at_bl.mpr rfl⟩ (.cons ⟨rfl, at_bl.mpr rfl⟩ .nil)))
section
variable {K : PySem.W.Frag} {W0 : List Addr} {B0 H0 : Hp} {os : List OC} {Γ : List (Option Cell)} {σ : L2.St} {B H B1 H1 : Hp} {te ta tb tc : TE} {tt : TT} {D : Ends} {tu tw tz : TS} {i : Nat} {C p dx l1 l2 : Addr} {st : RdS} {Cw : CwR K}
theorem St.rdParts (s : St K W0 B0 H0 (rdO K C p dx l1 l2 st ++ os) Γ σ B H) : ∃ us1 us2, (B p = none ∧ B l1 = none ∧ B l2 = none) ∧ (p ≠ l1 ∧ p ≠ l2 ∧ l1 ≠ l2) ∧ H p = some (.ins C dx (rdV l1 l2 st)) ∧ H l1 = some (.lst us1) ∧ H l2 = some (.lst us2) ∧ AtAll K B us1 st.sw ∧ AtAll K B us2 st.ex := by
  obtain ⟨a1, _, _, a3, fs, rfl, a4⟩ := s.own (insC K p C dx (rdF l1 l2 st)) (by simp [rdO])
  obtain ⟨b1, _, _, b3, us1, rfl, b4⟩ := s.own (lstC K l1 st.sw) (by simp [rdO])
  obtain ⟨c1, _, _, c3, us2, rfl, c4⟩ := s.own (lstC K l2 st.ex) (by simp [rdO])
  have nd := s.nd
  have nd' : (p :: l1 :: l2 :: os.map (·.l)).Nodup := nd
  simp only [List.nodup_cons, List.mem_cons, not_or] at nd'
  rw [rdF_flds a4] at a3
  exact ⟨us1, us2, ⟨a1, b1, c1⟩, ⟨nd'.1.1, nd'.1.2.1, nd'.2.1.1⟩, a3, b3, c3, b4, c4⟩
/-- the heap in which the instance and its lists are data -/
theorem St.rdFz (s : St K W0 B0 H0 (rdO K C p dx l1 l2 st ++ os) Γ σ B H) (hi : cg Γ i = ca p) : ∃ us1 us2 fs, (B l1 = none ∧ upd B l1 (.lst us1) l2 = none ∧ upd (upd B l1 (.lst us1)) l2 (.lst us2) p = none) ∧ (p ≠ l1 ∧ p ≠ l2 ∧ l1 ≠ l2) ∧
    Ex (upd (upd (upd B l1 (.lst us1)) l2 (.lst us2)) p (.ins C dx fs)) H ∧ Ex B (upd (upd (upd B l1 (.lst us1)) l2 (.lst us2)) p (.ins C dx fs)) ∧
    Slots K (upd (upd (upd B l1 (.lst us1)) l2 (.lst us2)) p (.ins C dx fs)) σ (cs Γ i (ce (objF C (rdG st)))) := by
  obtain ⟨us1, us2, ⟨hp, h1, h2⟩, ⟨n1, n2, n3⟩, g1, g2, g3, g4, g5⟩ := s.rdParts
  have k2 : upd B l1 (.lst us1) l2 = none := by rw [upd_ne n3.symm]; exact h2
  have k3 : upd (upd B l1 (.lst us1)) l2 (.lst us2) p = none := by rw [upd_ne n2, upd_ne n1]; exact hp
  have e : Ex B (upd (upd (upd B l1 (.lst us1)) l2 (.lst us2)) p (.ins C dx (rdV l1 l2 st))) := ((Ex.new h1).trans (Ex.new k2)).trans (Ex.new k3)
  have q1 : upd (upd (upd B l1 (.lst us1)) l2 (.lst us2)) p (.ins C dx (rdV l1 l2 st)) l1 = some (.lst us1) := by rw [upd_ne n1.symm, upd_ne n3]; exact upd_same
  have q2 : upd (upd (upd B l1 (.lst us1)) l2 (.lst us2)) p (.ins C dx (rdV l1 l2 st)) l2 = some (.lst us2) := by rw [upd_ne n2.symm]; exact upd_same
  refine ⟨us1, us2, _, ⟨h1, k2, k3⟩, ⟨n1, n2, n3⟩, ex_in (ex_in (ex_in s.bh g2) g3) g1, e, (s.sl.mono e).re (s.sl.rf i hi) ⟨p, dx, _, rfl, upd_same, ?_⟩⟩
  exact .cons ⟨rfl, at_list.mpr ⟨l1, us1, rfl, Evl.sq_of q1, g4.mono e⟩⟩ (.cons ⟨rfl, at_list.mpr ⟨l2, us2, rfl, Evl.sq_of q2, g5.mono e⟩⟩ (.cons ⟨rfl, at_bl.mpr rfl⟩ (.cons ⟨rfl, at_bl.mpr rfl⟩ .nil)))
/-- a reading of the instance as it stands -/
theorem St.rdE {α : Type} [Rep α] [Thaw α] [ThawI α] {x : α} {Q : VK} (s : St K W0 B0 H0 (rdO K C p dx l1 l2 st ++ os) Γ σ B H) (hi : cg Γ i = ca p) (he : ∀ B', Ex B B' → Slots K B' σ (cs Γ i (ce (objF C (rdG st)))) → Pe K te σ B' x)
    (q : ∀ v B1 H1, Up B H B1 H1 → Rep.at_ K B1 v x → Q v H1) : te σ H Q := by
  obtain ⟨us1, us2, fs, ⟨h1, h2, h3⟩, ⟨n1, n2, n3⟩, e1, e2, sl⟩ := s.rdFz hi
  refine (he _ e2 sl) H e1 Q fun v B4 H4 u hv => ?_
  have z1 : B4 p = some (.ins C dx fs) := u.bb _ _ upd_same
  have z2 : B4 l2 = some (.lst us2) := u.bb _ _ (by rw [upd_ne n2.symm]; exact upd_same)
  have z3 : B4 l1 = some (.lst us1) := u.bb _ _ (by rw [upd_ne n1.symm, upd_ne n3]; exact upd_same)
  refine q v (cutH (cutH (cutH B4 p) l2) l1) H4 (up_cut h1 (up_cut h2 (up_cut h3 u))) (Thaw.thaw (ws := us1) ?_ (Thaw.thaw (ws := us2) ?_ (ThawI.thaw z1 hv)))
  · rw [cutH_ne n3, cutH_ne n1.symm]; exact z3
  · rw [cutH_ne n2.symm]; exact z2
theorem St.rdT {b : Bool} {Q : Bool → Hp → Prop} (s : St K W0 B0 H0 (rdO K C p dx l1 l2 st ++ os) Γ σ B H) (hi : cg Γ i = ca p) (he : ∀ B', Ex B B' → Slots K B' σ (cs Γ i (ce (objF C (rdG st)))) → Ob.Pt tt σ B' b)
    (q : ∀ H1, Up B H B H1 → Q b H1) : tt σ H Q := by
  obtain ⟨us1, us2, fs, _, _, e1, e2, sl⟩ := s.rdFz hi
  exact (he _ e2 sl) H e1 Q fun B4 H4 u => q H4 ⟨Ex.refl _, s.bh.trans u.hh, u.hh, fun _ h => .inl h⟩
theorem St.rdIte {b : Bool} (s : St K W0 B0 H0 (rdO K C p dx l1 l2 st ++ os) Γ σ B H) (hi : cg Γ i = ca p) (he : ∀ B', Ex B B' → Slots K B' σ (cs Γ i (ce (objF C (rdG st)))) → Ob.Pt tt σ B' b)
    (k1 : b = true → ∀ B1 H1, St K W0 B0 H0 (rdO K C p dx l1 l2 st ++ os) Γ σ B1 H1 → tu { D with nx := tz D } σ H1) (k2 : b = false → ∀ B1 H1, St K W0 B0 H0 (rdO K C p dx l1 l2 st ++ os) Γ σ B1 H1 → tz D σ H1) : tSeq (tIfS tt tu tNext) tz D σ H :=
  s.rdT hi he (Q := fun b H1 => if b = true then tu { D with nx := tz D } σ H1 else tNext { D with nx := tz D } σ H1) fun H1 u => by
    cases b with
    | true => exact k1 rfl B H1 (s.up u)
    | false => exact k2 rfl B H1 (s.up u)
theorem St.rdRet {α : Type} [Rep α] [Thaw α] [ThawI α] {x : α} (s : St K W0 B0 H0 (rdO K C p dx l1 l2 st ++ os) Γ σ B H) (hi : cg Γ i = ca p) (he : ∀ B', Ex B B' → Slots K B' σ (cs Γ i (ce (objF C (rdG st)))) → Pe K te σ B' x)
    (k : ∀ v B1 H1, St K W0 B0 H0 (rdO K C p dx l1 l2 st ++ os) Γ σ B1 H1 → Rep.at_ K B1 v x → D.rt v H1) : tRet te D σ H := s.rdE hi he fun v B1 H1 u hv => k v B1 H1 (s.up u) hv
/-- its attributes -/
theorem e_rsw (h : Pe K te σ B (objF Cw.C (rdG st))) : Pe K (tFld K te "switches") σ B st.sw := e_fld (Cw := Cw) 0 h (by show (["switches", "exclusions", "is_parted", "is_closed"] : List Str) <+: _; exact List.prefix_refl _) (by decide) rfl
theorem e_rex (h : Pe K te σ B (objF Cw.C (rdG st))) : Pe K (tFld K te "exclusions") σ B st.ex := e_fld (Cw := Cw) 1 h (by show (["switches", "exclusions", "is_parted", "is_closed"] : List Str) <+: _; exact List.prefix_refl _) (by decide) rfl
theorem e_rpt (h : Pe K te σ B (objF Cw.C (rdG st))) : Pe K (tFld K te "is_parted") σ B st.pt := e_fld (Cw := Cw) 2 h (by show (["switches", "exclusions", "is_parted", "is_closed"] : List Str) <+: _; exact List.prefix_refl _) (by decide) rfl
theorem e_rcl (h : Pe K te σ B (objF Cw.C (rdG st))) : Pe K (tFld K te "is_closed") σ B st.cl := e_fld (Cw := Cw) 3 h (by show (["switches", "exclusions", "is_parted", "is_closed"] : List Str) <+: _; exact List.prefix_refl _) (by decide) rfl
/-- self.is_parted = True -/
theorem St.rdPt (s : St K W0 B0 H0 (rdO K Cw.C p dx l1 l2 st ++ os) Γ σ B H) (hi : cg Γ i = ca p)
    (q : ∀ B1 H1, St K W0 B0 H0 (rdO K Cw.C p dx l1 l2 { st with pt := true } ++ os) Γ σ B1 H1 → tz D σ H1) : tSeq (sFld K (tVar i) (tC (.bl true)) "is_parted") tz D σ H := by
  obtain ⟨us1, us2, _, _, g1, _, _, _, _⟩ := s.rdParts
  refine ⟨.ref p, s.sl.rf i hi, p, Cw.C, dx, _, rfl, g1, Cw.cl, Cw.no _ (by simp), (by show 4 < 1000; decide), ?_⟩
  refine q B _ (s.chg (k := 0) (o := insC K p Cw.C dx (rdF l1 l2 st)) (o' := insC K p Cw.C dx (rdF l1 l2 { st with pt := true })) (ob := .ins Cw.C dx _) rfl rfl ⟨_, rfl, ?_⟩)
  exact flds_rdF (st := { st with pt := true })
theorem St.rdCl (s : St K W0 B0 H0 (rdO K Cw.C p dx l1 l2 st ++ os) Γ σ B H) (hi : cg Γ i = ca p)
    (q : ∀ B1 H1, St K W0 B0 H0 (rdO K Cw.C p dx l1 l2 { st with cl := true } ++ os) Γ σ B1 H1 → tz D σ H1) : tSeq (sFld K (tVar i) (tC (.bl true)) "is_closed") tz D σ H := by
  obtain ⟨us1, us2, _, _, g1, _, _, _, _⟩ := s.rdParts
  refine ⟨.ref p, s.sl.rf i hi, p, Cw.C, dx, _, rfl, g1, Cw.cl, Cw.no _ (by simp), (by show 4 < 1000; decide), ?_⟩
  refine q B _ (s.chg (k := 0) (o := insC K p Cw.C dx (rdF l1 l2 st)) (o' := insC K p Cw.C dx (rdF l1 l2 { st with cl := true })) (ob := .ins Cw.C dx _) rfl rfl ⟨_, rfl, ?_⟩)
  exact flds_rdF (st := { st with cl := true })
/-- self.switches.append(..) -/
theorem St.rdApp1 {x : Str} (s : St K W0 B0 H0 (rdO K Cw.C p dx l1 l2 st ++ os) Γ σ B H) (hi : cg Γ i = ca p) (he : Pe K te σ B x) (hz : st.sw.length ≤ 1000000)
    (q : ∀ B1 H1, St K W0 B0 H0 (rdO K Cw.C p dx l1 l2 { st with sw := st.sw ++ [x] } ++ os) Γ σ B1 H1 → tz D σ H1) : tSeq (tDrop (tBM K "list" rAppend (tFld K (tVar i) "switches") (tCons te tNil))) tz D σ H := by
  obtain ⟨us1, us2, _, _, g1, g2, _, g4, _⟩ := s.rdParts
  refine ⟨.ref p, s.sl.rf i hi, p, Cw.C, dx, _, .ref l1, rfl, g1, Cw.cl, Cw.no _ (by simp), rdV_l1, .inl ⟨rfl, us1, Evl.sq_of g2⟩, ?_⟩
  refine he H s.bh _ fun v B1 H1 u hv => ?_
  refine ⟨l1, us1, v, rfl, rfl, u.hh _ _ g2, Nat.lt_of_le_of_lt (by rw [g4.length]; exact hz) (by rw [sizeLine_eq]; decide), ?_⟩
  exact q B1 _ ((s.up u).chg (k := 1) (o := lstC K l1 st.sw) (o' := lstC K l1 (st.sw ++ [x])) (ob := .lst (us1 ++ [v])) rfl rfl ⟨_, rfl, (g4.mono u.bb).snoc hv⟩)
theorem St.rdApp2 {x : Tup Str} (s : St K W0 B0 H0 (rdO K Cw.C p dx l1 l2 st ++ os) Γ σ B H) (hi : cg Γ i = ca p) (he : Pe K te σ B x) (hz : st.ex.length ≤ 1000000)
    (q : ∀ B1 H1, St K W0 B0 H0 (rdO K Cw.C p dx l1 l2 { st with ex := st.ex ++ [x] } ++ os) Γ σ B1 H1 → tz D σ H1) : tSeq (tDrop (tBM K "list" rAppend (tFld K (tVar i) "exclusions") (tCons te tNil))) tz D σ H := by
  obtain ⟨us1, us2, _, _, g1, _, g3, _, g5⟩ := s.rdParts
  refine ⟨.ref p, s.sl.rf i hi, p, Cw.C, dx, _, .ref l2, rfl, g1, Cw.cl, Cw.no _ (by simp), rdV_l2, .inl ⟨rfl, us2, Evl.sq_of g3⟩, ?_⟩
  refine he H s.bh _ fun v B1 H1 u hv => ?_
  refine ⟨l2, us2, v, rfl, rfl, u.hh _ _ g3, Nat.lt_of_le_of_lt (by rw [g5.length]; exact hz) (by rw [sizeLine_eq]; decide), ?_⟩
  exact q B1 _ ((s.up u).chg (k := 2) (o := lstC K l2 st.ex) (o' := lstC K l2 (st.ex ++ [x])) (ob := .lst (us2 ++ [v])) rfl rfl ⟨_, rfl, (g5.mono u.bb).snoc hv⟩)
end
/-! ### methods -/
def FnRd (K : PySem.W.Frag) (C : Addr) (pre : RdS → Str → Prop) (f : RdS → Str → Bool × RdS) : Sp := fun vs H Q _ => ∃ p dx l1 l2 st w B, Ex B H ∧ OAs (rdO K C p dx l1 l2 st) B H ∧ [p, l1, l2].Nodup ∧ vs = [.ref p, .str w] ∧ pre st w ∧
  ∀ B2 H2, UbW [p, l1, l2] B H B2 H2 → OAs (rdO K C p dx l1 l2 (f st w).2) B2 H2 → Q (.bl (f st w).1) H2
section
variable {K : PySem.W.Frag} {C : Addr} {pre : RdS → Str → Prop} {f : RdS → Str → Bool × RdS} {vs : List V} {H : Hp} {Q : VK} {E : XK}
theorem FnRd.len (vs : List V) (H : Hp) (Q : VK) (E : XK) (h : FnRd K C pre f vs H Q E) : vs.length = 2 := by
  obtain ⟨p, dx, l1, l2, st, w, B, _, _, _, rfl, _⟩ := h
  rfl
theorem FnRd.st (h : FnRd K C pre f vs H Q E) (N : List Str) : ∃ p dx l1 l2 st w B, pre st w ∧ St K [p, l1, l2] B H (rdO K C p dx l1 l2 st ++ []) ([ca p, ce w] ++ List.replicate (N.length - 2) none) (start N vs) B H ∧
    ∀ Γ σ B2 H2 b, (f st w).1 = b → St K [p, l1, l2] B H (rdO K C p dx l1 l2 (f st w).2 ++ []) Γ σ B2 H2 → Q (.bl b) H2 := by
  obtain ⟨p, dx, l1, l2, st, w, B, e, oa, nd, rfl, hp, q⟩ := h
  refine ⟨p, dx, l1, l2, st, w, B, hp, ⟨Ex.refl B, e, fun _ _ _ h => h, fun _ h => h, fun _ h => .inl h, fun o ho => ?_, ?_, start_slots [.ref p, .str w] [ca p, ce w] _ (.cons (At1.some rfl) (.cons (At1.some (at_str.mpr rfl)) .nil))⟩, fun Γ σ B2 H2 b hb s => ?_⟩
  · rw [List.append_nil] at ho
    obtain ⟨h1, h2⟩ := oa o ho
    refine ⟨h1, .inl ?_, h2⟩
    unfold rdO at ho
    simp only [List.mem_cons, List.not_mem_nil, or_false] at ho
    rcases ho with e | e | e <;> (rw [e]; simp [insC, lstC])
  · rw [List.append_nil]
    exact nd
  · rw [← hb]
    refine q B2 H2 ⟨s.bb, s.bh, s.hh, s.nw⟩ fun o ho => ?_
    obtain ⟨h1, _, h2⟩ := s.own o (by rw [List.append_nil]; exact ho)
    exact ⟨h1, h2⟩
end
section
variable {K : PySem.W.Frag} {W0 : List Addr} {B0 H0 : Hp} {os : List OC} {Γ : List (Option Cell)} {σ : L2.St} {B H B1 H1 : Hp} {te ta tb tc : TE} {tt : TT} {D : Ends} {tu tw tz : TS} {i : Nat} {C p dx l1 l2 : Addr} {st st' : RdS} {Cw : CwR K}
theorem St.ubRd (s : St K W0 B0 H0 (rdO K C p dx l1 l2 st ++ os) Γ σ B H) (u : UbW [p, l1, l2] B H B1 H1) (t : OAs (rdO K C p dx l1 l2 st') B1 H1) : St K W0 B0 H0 (rdO K C p dx l1 l2 st' ++ os) Γ σ B1 H1 := by
  have own3 : ∀ a ∈ [p, l1, l2], (a ∈ W0 ∨ H0 a = none) ∧ H1 a ≠ none := fun a ha => by
    have hq : ∀ o ∈ rdO K C p dx l1 l2 st, (o.l ∈ W0 ∨ H0 o.l = none) := fun o ho => (s.own o (List.mem_append.mpr (.inl ho))).2.1
    have ht : ∀ o ∈ rdO K C p dx l1 l2 st', H1 o.l ≠ none := fun o ho => by
      obtain ⟨_, ob, h, _⟩ := t o ho
      rw [h]
      exact fun z => nomatch z
    simp only [List.mem_cons, List.not_mem_nil, or_false] at ha
    rcases ha with e | e | e
    · rw [e]; exact ⟨hq (insC K p C dx (rdF l1 l2 st)) (by simp [rdO]), ht (insC K p C dx (rdF l1 l2 st')) (by simp [rdO])⟩
    · rw [e]; exact ⟨hq (lstC K l1 st.sw) (by simp [rdO]), ht (lstC K l1 st'.sw) (by simp [rdO])⟩
    · rw [e]; exact ⟨hq (lstC K l2 st.ex) (by simp [rdO]), ht (lstC K l2 st'.ex) (by simp [rdO])⟩
  refine ⟨s.bb.trans u.bb, u.bh, fun a w ha h0 => ?_, fun a h => ?_, fun a h => ?_, fun o ho => ?_, s.nd, s.sl.mono u.bb⟩
  · refine u.hh a w (fun z => ?_) (s.hh a w ha h0)
    rcases (own3 a z).1 with y | y
    · exact ha y
    · rw [y] at h0
      cases h0
  · by_cases e : a ∈ [p, l1, l2]
    · exact (own3 a e).2
    · cases q : H a with
      | none => exact absurd q (s.dm a h)
      | some o =>
        rw [u.hh a o e q]
        exact fun z => nomatch z
  · rcases u.nw a h with z | z
    · exact s.nw a z
    · cases q : H0 a with
      | none => exact .inr rfl
      | some o => exact absurd z (s.dm a (by rw [q]; exact fun z => nomatch z))
  · rcases List.mem_append.mp ho with ho | ho
    · obtain ⟨h1, h2⟩ := t o ho
      refine ⟨h1, (own3 o.l ?_).1, h2⟩
      unfold rdO at ho
      simp only [List.mem_cons, List.not_mem_nil, or_false] at ho
      rcases ho with e | e | e <;> (rw [e]; simp [insC, lstC])
    · obtain ⟨h1, h2, ob, h3, h4⟩ := s.own o (List.mem_append.mpr (.inr ho))
      have hne : o.l ∉ [p, l1, l2] := fun z => by
        have nd : ([p, l1, l2] ++ os.map (·.l)).Nodup := s.nd
        exact (List.nodup_append.mp nd).2.2 _ z _ (List.mem_map.mpr ⟨o, ho, rfl⟩) rfl
      refine ⟨?_, h2, ob, u.hh _ _ hne h3, o.mono u.bb h4⟩
      cases hq : B1 o.l with
      | none => rfl
      | some x =>
        rcases u.nw o.l (by rw [hq]; exact fun z => nomatch z) with z | z
        · exact absurd h1 z
        · rw [h3] at z
          cases z
theorem St.oas (s : St K W0 B0 H0 (rdO K C p dx l1 l2 st ++ os) Γ σ B H) : OAs (rdO K C p dx l1 l2 st) B H := fun o ho => by
  obtain ⟨h1, _, h2⟩ := s.own o (List.mem_append.mpr (.inl ho))
  exact ⟨h1, h2⟩
theorem St.rd3 (s : St K W0 B0 H0 (rdO K C p dx l1 l2 st ++ os) Γ σ B H) : [p, l1, l2].Nodup := by
  have nd : ([p, l1, l2] ++ os.map (·.l)).Nodup := s.nd
  exact (List.nodup_append.mp nd).1
/-- self.m(word) -/
theorem St.rdMeth {pre : RdS → Str → Prop} {f : RdS → Str → Bool × RdS} {m : Str} {w : Str} {E : XK} {Q : VK} (s : St K W0 B0 H0 (rdO K C p dx l1 l2 st ++ os) Γ σ B H) (hi : cg Γ i = ca p) (hm : m ∉ (["switches", "exclusions", "is_parted", "is_closed"] : List Str)) (hw : Pe K te σ B w) (hp : pre st w)
    (q : ∀ B1 H1, St K W0 B0 H0 (rdO K C p dx l1 l2 (f st w).2 ++ os) Γ σ B1 H1 → Q (.bl (f st w).1) H1) : tMeth C m (FnRd K C pre f) [] E (tVar i) (tCons te tNil) σ H Q := by
  obtain ⟨us1, us2, _, _, g1, _, _, _, _⟩ := s.rdParts
  refine ⟨.ref p, s.sl.rf i hi, p, dx, _, rfl, g1, rdV_no hm, hw H s.bh _ fun v B1 H1 u hv => ?_⟩
  · cases at_str.mp hv
    have s1 := s.up u
    exact ⟨p, dx, l1, l2, st, w, B1, s1.bh, s1.oas, s1.rd3, rfl, hp, fun B2 H2 ub t => q B2 H2 (s1.ubRd ub t)⟩
end
end Ob
set_option Elab.async false
set_option linter.all false
set_option maxRecDepth 100000
set_option maxHeartbeats 4000000
/-! Rm: Reading's methods, panel_in (k87). -/
namespace Ob
open PySem L2 TL
open Evl (Ex)
open PySem.W (Datum Tup DatumOrd)
def RdPre (st : RdS) (w : Str) : Prop := w.length ≤ 1000000 ∧ st.sw.length ≤ 500000 ∧ st.ex.length ≤ 500000
theorem ltS_irrD (x : Str) : DatumOrd.lt x x = false := ltS_irr x
theorem tp_irr (x : Tup Str) : DatumOrd.lt x x = false := by
  obtain ⟨xs⟩ := x
  show PySem.W.listLt xs xs = false
  induction xs with
  | nil => rfl
  | cons a r ih =>
    show (if a = a then PySem.W.listLt r r else _) = false
    rw [if_pos rfl]
    exact ih
section
variable {K : PySem.W.Frag} {Cw_Reading : CwR K}
abbrev sp_Reading_takes_switch (K : PySem.W.Frag) (Cw_Reading : CwR K) : Sp := FnRd K Cw_Reading.C RdPre tkSw
def N_Reading_takes_switch : List Str := ["self", "word"]
def t_Reading_takes_switch (K : PySem.W.Frag) (Cw_Reading : ClsF K ["switches", "exclusions", "is_parted", "is_closed"]) : TS :=
  (tSeq (tIfS (tAnd (tTest (tOp (rEqP K) (tVar 1) (tC (.str "/")))) (tTest (tOp (rGtU K) (tCB (rLenU K) (tCons (tFld K (tVar 0) "switches") tNil)) (tC (.int 0))))) (tSeq (sFld K (tVar 0) (tC (.bl true)) "is_parted")
    (tRet (tC (.bl true)))) tNext)
    (tSeq (tIfS (tOr (tNot (tB (tCall (sp_is_name K) [] E0 (tCons (tVar 1) tNil)))) (tTest (tOp (rGeU K) (tSl (rSlU K) (tFld K (tVar 0) "switches") (tPart (tUn (rU fun i => .int (-i)) (tC (.int 1)))) tNoPart) (tLst (tCons (tVar 1) tNil))))) (tRet (tC (.bl false))) tNext)
    (tSeq (tDrop (tBM K "list" (rAppend) (tFld K (tVar 0) "switches") (tCons (tVar 1) tNil)))
    (tRet (tC (.bl true))))))
theorem l_Reading_takes_switch (vs : List V) (H : Hp) (Q : VK) (E : XK) (h : sp_Reading_takes_switch K Cw_Reading vs H Q E) : vs.length = 2 := FnRd.len vs H Q E h
theorem r_Reading_takes_switch (vs : List V) (H : Hp) (Q : VK) (E : XK) (h : sp_Reading_takes_switch K Cw_Reading vs H Q E) : t_Reading_takes_switch K Cw_Reading (Ends.ret Q) (start N_Reading_takes_switch vs) H := by
  obtain ⟨p, dx, l1, l2, st, w, B, ⟨hw, h1, h2⟩, s, q⟩ := FnRd.st h N_Reading_takes_switch
  replace s : St K [p, l1, l2] B H (rdO K Cw_Reading.C p dx l1 l2 st ++ []) [ca p, ce w] (start N_Reading_takes_switch vs) B H := s
  refine s.rdIte (i := 0) (b := decide (w = "/") && decide (st.sw ≠ [])) rfl (fun B' b' sl => (t_and (t_test (e_eq (sl.v (x := w) 1 rfl) e_str)) fun _ => t_test (e_gt (e_lenL (e_rsw (Cw := Cw_Reading) (sl.v (x := objF Cw_Reading.C (rdG st)) 0 rfl))) (e_int (i := 0)))).is (by
    congr 1
    refine decide_eq_decide.mpr ?_
    rw [← List.length_pos_iff]
    omega)) (fun hb B1 H1 s1 => ?_) fun hb B1 H1 s1 => ?_
  · rw [Bool.and_eq_true, decide_eq_true_eq, decide_eq_true_eq] at hb
    have e : tkSw st w = (true, { st with pt := true }) := by
      unfold tkSw
      rw [if_pos hb]
    refine s1.rdPt rfl fun B2 H2 s2 => ?_
    exact St.ret (D := { Ends.ret Q with nx := _ }) (x := true) s2 e_bl fun v B3 H3 s3 hv => by
      cases (show v = .bl true from at_bl.mp hv)
      exact q _ _ B3 H3 true (by rw [e]) (by rw [e]; exact s3)
  · have hb' : ¬ (w = "/" ∧ st.sw ≠ []) := fun z => by
      rw [decide_eq_true z.1, decide_eq_true z.2] at hb
      cases hb
    refine s1.rdIte (i := 0) (b := !(nameS w && lastLt st.sw w)) rfl (fun B' b' sl => (t_or (t_not (t_B (e_call1 (x := w) (pre := fun w : Str => w.length ≤ 1000000) (f := nameS) (sl.v (x := w) 1 rfl) hw))) fun _ => t_test (e_ge (e_slL (e_rsw (Cw := Cw_Reading) (sl.v (x := objF Cw_Reading.C (rdG st)) 0 rfl)) (o_some (K := K) (e_negI (e_int (i := 1)))) o_none) (e_lst1 (sl.v (x := w) 1 rfl)))).is (by
      rw [lastLt_cut ltS_irrD]
      try (cases nameS w <;> rfl))) (fun hc B2 H2 s2 => ?_) fun hc B2 H2 s2 => ?_
    · rw [Bool.not_eq_true'] at hc
      have e : tkSw st w = (false, st) := by
        unfold tkSw
        rw [if_neg hb', if_neg (by rw [hc]; decide)]
      exact St.ret (D := { Ends.ret Q with nx := _ }) (x := false) s2 e_bl fun v B3 H3 s3 hv => by
        cases (show v = .bl false from at_bl.mp hv)
        exact q _ _ B3 H3 false (by rw [e]) (by rw [e]; exact s3)
    · rw [Bool.not_eq_false'] at hc
      have e : tkSw st w = (true, { st with sw := st.sw ++ [w] }) := by
        unfold tkSw
        rw [if_neg hb', if_pos hc]
      refine s2.rdApp1 (x := w) rfl (s2.v (x := w) 1 rfl) (by omega) fun B3 H3 s3 => ?_
      exact St.ret (D := Ends.ret Q) (x := true) s3 e_bl fun v B4 H4 s4 hv => by
        cases (show v = .bl true from at_bl.mp hv)
        exact q _ _ B4 H4 true (by rw [e]) (by rw [e]; exact s4)
abbrev sp_Reading_takes_pair (K : PySem.W.Frag) (Cw_Reading : CwR K) : Sp := FnRd K Cw_Reading.C RdPre tkPr
def N_Reading_takes_pair : List Str := ["self", "word", "one", "sign", "other"]
def t_Reading_takes_pair (K : PySem.W.Frag) (Cw_Reading : ClsF K ["switches", "exclusions", "is_parted", "is_closed"]) : TS :=
  (tSeq (tIfS (tAnd (tTest (tOp (rEqP K) (tVar 1) (tC (.str "-")))) (tTest (tOp (rEqP K) (tCB (rLenU K) (tCons (tFld K (tVar 0) "exclusions") tNil)) (tC (.int 0))))) (tSeq (sFld K (tVar 0) (tC (.bl true)) "is_closed")
    (tRet (tC (.bl true)))) tNext)
    (tSeq (tAsg (tPartn (tVar 1) (tC (.str "-"))) (gUnp K 3 (gCons (gName 2) (gCons (gName 3) (gCons (gName 4) gNil)))))
    (tSeq (tIfS (tOr (tTest (tOp (rInU K true) (tVar 2) (tFld K (tVar 0) "switches"))) (tOr (tTest (tOp (rInU K true) (tVar 4) (tFld K (tVar 0) "switches"))) (tTest (tOp (rGeU K) (tVar 2) (tVar 4))))) (tRet (tC (.bl false))) tNext)
    (tSeq (tIfS (tTest (tOp (rGeU K) (tSl (rSlU K) (tFld K (tVar 0) "exclusions") (tPart (tUn (rU fun i => .int (-i)) (tC (.int 1)))) tNoPart) (tLst (tCons (tTup (tCons (tVar 2) (tCons (tVar 4) tNil))) tNil)))) (tRet (tC (.bl false))) tNext)
    (tSeq (tDrop (tBM K "list" (rAppend) (tFld K (tVar 0) "exclusions") (tCons (tTup (tCons (tVar 2) (tCons (tVar 4) tNil))) tNil)))
    (tRet (tC (.bl true))))))))
theorem l_Reading_takes_pair (vs : List V) (H : Hp) (Q : VK) (E : XK) (h : sp_Reading_takes_pair K Cw_Reading vs H Q E) : vs.length = 2 := FnRd.len vs H Q E h
theorem r_Reading_takes_pair (vs : List V) (H : Hp) (Q : VK) (E : XK) (h : sp_Reading_takes_pair K Cw_Reading vs H Q E) : t_Reading_takes_pair K Cw_Reading (Ends.ret Q) (start N_Reading_takes_pair vs) H := by
  obtain ⟨p, dx, l1, l2, st, w, B, ⟨hw, h1, h2⟩, s, q⟩ := FnRd.st h N_Reading_takes_pair
  replace s : St K [p, l1, l2] B H (rdO K Cw_Reading.C p dx l1 l2 st ++ []) [ca p, ce w, none, none, none] (start N_Reading_takes_pair vs) B H := s
  refine s.rdIte (i := 0) (b := decide (w = "-") && decide (st.ex = [])) rfl (fun B' b' sl => (t_and (t_test (e_eq (sl.v (x := w) 1 rfl) e_str)) fun _ => t_test (e_eq (e_lenL (e_rex (Cw := Cw_Reading) (sl.v (x := objF Cw_Reading.C (rdG st)) 0 rfl))) (e_int (i := 0)))).is (by
    congr 1
    refine decide_eq_decide.mpr ?_
    rw [← List.length_eq_zero_iff]
    omega)) (fun hb B1 H1 s1 => ?_) fun hb B1 H1 s1 => ?_
  · rw [Bool.and_eq_true, decide_eq_true_eq, decide_eq_true_eq] at hb
    have e : tkPr st w = (true, { st with cl := true }) := by
      unfold tkPr
      rw [if_pos hb]
    refine s1.rdCl rfl fun B2 H2 s2 => ?_
    exact St.ret (D := { Ends.ret Q with nx := _ }) (x := true) s2 e_bl fun v B3 H3 s3 hv => by
      cases (show v = .bl true from at_bl.mp hv)
      exact q _ _ B3 H3 true (by rw [e]) (by rw [e]; exact s3)
  · have hb' : ¬ (w = "-" ∧ st.ex = []) := fun z => by
      rw [decide_eq_true z.1, decide_eq_true z.2] at hb
      cases hb
    obtain ⟨a, ha⟩ : ∃ a, a = p1 w := ⟨_, rfl⟩
    obtain ⟨c, hc⟩ : ∃ c, c = p2 w := ⟨_, rfl⟩
    refine s1.unpT3 (i1 := 2) (i2 := 3) (i3 := 4) (x1 := a) (x2 := (Txt.partition w "-").2.1) (x3 := c) (by rw [ha, hc]; exact e_part (s1.v (x := w) 1 rfl) e_str (by rw [len_hy]; rfl) (by omega)) fun σ2 B2 H2 s2 => ?_
    replace s2 : St K [p, l1, l2] B H (rdO K Cw_Reading.C p dx l1 l2 st ++ []) [ca p, ce w, ce a, ce (Txt.partition w "-").2.1, ce c] σ2 B2 H2 := s2
    have fail : ∀ {B3 H3 : Hp} {D : Ends}, D.rt = Q → ¬ ((a ∈ st.sw ∧ c ∈ st.sw) ∧ ltS a c = true ∧ lastLt st.ex (Tup.mk [a, c]) = true) → St K [p, l1, l2] B H (rdO K Cw_Reading.C p dx l1 l2 st ++ []) [ca p, ce w, ce a, ce (Txt.partition w "-").2.1, ce c] σ2 B3 H3 → tRet (tC (.bl false)) D σ2 H3 := fun {B3 H3 D} hD hn s3 => by
      have e : tkPr st w = (false, st) := by
        unfold tkPr
        rw [if_neg hb', ← ha, ← hc, if_neg hn]
      exact St.ret (D := D) (x := false) s3 e_bl fun v B4 H4 s4 hv => by
        cases (show v = .bl false from at_bl.mp hv)
        rw [hD]
        exact q _ _ B4 H4 false (by rw [e]) (by rw [e]; exact s4)
    refine s2.rdIte (i := 0) (b := ngb true (decide (a ∈ st.sw)) || (ngb true (decide (c ∈ st.sw)) || !ltS a c)) rfl (fun B' b' sl => t_or (t_test (e_inL (sl.v (x := a) 2 rfl) (e_rsw (Cw := Cw_Reading) (sl.v (x := objF Cw_Reading.C (rdG st)) 0 rfl)) true)) fun _ => t_or (t_test (e_inL (sl.v (x := c) 4 rfl) (e_rsw (Cw := Cw_Reading) (sl.v (x := objF Cw_Reading.C (rdG st)) 0 rfl)) true)) fun _ => t_test (e_ge (sl.v (x := a) 2 rfl) (sl.v (x := c) 4 rfl))) (fun hd B3 H3 s3 => ?_) fun hd B3 H3 s3 => ?_
    · refine fail rfl (fun z => ?_) s3
      rw [decide_eq_true z.1.1, decide_eq_true z.1.2, z.2.1] at hd
      cases hd
    · have hall : (a ∈ st.sw ∧ c ∈ st.sw) ∧ ltS a c = true := by
        rw [Bool.or_eq_false_iff, Bool.or_eq_false_iff] at hd
        obtain ⟨q1, q2, q3⟩ := hd
        refine ⟨⟨Classical.not_not.mp fun z => ?_, Classical.not_not.mp fun z => ?_⟩, by simpa using q3⟩
        · rw [decide_eq_false z] at q1; cases q1
        · rw [decide_eq_false z] at q2; cases q2
      refine s3.rdIte (i := 0) (b := !lastLt st.ex (Tup.mk [a, c])) rfl (fun B' b' sl => (t_test (e_ge (e_slL (e_rex (Cw := Cw_Reading) (sl.v (x := objF Cw_Reading.C (rdG st)) 0 rfl)) (o_some (K := K) (e_negI (e_int (i := 1)))) o_none) (e_lst1 (e_tupW (.cons (sl.v (x := a) 2 rfl) (.cons (sl.v (x := c) 4 rfl) .nil)) (by show 2 ≤ 1000000; decide))))).is (by rw [lastLt_cut tp_irr])) (fun hf B4 H4 s4 => ?_) fun hf B4 H4 s4 => ?_
      · rw [Bool.not_eq_true'] at hf
        refine fail rfl (fun z => ?_) s4
        rw [z.2.2] at hf
        cases hf
      · rw [Bool.not_eq_false'] at hf
        have e : tkPr st w = (true, { st with ex := st.ex ++ [Tup.mk [a, c]] }) := by
          unfold tkPr
          rw [if_neg hb', ← ha, ← hc, if_pos ⟨hall.1, hall.2, hf⟩]
        refine s4.rdApp2 (x := Tup.mk [a, c]) rfl (e_tupW (.cons (s4.v (x := a) 2 rfl) (.cons (s4.v (x := c) 4 rfl) .nil)) (by show 2 ≤ 1000000; decide)) (by omega) fun B5 H5 s5 => ?_
        exact St.ret (D := Ends.ret Q) (x := true) s5 e_bl fun v B6 H6 s6 hv => by
          cases (show v = .bl true from at_bl.mp hv)
          exact q _ _ B6 H6 true (by rw [e]) (by rw [e]; exact s6)
end
end Ob
set_option Elab.async false
set_option linter.all false
set_option maxRecDepth 100000
set_option maxHeartbeats 4000000
/-! Rk: Reading.takes, is_whole, __init__; panel_in (k87). -/
namespace Ob
open PySem L2 TL
open Evl (Ex)
open PySem.W (Datum Tup DatumOrd)
section
variable {K : PySem.W.Frag} {Cw_Reading : CwR K}
abbrev sp_Reading_takes (K : PySem.W.Frag) (Cw_Reading : CwR K) : Sp := FnRd K Cw_Reading.C RdPre tk
def N_Reading_takes : List Str := ["self", "word"]
def t_Reading_takes (K : PySem.W.Frag) (Cw_Reading : ClsF K ["switches", "exclusions", "is_parted", "is_closed"]) : TS :=
  (tSeq (tIfS (tB (tFld K (tVar 0) "is_closed")) (tRet (tC (.bl false))) tNext)
    (tRet (tIf (tB (tFld K (tVar 0) "is_parted")) (tMeth Cw_Reading.C "takes_pair" (sp_Reading_takes_pair K Cw_Reading) [] E0 (tVar 0) (tCons (tVar 1) tNil)) (tMeth Cw_Reading.C "takes_switch" (sp_Reading_takes_switch K Cw_Reading) [] E0 (tVar 0) (tCons (tVar 1) tNil)))))
theorem l_Reading_takes (vs : List V) (H : Hp) (Q : VK) (E : XK) (h : sp_Reading_takes K Cw_Reading vs H Q E) : vs.length = 2 := FnRd.len vs H Q E h
theorem r_Reading_takes (vs : List V) (H : Hp) (Q : VK) (E : XK) (h : sp_Reading_takes K Cw_Reading vs H Q E) : t_Reading_takes K Cw_Reading (Ends.ret Q) (start N_Reading_takes vs) H := by
  obtain ⟨p, dx, l1, l2, st, w, B, hp, s, q⟩ := FnRd.st h N_Reading_takes
  replace s : St K [p, l1, l2] B H (rdO K Cw_Reading.C p dx l1 l2 st ++ []) [ca p, ce w] (start N_Reading_takes vs) B H := s
  refine s.rdIte (i := 0) (b := st.cl) rfl (fun B' b' sl => t_B (e_rcl (Cw := Cw_Reading) (sl.v (x := objF Cw_Reading.C (rdG st)) 0 rfl))) (fun hb B1 H1 s1 => ?_) fun hb B1 H1 s1 => ?_
  · have e : tk st w = (false, st) := by
      unfold tk
      rw [if_pos hb]
    exact St.ret (D := { Ends.ret Q with nx := _ }) (x := false) s1 e_bl fun v B3 H3 s3 hv => by
      cases (show v = .bl false from at_bl.mp hv)
      exact q _ _ B3 H3 false (by rw [e]) (by rw [e]; exact s3)
  · show tIf (tB (tFld K (tVar 0) "is_parted")) (tMeth Cw_Reading.C "takes_pair" (sp_Reading_takes_pair K Cw_Reading) [] E0 (tVar 0) (tCons (tVar 1) tNil)) (tMeth Cw_Reading.C "takes_switch" (sp_Reading_takes_switch K Cw_Reading) [] E0 (tVar 0) (tCons (tVar 1) tNil)) (start N_Reading_takes vs) H1 Q
    refine s1.rdT (i := 0) (b := st.pt) (tt := tB (tFld K (tVar 0) "is_parted")) rfl (fun B' b' sl => t_B (e_rpt (Cw := Cw_Reading) (sl.v (x := objF Cw_Reading.C (rdG st)) 0 rfl))) (Q := fun b H2 => if b = true then tMeth Cw_Reading.C "takes_pair" (sp_Reading_takes_pair K Cw_Reading) [] E0 (tVar 0) (tCons (tVar 1) tNil) (start N_Reading_takes vs) H2 Q else tMeth Cw_Reading.C "takes_switch" (sp_Reading_takes_switch K Cw_Reading) [] E0 (tVar 0) (tCons (tVar 1) tNil) (start N_Reading_takes vs) H2 Q) fun H2 u2 => ?_
    have s2 := s1.up u2
    cases hpt : st.pt with
    | true =>
      rw [if_pos rfl]
      have e : tk st w = tkPr st w := by
        unfold tk
        rw [if_neg (by rw [hb]; decide), if_pos hpt]
      exact s2.rdMeth (w := w) rfl (by decide) (s2.v (x := w) 1 rfl) hp fun B3 H3 s3 => q _ _ B3 H3 _ (by rw [e]) (by rw [e]; exact s3)
    | false =>
      rw [if_neg (by decide)]
      have e : tk st w = tkSw st w := by
        unfold tk
        rw [if_neg (by rw [hb]; decide), if_neg (by rw [hpt]; decide)]
      exact s2.rdMeth (w := w) rfl (by decide) (s2.v (x := w) 1 rfl) hp fun B3 H3 s3 => q _ _ B3 H3 _ (by rw [e]) (by rw [e]; exact s3)
/-! ### is_whole -/
def sp_Reading_is_whole (K : PySem.W.Frag) (Cw_Reading : CwR K) : Sp := fun vs H Q _ => ∃ p dx l1 l2 st B, Ex B H ∧ OAs (rdO K Cw_Reading.C p dx l1 l2 st) B H ∧ [p, l1, l2].Nodup ∧ vs = [.ref p] ∧
  ∀ B2 H2, UbW [p, l1, l2] B H B2 H2 → OAs (rdO K Cw_Reading.C p dx l1 l2 st) B2 H2 → Q (.bl (wholeB st)) H2
def N_Reading_is_whole : List Str := ["self"]
def t_Reading_is_whole (K : PySem.W.Frag) (Cw_Reading : ClsF K ["switches", "exclusions", "is_parted", "is_closed"]) : TS :=
  (tRet (tOrV (tFld K (tVar 0) "is_closed") (tOp (rGtU K) (tCB (rLenU K) (tCons (tFld K (tVar 0) "exclusions") tNil)) (tC (.int 0)))))
theorem l_Reading_is_whole (vs : List V) (H : Hp) (Q : VK) (E : XK) (h : sp_Reading_is_whole K Cw_Reading vs H Q E) : vs.length = 1 := by
  obtain ⟨p, dx, l1, l2, st, B, _, _, _, rfl, _⟩ := h
  rfl
theorem r_Reading_is_whole (vs : List V) (H : Hp) (Q : VK) (E : XK) (h : sp_Reading_is_whole K Cw_Reading vs H Q E) : t_Reading_is_whole K Cw_Reading (Ends.ret Q) (start N_Reading_is_whole vs) H := by
  obtain ⟨p, dx, l1, l2, st, B, e, oa, nd, rfl, q⟩ := h
  have s : St K [p, l1, l2] B H (rdO K Cw_Reading.C p dx l1 l2 st ++ []) [ca p] (start N_Reading_is_whole [.ref p]) B H := ⟨Ex.refl B, e, fun _ _ _ h => h, fun _ h => h, fun _ h => .inl h, fun o ho => by
    rw [List.append_nil] at ho
    obtain ⟨h1, h2⟩ := oa o ho
    refine ⟨h1, .inl ?_, h2⟩
    unfold rdO at ho
    simp only [List.mem_cons, List.not_mem_nil, or_false] at ho
    rcases ho with e | e | e <;> (rw [e]; simp [insC, lstC]), by rw [List.append_nil]; exact nd, start_slots [.ref p] [ca p] 0 (.cons (At1.some rfl) .nil)⟩
  refine s.rdRet (D := Ends.ret Q) (i := 0) (x := wholeB st) rfl (fun B' b' sl => (e_orV (e_rcl (Cw := Cw_Reading) (sl.v (x := objF Cw_Reading.C (rdG st)) 0 rfl)) fun _ => e_gt (e_lenL (e_rex (Cw := Cw_Reading) (sl.v (x := objF Cw_Reading.C (rdG st)) 0 rfl))) (e_int (i := 0))).is (by
    unfold wholeB
    congr 1
    rw [← decide_not]
    refine decide_eq_decide.mpr ?_
    rw [← ne_eq, ← List.length_pos_iff]
    omega)) fun v B2 H2 s2 hv => ?_
  rw [at_bl.mp hv]
  exact q B2 H2 ⟨s2.bb, s2.bh, s2.hh, s2.nw⟩ s2.oas
end
/-! ### __init__ -/
section
variable {K : PySem.W.Frag} {W0 : List Addr} {B0 H0 : Hp} {os : List OC} {Γ : List (Option Cell)} {σ : L2.St} {B H B1 H1 : Hp} {te ta tb tc : TE} {tt : TT} {D : Ends} {tu tw tz : TS} {i k : Nat} {C p dx l1 l2 : Addr} {st : RdS} {ns : List Str} {Cw : ClsF K ns} {fz : List (Str × Cell)} {f : Str}
/-- self.f = [], a new attribute -/
theorem St.setFN (α : Type) [Rep α] (s : St K W0 B0 H0 os Γ σ B H) (h : os[k]? = some (insC K p Cw.C dx fz)) (hi : cg Γ i = ca p) (hp : fz.map (·.1) ++ [f] <+: ns) (hn : ns.Nodup) (hz : fz.length ≤ 100)
    (q : ∀ l B1 H1, St K W0 B0 H0 (os.set k (insC K p Cw.C dx (fz ++ [fc f (Any.mk (.ref l))])) ++ [lstC K l ([] : List α)]) Γ σ B1 H1 → tz D σ H1) : tSeq (sFld K (tVar i) (tLst tNil) f) tz D σ H := by
  refine ⟨Nat.zero_le _, fun l hl => ?_⟩
  have s1 := s.add (ob := .lst []) hl (lstC K l ([] : List α)) rfl ⟨[], rfl, .nil⟩
  have hk : k < os.length := (List.getElem?_eq_some_iff.mp h).1
  have h' : (os ++ [lstC K l ([] : List α)])[k]? = some (insC K p Cw.C dx fz) := by rw [List.getElem?_append_left hk]; exact h
  obtain ⟨hf, hm⟩ := pre_new hp hn
  obtain ⟨hb, fs, h3, h4⟩ := s1.ins h'
  refine ⟨.ref p, s1.sl.rf i hi, p, Cw.C, dx, fs, rfl, h3, Cw.cl, Cw.no f hm, by rw [h4.len]; omega, ?_⟩
  rw [putF_new (h4.none_ hf)]
  have s2 := s1.chg (o' := insC K p Cw.C dx (fz ++ [fc f (Any.mk (.ref l))])) (ob := .ins Cw.C dx (fs ++ [(f, .ref l)])) h' rfl ⟨_, rfl, h4.snoc (d := ⟨Any, inferInstance, Any.mk (.ref l)⟩) rfl⟩
  rw [List.set_append_left _ _ hk] at s2
  exact q l B _ s2
end
section
variable {K : PySem.W.Frag} {Cw_Reading : CwR K}
def sp_Reading_init (K : PySem.W.Frag) (Cw_Reading : CwR K) : Sp := fun vs H Q _ => ∃ p dx B, vs = [.ref p] ∧ Ex B H ∧ B p = none ∧ H p = some (.ins Cw_Reading.C dx []) ∧
  ∀ l1 l2 B2 H2, UbW [p] B H B2 H2 → OAs (rdO K Cw_Reading.C p dx l1 l2 rd0) B2 H2 → [p, l1, l2].Nodup → H l1 = none → H l2 = none → Q .non H2
def N_Reading_init : List Str := ["self"]
def t_Reading_init (K : PySem.W.Frag) (Cw_Reading : ClsF K ["switches", "exclusions", "is_parted", "is_closed"]) : TS :=
  (tSeq (sFld K (tVar 0) (tLst tNil) "switches")
    (tSeq (sFld K (tVar 0) (tLst tNil) "exclusions")
    (tSeq (sFld K (tVar 0) (tC (.bl false)) "is_parted")
    (sFld K (tVar 0) (tC (.bl false)) "is_closed"))))
theorem l_Reading_init (vs : List V) (H : Hp) (Q : VK) (E : XK) (h : sp_Reading_init K Cw_Reading vs H Q E) : vs.length = 1 := by
  obtain ⟨p, dx, B, rfl, _⟩ := h
  rfl
theorem r_Reading_init (vs : List V) (H : Hp) (Q : VK) (E : XK) (h : sp_Reading_init K Cw_Reading vs H Q E) : t_Reading_init K Cw_Reading (Ends.ret Q) (start N_Reading_init vs) H := by
  obtain ⟨p, dx, B, rfl, e, hb, hp, q⟩ := h
  have s : St K [p] B H [insC K p Cw_Reading.C dx []] [ca p] (start N_Reading_init [.ref p]) B H := St.startI e hb hp (start_slots [.ref p] [ca p] 0 (.cons (At1.some rfl) .nil))
  refine s.setFN Str (k := 0) rfl rfl (by show (["switches"] : List Str) <+: _; exact ⟨_, rfl⟩) (by decide) (by decide) fun l1 B1 H1 s1 => ?_
  refine s1.setFN (Tup Str) (k := 0) rfl rfl (by show (["switches", "exclusions"] : List Str) <+: _; exact ⟨_, rfl⟩) (by decide) (by show 1 ≤ 100; decide) fun l2 B2 H2 s2 => ?_
  refine s2.qsetF (x := false) (k := 0) rfl rfl (by show (["switches", "exclusions", "is_parted"] : List Str) <+: _; exact ⟨_, rfl⟩) (by decide) (by show 2 ≤ 100; decide) e_bl fun B3 H3 s3 => ?_
  refine s3.setF (x := false) (k := 0) rfl rfl (by show (["switches", "exclusions", "is_parted", "is_closed"] : List Str) <+: _; exact ⟨_, rfl⟩) (by decide) (by show 3 ≤ 100; decide) e_bl fun B4 H4 s4 => ?_
  have s5 : St K [p] B H (rdO K Cw_Reading.C p dx l1 l2 rd0 ++ []) [ca p] (start N_Reading_init [.ref p]) B4 H4 := s4
  have n3 := s5.rd3
  have n3' := n3
  simp only [List.nodup_cons, List.mem_cons, List.not_mem_nil, or_false, not_or] at n3'
  refine q l1 l2 B4 H4 ⟨s5.bb, s5.bh, s5.hh, s5.nw⟩ s5.oas n3 ?_ ?_
  · rcases (s5.own (lstC K l1 (rd0).sw) (by simp [rdO])).2.1 with z | z
    · exact absurd (List.mem_singleton.mp z).symm n3'.1.1
    · exact z
  · rcases (s5.own (lstC K l2 (rd0).ex) (by simp [rdO])).2.1 with z | z
    · exact absurd (List.mem_singleton.mp z).symm n3'.1.2
    · exact z
/-! ### panel_in -/
theorem tk_grow (st : RdS) (w : Str) : (tk st w).2.sw.length ≤ st.sw.length + 1 ∧ (tk st w).2.ex.length ≤ st.ex.length + 1 := by
  unfold tk tkPr tkSw
  split
  · exact ⟨Nat.le_succ _, Nat.le_succ _⟩
  · split
    · split
      · exact ⟨Nat.le_succ _, Nat.le_succ _⟩
      · split
        · exact ⟨Nat.le_succ _, by simp⟩
        · exact ⟨Nat.le_succ _, Nat.le_succ _⟩
    · split
      · exact ⟨Nat.le_succ _, Nat.le_succ _⟩
      · split
        · exact ⟨by simp, Nat.le_succ _⟩
        · exact ⟨Nat.le_succ _, Nat.le_succ _⟩
theorem St.rdMake {Γ : List (Option Cell)} {σ : L2.St} {B0 H0 B H : Hp} {D : Ends} {tz : TS} {tb : TE} {α : Type} [Rep α] {y : α} {E : XK} {i j : Nat} (s : St K [] B0 H0 [] Γ σ B H) (hb : Pe K tb σ B y)
    (k : ∀ p dx l1 l2 σ1 B1 H1, St K [] B0 H0 (rdO K Cw_Reading.C p dx l1 l2 rd0 ++ []) (cs (cs Γ i (ca p)) j (ce y)) σ1 B1 H1 → tz D σ1 H1) : tSeq (tPar i j (tCons (tMake Cw_Reading.C (sp_Reading_init K Cw_Reading) [] E tNil) (tCons tb tNil))) tz D σ H := by
  refine fun p dx hp hdx hne => ?_
  refine ⟨p, dx, B, rfl, made_ex s.bh hp hdx, Evl.fresh_back s.bh hp, upd_same, fun l1 l2 B2 H2 u t nd h1 h2 => ⟨rfl, ?_⟩⟩
  have back : ∀ a, (upd (upd H dx (.own p)) p (.ins Cw_Reading.C dx [])) a = none → H a = none := fun a ha => by
    by_cases e : a = p
    · rw [e]; exact hp
    · rw [upd_ne e] at ha
      by_cases e2 : a = dx
      · rw [e2]; exact hdx
      · rw [upd_ne e2] at ha
        exact ha
  have base : ∀ a, H a = none → H0 a = none := fun a ha => by
    cases q : H0 a with
    | none => rfl
    | some o => exact absurd ha (s.dm a (by rw [q]; exact fun z => nomatch z))
  have keep : ∀ a w, H a = some w → H2 a = some w := fun a w ha => by
    have n1 : a ≠ p := ne_of_none ha hp
    refine u.hh a w (by simpa using n1) ?_
    rw [upd_ne n1, upd_ne (ne_of_none ha hdx)]
    exact ha
  have s2 : St K [] B0 H0 (rdO K Cw_Reading.C p dx l1 l2 rd0 ++ []) Γ σ B2 H2 := by
    refine ⟨s.bb.trans u.bb, u.bh, fun a w ha h0 => keep a w (s.hh a w ha h0), fun a h => ?_, fun a h => ?_, fun o ho => ?_, by rw [List.append_nil]; exact nd, s.sl.mono u.bb⟩
    · cases q : H a with
      | none => exact absurd q (s.dm a h)
      | some w =>
        rw [keep a w q]
        exact fun z => nomatch z
    · rcases u.nw a h with z | z
      · exact s.nw a z
      · exact .inr (base a (back a z))
    · rw [List.append_nil] at ho
      obtain ⟨g1, g2⟩ := t o ho
      refine ⟨g1, .inr (base _ ?_), g2⟩
      unfold rdO at ho
      simp only [List.mem_cons, List.not_mem_nil, or_false] at ho
      rcases ho with e | e | e
      · rw [e]; exact hp
      · rw [e]; exact back _ h1
      · rw [e]; exact back _ h2
  refine (hb.mono u.bb) H2 s2.bh _ fun w B3 H3 u3 hw => ⟨.ref p, w, rfl, ?_⟩
  exact k p dx l1 l2 _ B3 H3 (((s2.up u3).put (x := Any.mk (.ref p)) i rfl).put j hw)
theorem pn_core {ts1 ts2 : TS} {Q : VK} {x : Str} {ws : List Str} {B H : Hp} {σ : L2.St} (s : St K [] B H [] [ce x, none, none, none, none] σ B H) (hx : x.length ≤ 100000) (hws : ws = Txt.split x " ")
    (bad1 : ∀ k : Nat, panIn ws = .inl k → ∀ (D : Ends) (os : List OC) (σ' : L2.St) (B2 H2 : Hp) (p : Addr) (w : Str), St K [] B H os [ce x, ca p, ce ws, ce (k : Int), ce w] σ' B2 H2 → ts1 D σ' H2)
    (bad2 : panIn ws = .inl ws.length → ∀ (D : Ends) (os : List OC) (σ' : L2.St) (B2 H2 : Hp) (p : Addr), St K [] B H os [ce x, ca p, ce ws, none, none] σ' B2 H2 → ts2 D σ' H2)
    (ok : ∀ st, panIn ws = .inr st → ∀ v B2 H2, Up B H B2 H2 → Rep.at_ K B2 v (DD.mk (pairsD st.sw st.ex)) → Q v H2) :
    (tSeq (tPar 1 2 (tCons (tMake Cw_Reading.C (sp_Reading_init K Cw_Reading) [] E0 tNil) (tCons (tSplit (tVar 0) (tC (.str " "))) tNil)))
    (tSeq (tFor (iEnum K (tCons (tVar 2) tNil)) (gUnp K 2 (gCons (gName 3) (gCons (gName 4) gNil))) (tIfS (tNot (tB (tMeth Cw_Reading.C "takes" (sp_Reading_takes K Cw_Reading) [] E0 (tVar 1) (tCons (tVar 4) tNil)))) ts1 tNext))
    (tSeq (tIfS (tNot (tB (tMeth Cw_Reading.C "is_whole" (sp_Reading_is_whole K Cw_Reading) [] E0 (tVar 1) tNil))) ts2 tNext)
    (tRet (tTup (tCons (tCB (rTupleU K) (tCons (tFld K (tVar 1) "switches") tNil)) (tCons (tCB (rTupleU K) (tCons (tFld K (tVar 1) "exclusions") tNil)) tNil))))))) (Ends.ret Q) σ H := by
  obtain ⟨z1, z2, z3⟩ := split_sum x sp_ne k_sp
  rw [← hws] at z1 z2 z3
  refine s.rdMake (y := ws) (hws ▸ e_split (s.v (x := x) 0 rfl) e_str (by rw [len_one]; rfl) (by omega)) fun p dx l1 l2 σ1 B1 H1 s1 => ?_
  replace s1 : St K [] B H (rdO K Cw_Reading.C p dx l1 l2 rd0 ++ []) [ce x, ca p, ce ws, none, none] σ1 B1 H1 := s1
  refine s1.qforG (δ := RdS) (it_enumL (s1.v (x := ws) 2 rfl)) (fun _ d => rdO K Cw_Reading.C p dx l1 l2 d ++ []) (fun _ _ => [ce x, ca p, ce ws, none, none]) (fun done d => runRd 0 rd0 ws = runRd done.length d (ws.drop done.length) ∧ d.sw.length ≤ done.length ∧ d.ex.length ≤ done.length) ⟨rd0, ⟨rfl, Nat.zero_le _, Nat.zero_le _⟩, fun _ _ s2 => s2⟩ (fun done c rest d ex hP v σ' B' H' N hN s3 hv2 => ?_) fun d hP σ3 B3 H3 s3 => ?_
  · obtain ⟨j, w⟩ := c
    obtain ⟨ej, hget, htk⟩ := enum_at87 ex
    obtain ⟨hrun, b1, b2⟩ := hP
    obtain ⟨a0, v1, v2, rfl, hs, k1, k2⟩ := at_pair.mp hv2
    refine .inl ⟨a0, _, rfl, ex_tx s3.bh hs, rfl, _, _, rfl, _, _, rfl, rfl, ?_⟩
    have s4 : St K ((rdO K Cw_Reading.C p dx l1 l2 d ++ []).map fun o : OC => o.l) B' H' (rdO K Cw_Reading.C p dx l1 l2 d ++ []) [ce x, ca p, ce ws, ce j, ce w] ((σ'.set 3 (some v1)).set 4 (some v2)) B' H' := (s3.here.put 3 k1).put 4 k2
    have hlt := (List.getElem?_eq_some_iff.mp hget).1
    have hw2 : ws[done.length] = w := (List.getElem?_eq_some_iff.mp hget).2
    have hdr : ws.drop done.length = w :: ws.drop (done.length + 1) := by rw [← hw2, ← List.drop_eq_getElem_cons hlt]
    rw [hdr] at hrun
    have hrun' : runRd 0 rd0 ws = if (tk d w).1 = true then runRd (done.length + 1) (tk d w).2 (ws.drop (done.length + 1)) else .inl done.length := hrun
    have hwl : w.length ≤ 1000000 := by
      have := word_small sp_ne k_sp (hws ▸ List.mem_of_getElem? hget)
      omega
    refine s4.rdMeth (w := w) (pre := RdPre) (f := tk) (i := 1) rfl (by decide) (s4.v (x := w) 4 rfl) ⟨hwl, by omega, by omega⟩ fun B5 H5 s5 => ⟨_, rfl, ?_⟩
    have hgr := tk_grow d w
    cases ht : (tk d w).1 with
    | true =>
      rw [ht, if_pos rfl] at hrun'
      refine hN (tk d w).2 (B3 := B5) ⟨by rw [List.length_append, List.length_singleton]; exact hrun', by rw [List.length_append, List.length_singleton]; omega, by rw [List.length_append, List.length_singleton]; omega⟩ (s5.fg [3, 4])
    | false =>
      rw [ht, if_neg (by decide)] at hrun'
      have hpi : panIn ws = .inl done.length := by
        unfold panIn
        rw [hrun']
      subst ej
      exact bad1 done.length hpi _ _ _ B5 H5 p w (s3.comp s5)
  · obtain ⟨hrun, _, _⟩ := hP
    rw [enumI_len, List.drop_length] at hrun
    have hrun' : runRd 0 rd0 ws = .inr d := hrun
    replace s3 : St K [] B H (rdO K Cw_Reading.C p dx l1 l2 d ++ []) [ce x, ca p, ce ws, none, none] σ3 B3 H3 := s3
    obtain ⟨us1, us2, _, _, g1, _, _, _, _⟩ := s3.rdParts
    refine ⟨.ref p, s3.sl.rf 1 rfl, p, dx, _, rfl, g1, rdV_no (by decide), p, dx, l1, l2, d, B3, s3.bh, s3.oas, s3.rd3, rfl, fun B4 H4 u4 t4 => ⟨_, rfl, ?_⟩⟩
    have s4 := s3.ubRd u4 t4
    cases hw : wholeB d with
    | true =>
      have hpi : panIn ws = .inr d := by
        unfold panIn
        rw [hrun']
        show (if wholeB d = true then _ else _) = _
        rw [if_pos hw]
      simp only [Bool.not_true, Bool.false_eq_true, if_false]
      exact s4.rdRet (D := Ends.ret Q) (i := 1) (x := ((Tup.mk d.sw, Tup.mk d.ex) : Tup Str × Tup (Tup Str))) rfl (fun B' b' sl => e_pair (e_tupL (e_rsw (Cw := Cw_Reading) (sl.v (x := objF Cw_Reading.C (rdG d)) 1 rfl))) (e_tupL (e_rex (Cw := Cw_Reading) (sl.v (x := objF Cw_Reading.C (rdG d)) 1 rfl)))) fun v B5 H5 s5 hv => ok d hpi v B5 H5 s5.toUp hv
    | false =>
      have hpi : panIn ws = .inl ws.length := by
        unfold panIn
        rw [hrun']
        show (if wholeB d = true then _ else _) = _
        rw [if_neg (by rw [hw]; decide)]
      simp only [Bool.not_false, if_true]
      exact bad2 hpi _ _ _ B4 H4 p s4
def PnI (x : Str) : Prop := x.length ≤ 100000 ∧ ∃ st, panIn (Txt.split x " ") = .inr st
abbrev sp_panel_in (K : PySem.W.Frag) : Sp := Fn1 K PnI fun x => DD.mk (outP (Txt.split x " "))
def N_panel_in : List Str := ["text", "reading", "words", "at", "word"]
def t_panel_in (K : PySem.W.Frag) (Cw_Reading : ClsF K ["switches", "exclusions", "is_parted", "is_closed"]) : TS :=
  (tSeq (tPar 1 2 (tCons (tMake Cw_Reading.C (sp_Reading_init K Cw_Reading) [] E0 tNil) (tCons (tSplit (tVar 0) (tC (.str " "))) tNil)))
    (tSeq (tFor (iEnum K (tCons (tVar 2) tNil)) (gUnp K 2 (gCons (gName 3) (gCons (gName 4) gNil))) (tIfS (tNot (tB (tMeth Cw_Reading.C "takes" (sp_Reading_takes K Cw_Reading) [] E0 (tVar 1) (tCons (tVar 4) tNil)))) tNever tNext))
    (tSeq (tIfS (tNot (tB (tMeth Cw_Reading.C "is_whole" (sp_Reading_is_whole K Cw_Reading) [] E0 (tVar 1) tNil))) tNever tNext)
    (tRet (tTup (tCons (tCB (rTupleU K) (tCons (tFld K (tVar 1) "switches") tNil)) (tCons (tCB (rTupleU K) (tCons (tFld K (tVar 1) "exclusions") tNil)) tNil)))))))
theorem l_panel_in (vs : List V) (H : Hp) (Q : VK) (E : XK) (h : sp_panel_in K vs H Q E) : vs.length = 1 := Fn1.len vs H Q E h
theorem r_panel_in (vs : List V) (H : Hp) (Q : VK) (E : XK) (h : sp_panel_in K vs H Q E) : t_panel_in K Cw_Reading (Ends.ret Q) (start N_panel_in vs) H := by
  obtain ⟨x, B, ⟨hz, st, hg⟩, s, q⟩ := Fn1.st (E := E) h N_panel_in
  replace s : St K [] B H [] [ce x, none, none, none, none] (start N_panel_in vs) B H := s
  refine pn_core s hz rfl (fun k hk => ?_) (fun hk => ?_) fun st' h' v B2 H2 u hv => q v B2 H2 u ?_
  · rw [hg] at hk
    cases hk
  · rw [hg] at hk
    cases hk
  · show Rep.at_ K B2 v (DD.mk (outP (Txt.split x " ")))
    unfold outP
    rw [h']
    exact hv
def sp_panel_inX (K : PySem.W.Frag) : Sp := fun vs H Q E => ∃ (x : Str) (B : Hp), Ex B H ∧ RCons K x RNil vs B ∧ x.length ≤ 100000 ∧
  ((∀ k, outP (Txt.split x " ") ≠ .int k) → ∀ v B2 H2, Up B H B2 H2 → Rep.at_ K B2 v (DD.mk (outP (Txt.split x " "))) → Q v H2) ∧
  (∀ k, outP (Txt.split x " ") = .int k → ∀ d v B2 H2, Up B H B2 H2 → B2 d = some (.xd [("at", v)]) → Rep.at_ K B2 v k → E (.ref (cBad K)) (some d) H2)
def N_panel_inX : List Str := ["text", "reading", "words", "at", "word"]
def t_panel_inX (K : PySem.W.Frag) (Cw_Reading : ClsF K ["switches", "exclusions", "is_parted", "is_closed"]) (E : XK) : TS :=
  (tSeq (tPar 1 2 (tCons (tMake Cw_Reading.C (sp_Reading_init K Cw_Reading) [] E0 tNil) (tCons (tSplit (tVar 0) (tC (.str " "))) tNil)))
    (tSeq (tFor (iEnum K (tCons (tVar 2) tNil)) (gUnp K 2 (gCons (gName 3) (gCons (gName 4) gNil))) (tIfS (tNot (tB (tMeth Cw_Reading.C "takes" (sp_Reading_takes K Cw_Reading) [] E0 (tVar 1) (tCons (tVar 4) tNil)))) (tRaiseNs (He.ga K "BadText") "at" E (tCons (tVar 3) tNil)) tNext))
    (tSeq (tIfS (tNot (tB (tMeth Cw_Reading.C "is_whole" (sp_Reading_is_whole K Cw_Reading) [] E0 (tVar 1) tNil))) (tRaiseNs (He.ga K "BadText") "at" E (tCons (tCB (rLenU K) (tCons (tVar 2) tNil)) tNil)) tNext)
    (tRet (tTup (tCons (tCB (rTupleU K) (tCons (tFld K (tVar 1) "switches") tNil)) (tCons (tCB (rTupleU K) (tCons (tFld K (tVar 1) "exclusions") tNil)) tNil)))))))
theorem l_panel_inX (vs : List V) (H : Hp) (Q : VK) (E : XK) (h : sp_panel_inX K vs H Q E) : vs.length = 1 := by
  obtain ⟨_, _, _, ⟨v, _, rfl, h1, rfl⟩, _⟩ := h
  rfl
theorem raise87 {Γ : List (Option Cell)} {σ : L2.St} {B0 H0 B H : Hp} {os : List OC} {ta : TE} {E : XK} {D : Ends} {z : Int} (h : Pe K ta σ B z) (s : St K [] B0 H0 os Γ σ B H) (q : ∀ d v B2 H2, Up B0 H0 B2 H2 → B2 d = some (.xd [("at", v)]) → Rep.at_ K B2 v z → E (.ref (cBad K)) (some d) H2) : tRaiseNs (cBad K) "at" E (tCons ta tNil) D σ H := St.raiseG h s q
theorem r_panel_inX (vs : List V) (H : Hp) (Q : VK) (E : XK) (h : sp_panel_inX K vs H Q E) : t_panel_inX K Cw_Reading E (Ends.ret Q) (start N_panel_inX vs) H := by
  obtain ⟨x, B, e, ⟨v, _, rfl, k1, rfl⟩, hz, qt, qb⟩ := h
  have s : St K [] B H [] [ce x, none, none, none, none] (start N_panel_inX [v]) B H := St.pure e (start_slots [v] [ce x] 4 (.cons (At1.some k1) .nil))
  obtain ⟨z1, z2, z3⟩ := split_sum x sp_ne k_sp
  have ho : ∀ k : Nat, panIn (Txt.split x " ") = .inl k → outP (Txt.split x " ") = .int (k : Int) := fun k hk => by
    unfold outP
    rw [hk]
  refine pn_core s hz rfl (fun k hk D os σ' B2 H2 p w s2 => ?_) (fun hk D os σ' B2 H2 p s2 => ?_) fun st' h' v B2 H2 u hv => ?_
  · exact raise87 (z := (k : Int)) (s2.v (x := (k : Int)) 3 rfl) s2 fun d v B4 H4 u4 hd hw => qb _ (ho k hk) d v B4 H4 u4 hd hw
  · exact raise87 (z := ((Txt.split x " ").length : Int)) (e_lenL (s2.v (x := Txt.split x " ") 2 rfl)) s2 fun d v B4 H4 u4 hd hw => qb _ (ho _ hk) d v B4 H4 u4 hd hw
  · have ho2 : outP (Txt.split x " ") = pairsD st'.sw st'.ex := by
      unfold outP
      rw [h']
    refine qt (by rw [ho2]; exact fun k z => by cases z) v B2 H2 u ?_
    rw [ho2]
    exact hv
end
end Ob
set_option Elab.async false
set_option linter.all false
set_option maxRecDepth 100000
set_option maxHeartbeats 4000000
/-! Kx: calls by names only, within a try. -/
set_option Elab.async false
set_option linter.all false
set_option maxRecDepth 100000
set_option maxHeartbeats 4000000
/-! Nw: a list of lists, none of which anybody else holds; calls of two that give one, or raise; a told list of such, changed at every depth. -/
namespace Ob
open PySem L2
open Evl (Ex)
open PySem.W (Datum Tup DatumOrd)
/-- v is a list that isn't in H0 -/
def New1 (H0 B : Hp) (v : V) : Prop := ∃ (a : Addr) (ws : List V), v = .ref a ∧ H0 a = none ∧ B a = some (.lst ws) ∧ ws.length ≤ 1000000
theorem New1.mono {H0 B B' : Hp} {v : V} (e : Ex B B') (h : New1 H0 B v) : New1 H0 B' v := by
  obtain ⟨a, ws, h1, h2, h3, h4⟩ := h
  exact ⟨a, ws, h1, h2, e _ _ h3, h4⟩
section
variable {K : PySem.W.Frag} {W0 : List Addr} {B0 H0 H9 : Hp} {os : List OC} {Γ : List (Option Cell)} {σ : L2.St} {B H B1 H1 : Hp} {te ta tb tc td tk tv t1 t2 : TE} {tt tt1 tp : TT} {D : Ends} {tu tw tz tr : TS} {C : Addr} {f : Str}
/-- a reading gives a list of lists that nobody else holds -/
def PeN (K : PySem.W.Frag) (te : TE) (σ : L2.St) (B : Hp) (xs : List (List Str)) : Prop := ∀ H, Ex B H → ∀ Q : VK, (∀ l us B1 H1, Up B H B1 H1 → B1 l = none → H l = none → H1 l = some (.lst us) → AtAll K B1 us xs → (∀ v ∈ us, New1 H B1 v) → Q (.ref l) H1) → te σ H Q
theorem PeN.pe {xs : List (List Str)} (h : PeN K te σ B xs) : Pe K te σ B xs := fun H e Q q => h H e Q fun l us B1 H1 u hb hh hl hA _ => q _ _ _ (up_lst u hb hh hl) (at_list.mpr ⟨l, us, rfl, Evl.sq_of upd_same, hA.mono (Ex.new hb)⟩)
variable {α β γ ε : Type} [Rep α] [Rep β] [Rep γ] [Rep ε] {vs : List V} {Q : VK} {E : XK}
/-- a def of two parameters that gives such a list -/
def FnN2 (K : PySem.W.Frag) (pre : α → β → Prop) (g : α → β → List (List Str)) : Sp := fun vs H Q _ => ∃ x y B, Ex B H ∧ RCons K x (RCons K y RNil) vs B ∧ pre x y ∧ ∀ l us B2 H2, Up B H B2 H2 → B2 l = none → H l = none → H2 l = some (.lst us) → AtAll K B2 us (g x y) → (∀ v ∈ us, New1 H B2 v) → Q (.ref l) H2
theorem FnN2.len {pre : α → β → Prop} {g : α → β → List (List Str)} (vs : List V) (H : Hp) (Q : VK) (E : XK) (h : FnN2 K pre g vs H Q E) : vs.length = 2 := by
  obtain ⟨x, y, B, e, ⟨v, r, rfl, h1, v2, r2, rfl, h2, rfl⟩, _⟩ := h
  rfl
/-- of three parameters -/
def FnN3 (K : PySem.W.Frag) (pre : α → β → γ → Prop) (g : α → β → γ → List (List Str)) : Sp := fun vs H Q _ => ∃ x y z B, Ex B H ∧ RCons K x (RCons K y (RCons K z RNil)) vs B ∧ pre x y z ∧ ∀ l us B2 H2, Up B H B2 H2 → B2 l = none → H l = none → H2 l = some (.lst us) → AtAll K B2 us (g x y z) → (∀ v ∈ us, New1 H B2 v) → Q (.ref l) H2
theorem FnN3.len {pre : α → β → γ → Prop} {g : α → β → γ → List (List Str)} (vs : List V) (H : Hp) (Q : VK) (E : XK) (h : FnN3 K pre g vs H Q E) : vs.length = 3 := by
  obtain ⟨x, y, z, B, e, ⟨v, r, rfl, h1, v2, r2, rfl, h2, v3, r3, rfl, h3, rfl⟩, _⟩ := h
  rfl
/-- of two parameters, or it raises, the field any thing -/
def FnZ2 (K : PySem.W.Frag) (C : Addr) (f : Str) (ok : Sp) (bad : α → β → ε → Prop) : Sp := fun vs H Q E => ok vs H Q E ∨ ∃ x y w B, Ex B H ∧ RCons K x (RCons K y RNil) vs B ∧ bad x y w ∧ ∀ d v B2 H2, Up B H B2 H2 → B2 d = some (.xd [(f, v)]) → Rep.at_ K B2 v w → E (.ref C) (some d) H2
variable {ok : Sp} {bad : α → β → ε → Prop} {w : L2.St → XK}
theorem FnZ2.len (hk : ∀ vs H Q E, ok vs H Q E → vs.length = 2) (vs : List V) (H : Hp) (Q : VK) (E : XK) (h : FnZ2 K C f ok bad vs H Q E) : vs.length = 2 := by
  rcases h with h | ⟨x, y, w, B, e, ⟨v, r, rfl, h1, v2, r2, rfl, h2, rfl⟩, _⟩
  · exact hk vs H Q E h
  · rfl
theorem Slots.lenN : ∀ {σ : L2.St} {Γ : List (Option Cell)}, Slots K B σ Γ → σ.length = Γ.length
  | _, _, .nil => rfl
  | _, _, .cons _ t => congrArg (· + 1) (Slots.lenN t)
end
end Ob
set_option Elab.async false
set_option linter.all false
set_option maxRecDepth 100000
set_option maxHeartbeats 4000000
/-! E87a: _law_read of k87. -/
namespace Ob
open PySem L2 TL
open Evl (Ex)
open PySem.W (Datum Tup DatumOrd)
section
variable {K : PySem.W.Frag} {H : Hp} {v : V} {te : TE} {σ : L2.St} {B : Hp} {W0 : List Addr} {B0 H0 : Hp} {os : List OC} {Γ : List (Option Cell)} {tt tt1 : TT} {D : Ends} {tu tz : TS} {b c : Bool} {tf : TE} {α : Type} [Rep α] {x : α}
theorem e_isNU87 (h : Pe K te σ B ()) : Pe K (tOp rIsN te (tC .non)) σ B true := fun H e Q q => h H e _ fun v B1 H1 u hv => by
  cases at_non.mp hv
  unfold rIsN
  exact ⟨rfl, q _ B1 H1 u (at_bl.mpr rfl)⟩
theorem e_isNR87 {a : Addr} (h : Pe K te σ B (Any.mk (.ref a))) : Pe K (tOp rIsN te (tC .non)) σ B false := fun H e Q q => h H e _ fun v B1 H1 u hv => by
  cases (show v = .ref a from hv)
  unfold rIsN
  exact ⟨rfl, q _ B1 H1 u (at_bl.mpr rfl)⟩
theorem St.no87 (s : St K W0 B0 H0 os Γ σ B H) (h : Ob.Pt tt σ B false) (k : ∀ B1 H1, Ex B B1 → St K W0 B0 H0 os Γ σ B1 H1 → tz D σ H1) : tSeq (tIfS tt tu tNext) tz D σ H := h H s.bh (fun b H1 => if b = true then tu { D with nx := tz D } σ H1 else tNext { D with nx := tz D } σ H1) fun B1 H1 u => k B1 H1 u.bb (s.up u)
theorem PtA.and87 (h : Ob.Pt tt σ B b) (h2 : ∀ B', Ex B B' → Ob.Pt tt1 σ B' c) : Ob.Pt (tAnd tt tt1) σ B (b && c) := fun H e Q q => h H e _ fun B1 H1 u => by
  cases b with
  | false => exact q B1 H1 u
  | true => exact h2 B1 u.bb H1 u.bh _ fun B2 H2 u2 => q B2 H2 (u.trans u2)
theorem PeA.ifT87 (h : Ob.Pt tt σ B true) (h2 : ∀ B', Ex B B' → Pe K te σ B' x) : Pe K (tIf tt te tf) σ B x := fun H e Q q => h H e _ fun B1 H1 u => h2 B1 u.bb H1 u.bh Q fun v B2 H2 u2 hv => q v B2 H2 (u.trans u2) hv
end
section
variable {K : PySem.W.Frag} {Ce : okX rows87 K = true}
def outR (x : Str) (w : Int) : PyData := if w = 0 then outP (Txt.split x " ") else outN (Txt.split x " ")
abbrev sp_Lread (K : PySem.W.Frag) : Sp := Fn2 K (fun (x : Str) (w : Int) => x.length ≤ 100000) fun x w => DD.mk (outR x w)
def N_Lread : List Str := ["_law_page_here", "_law_way", "_law_caught", "_law_told", "error"]
def t_Lread (K : PySem.W.Frag) (Ce : okX rows87 K = true) : TS :=
  (tSeq (tAsg (tTup (tCons (tC .non) (tCons (tC .non) tNil))) (gUnp K 2 (gCons (gName 2) (gCons (gName 3) gNil))))
    (tSeq (tTryH K [.ref (He.ga K "BadRow"), .ref (He.ga K "BadText")] 4 (fun W => (tAsg (tIf (tTest (tOp (rEqP K) (tVar 1) (tC (.int 0)))) (tCallS (sp_panel_inX K) (WE W) (tCons (tVar 0) tNil)) (tCallS (sp_names_inXF K) (WE W) (tCons (tVar 0) tNil))) (gName 3))) (fun _ _ _ => (tAsg (tVar 4) (gName 2))) (fun _ _ _ _ => False))
    (tSeq (tIfS (tTest (tOp (rIsN) (tVar 2) (tC .non))) (tRet (tVar 3)) tNext)
    (tRet (tIf (tAnd (tB (tCB (rIsY K) (tCons (tVar 2) (tCons (tC (.ref (He.ga K "BadText"))) tNil)))) (tB (tCB (rIsY K) (tCons (tVar 2) (tCons (tC (.ty "ValueError")) tNil))))) (tFldH (He.ga K "BadText") "at" (tVar 2)) (tC .non))))))
theorem l_Lread (vs : List V) (H : Hp) (Q : VK) (E : XK) (h : sp_Lread K vs H Q E) : vs.length = 2 := Fn2.len vs H Q E h
theorem r_Lread (vs : List V) (H : Hp) (Q : VK) (E : XK) (h : sp_Lread K vs H Q E) : t_Lread K Ce (Ends.ret Q) (start N_Lread vs) H := by
  obtain ⟨x, w, B, hz, s, q⟩ := Fn2.st h N_Lread
  replace s : St K [] B H [] [ce x, ce w, none, none, none] (start N_Lread vs) B H := s
  refine s.unp (x := ()) (y := ()) e_non e_non fun σ1 B1 H1 s1 => ?_
  replace s1 : St K [] B H [] [ce x, ce w, ce (), ce (), none] σ1 B1 H1 := s1
  have Tn : NsC K (cBad K) (He.ma K (cBad K) "__init__") "at" (bm29 0) (nid29 0) := nsX Ce 0 "BadText" "at" 0 rfl
  have xn : PySem.W.exmAny K (.ref (cBad K)) [.ref (He.ga K "BadRow"), .ref (cBad K)] = some true := exmX Ce (i := 0) (by decide)
  have knn : PySem.W.kitOne K (.ref (cBad K)) (.ref (cBad K)) = some true := kitX Ce (i := 0) (j := 0) (by decide) (by decide)
  have knr : PySem.W.kitOne K (.ref (cBad K)) (.type "ValueError") = some true := kitBX Ce (i := 0) (by decide)
  have hlen : 4 < σ1.length := by
    have := s1.sl.lenN
    rw [this]
    simp
  obtain ⟨Rs, hRs⟩ : ∃ Rs : TS, Rs = (tSeq (tIfS (tTest (tOp (rIsN) (tVar 2) (tC .non))) (tRet (tVar 3)) tNext)
    (tRet (tIf (tAnd (tB (tCB (rIsY K) (tCons (tVar 2) (tCons (tC (.ref (He.ga K "BadText"))) tNil)))) (tB (tCB (rIsY K) (tCons (tVar 2) (tCons (tC (.ty "ValueError")) tNil))))) (tFldH (He.ga K "BadText") "at" (tVar 2)) (tC .non)))) := ⟨_, rfl⟩
  obtain ⟨Wd, hWd⟩ : ∃ Wd : WX, Wd = wHold K [.ref (He.ga K "BadRow"), .ref (He.ga K "BadText")] 4 (fun _ _ _ => (tAsg (tVar 4) (gName 2))) (fun _ _ _ _ => False) { Ends.ret Q with nx := Rs (Ends.ret Q) } := ⟨_, rfl⟩
  have told : ∀ {d : PyData}, d = outR x w → ∀ v B3 H3, Up B1 H1 B3 H3 → Rep.at_ K B3 v (DD.mk d) → Rs (Ends.ret Q) (σ1.set 3 (some v)) H3 := fun {d} hd v B3 H3 u3 hv3 => by
    have s3 : St K [] B H [] [ce x, ce w, ce (), ce (DD.mk d), none] (σ1.set 3 (some v)) B3 H3 := (s1.up u3).put 3 hv3
    rw [hRs]
    refine s3.yes (t_test (e_isNU87 (s3.v (x := ()) 2 rfl))) fun B4 H4 s4 => ?_
    exact St.ret (D := { Ends.ret Q with nx := _ }) (x := DD.mk d) s4 (s4.v (x := DD.mk d) 3 rfl) fun w B5 H5 s5 hw => q w B5 H5 s5.toUp (hd ▸ hw)
  have bad : ∀ {n : Int}, outR x w = .int n → ∀ (d : Addr) (v : V) B3 H3, Up B1 H1 B3 H3 → B3 d = some (.xd [("at", v)]) → Rep.at_ K B3 v n → Wd (.ref (cBad K)) (some d) σ1 H3 := fun {n} hn d v B3 H3 u3 hd hv3 => by
    rw [hWd]
    refine ⟨true, xn, fun _ a na => ⟨.ref a, List.getElem?_set_self hlen, fun na' => ?_⟩, fun h => nomatch h⟩
    have w1 := Up.new (o := exH a (.ref (cBad K)) (some d)) u3.bh na'
    have s4 := (s1.up u3).up w1
    have s5 : St K [] B H [] [ce x, ce w, ca a, ce (), none] (((σ1.set 4 (some (.ref a))).set 2 (some (.ref a))).set 4 none) _ _ := s4.slot (((s4.sl.put 4 (o := some (.ref a)) At1.none).put 2 (At1.some (x := Any.mk (.ref a)) rfl)).put 4 At1.none)
    have ha : upd B3 a (exH a (.ref (cBad K)) (some d)) a = some (exH a (.ref (cBad K)) (some d)) := upd_same
    have hd5 := w1.bb _ _ hd
    have hv5 := Rep.mono w1.bb hv3
    show Rs (Ends.ret Q) (((σ1.set 4 (some (.ref a))).set 2 (some (.ref a))).set 4 none) (upd H3 a (exH a (.ref (cBad K)) (some d)))
    rw [hRs]
    refine s5.no87 (t_test (e_isNR87 (K := K) (a := a) (e_var (s5.sl.rf 2 rfl) rfl))) fun B6 H6 b6 s6 => ?_
    have hy : ∀ {B' : Hp} {c : V} {cv : Value} {r : Bool}, Ex B6 B' → (∀ u, RelV c u → u = cv) → PySem.W.kitOne K (.ref (cBad K)) cv = some r → Ob.Pt (tB (tCB (rIsY K) (tCons (tVar 2) (tCons (tC c) tNil)))) (((σ1.set 4 (some (.ref a))).set 2 (some (.ref a))).set 4 none) B' r := fun {B' c cv r} b hc hk => t_B (e_isYF (e_var ((s6.sl.mono b).rf 2 rfl) rfl) ((b6.trans b) _ _ ha) ((b6.trans b) _ _ hd5) Tn hc hk)
    refine St.ret (D := Ends.ret Q) (x := n) s6 (PeA.ifT87 (PtA.and87 (hy (c := .ref (cBad K)) (cv := .ref (cBad K)) (Ex.refl _) (fun u h => h) knn) fun B' b' => hy (c := .ty "ValueError") (cv := .type "ValueError") b' (fun u h => h) knr) fun B' b' => e_fldG (z := n) (e_var ((s6.sl.mono b').rf 2 rfl) rfl) ((b6.trans b') _ _ ha) ((b6.trans b') _ _ hd5) (Rep.mono (b6.trans b') hv5)) fun v B8 H8 s8 hw => q v B8 H8 s8.toUp (by
      show Rep.at_ K B8 v (DD.mk (outR x w))
      rw [hn]
      exact hw)
  have goal : tIf (tTest (tOp (rEqP K) (tVar 1) (tC (.int 0)))) (tCallS (sp_panel_inX K) (WE Wd) (tCons (tVar 0) tNil)) (tCallS (sp_names_inXF K) (WE Wd) (tCons (tVar 0) tNil)) σ1 H1 (fun v H3 => Rs (Ends.ret Q) (σ1.set 3 (some v)) H3) := by
    refine (t_test (e_eq (s1.v (x := w) 1 rfl) (e_int (i := 0)))) H1 s1.bh _ fun B2 H2 u2 => ?_
    have s2 := s1.up u2
    by_cases hw : w = 0
    · rw [decide_eq_true hw, if_pos rfl]
      have hR : outR x w = outP (Txt.split x " ") := if_pos hw
      show tCons (tVar 0) tNil σ1 H2 (fun vs H3 => sp_panel_inX K (vs ++ []) H3 (fun v H3 => Rs (Ends.ret Q) (σ1.set 3 (some v)) H3) (WE Wd σ1))
      refine a_1 (s2.v (x := x) 0 rfl) H2 s2.bh _ fun vs B3 H3 u3 hv => ?_
      rw [List.append_nil]
      exact ⟨x, B3, u3.bh, hv, hz, fun _ v B4 H4 u4 hv4 => told hR.symm v B4 H4 ((u2.trans u3).trans u4) hv4, fun k hk d v B4 H4 u4 hd hv4 => bad (by rw [hR, hk]) d v B4 H4 ((u2.trans u3).trans u4) hd hv4⟩
    · rw [decide_eq_false hw, if_neg (by decide)]
      have hR : outR x w = outN (Txt.split x " ") := if_neg hw
      show tCons (tVar 0) tNil σ1 H2 (fun vs H3 => sp_names_inXF K (vs ++ []) H3 (fun v H3 => Rs (Ends.ret Q) (σ1.set 3 (some v)) H3) (WE Wd σ1))
      refine a_1 (s2.v (x := x) 0 rfl) H2 s2.bh _ fun vs B3 H3 u3 hv => ?_
      rw [List.append_nil]
      exact ⟨x, B3, u3.bh, hv, hz, fun _ v B4 H4 u4 hv4 => told hR.symm v B4 H4 ((u2.trans u3).trans u4) hv4, fun k hk d v B4 H4 u4 hd hv4 => bad (by rw [hR, hk]) d v B4 H4 ((u2.trans u3).trans u4) hd hv4⟩
  subst hWd
  subst hRs
  exact goal
end
end Ob
set_option Elab.async false
set_option linter.all false
set_option maxRecDepth 100000
set_option maxHeartbeats 4000000
/-! Su: sorted(set(xs)) of a tuple of texts (as Ss does it for a list). -/
namespace Ob
open PySem PySem.Spec PyProof.Rows L2 PySem.Froz
open Evl (Ex)
section
variable {P : Program} {w : World} {A : Around} {E : Value → Shared → Prop} {s : Shared}
set_option maxHeartbeats 8000000 in
theorem setS_callT {l : Addr} {items : Array Value} (ns : List Str) {Q : Value → Shared → Prop} (hh : A.handled = none) (hl : s.heap.IsTuple l items) (hit : PySem.W.EachIs TxtIs items.toList ns) (hb : ns.length + 1 < scanBound)
    (h : ∀ (h' : Heap) (tk : Nat), SetS P w h' s.heap.objs.size (outK [] ns) → (∀ b o, s.heap.get? b = some o → h'.get? b = some o) → Q (.ref s.heap.objs.size) { s with heap := h', toks := tk }) :
    wpAny (model P w) A (call (.type "set") [.ref l]) Q E s := by
  have hisz : items.size = ns.length := by
    have q := hit.length
    rw [Array.length_toList] at q
    exact q
  obtain ⟨c, tl, hmro⟩ := F.called_set.mro
  have hmade := F.called_set.made
  have hsub := F.called_set.sub
  refine wpAny_call (codeAny_of_tree ?_)
  show wpAny _ _ (callAny (.type "set") _) _ _ _
  refine wpAny_pure ⟨Code.quiet_builtin _ (by decide +kernel), codeAny_builtin F.entry_type_call ?_⟩
  rw [Around.under_plain (weight_type_call_type "set" [.ref l] []) rfl]
  have h1 := F.called_set.notType
  have h2 := F.called_set.canCreate
  have hct := F.typeCall_set_1 (.ref l)
  repeat (any_goals (first | assumption | wp_step))
  refine codeAny_mono (code_set_led1 (.ref l) (E := E) (Q₁ := fun obj s₁ => obj = .ref s.heap.objs.size ∧ s₁ = { s with heap := s.heap.push { cls := .type "set", dict := none, data := .set #[] 0 (.fresh 0 0 (!w.params.followText "set-order")) } }) ⟨rfl, rfl⟩) fun r s₁ hr => ?_
  cases r with
  | error e => exact hr
  | ok fl =>
    cases fl with
    | ret obj =>
      obtain ⟨rfl, rfl⟩ := hr
      have hS : (s.heap.push { cls := .type "set", dict := none, data := .set #[] 0 (.fresh 0 0 (!w.params.followText "set-order")) }).get? s.heap.objs.size = some { cls := .type "set", dict := none, data := .set #[] 0 (.fresh 0 0 (!w.params.followText "set-order")) } := Heap.get?_push_size _ rfl
      have hT : Shared.TypeIs { s with heap := s.heap.push { cls := .type "set", dict := none, data := .set #[] 0 (.fresh 0 0 (!w.params.followText "set-order")) } } (.ref s.heap.objs.size) "set" := ⟨_, hS, rfl⟩
      have hli := F.called_set.init.lookup
      have hbi := F.called_set.init.bind (.ref s.heap.objs.size)
      repeat (any_goals (first | assumption | wp_step))
      refine codeAny_mono (codeAny_call_builtin (R := wants (fun r s₂ => r = .none ∧ ∃ h' tk, s₂ = { s with heap := h', toks := tk } ∧ SetS P w h' s.heap.objs.size (outK [] ns) ∧
          (∀ b o, s.heap.get? b = some o → h'.get? b = some o)) E) F.called_set.init.plain F.entry_set_init (check_set_init_1 hT ?_)) fun r₂ s₂ hr₂ => ?_
      · obtain ⟨ol, hol, hcl, nl, hdl⟩ := hl
        obtain ⟨ocls, odict, odata, oslots⟩ := ol
        simp only at hcl hdl
        subst hcl; subst hdl
        have hol' : (s.heap.push { cls := .type "set", dict := none, data := .set #[] 0 (.fresh 0 0 (!w.params.followText "set-order")) }).get? l = some { cls := .type "tuple", dict := odict, data := .seq items nl, slots := oslots } := Heap.get?_push_of_some _ hol
        have hsls := F.sub_tuple_set
        have hslf := F.sub_tuple_frozenset
        have hne : (Value.type "tuple" == Value.type "dict") = false := by decide
        have hl1 : (s.heap.push { cls := .type "set", dict := none, data := .set #[] 0 (.fresh 0 0 (!w.params.followText "set-order")) }).IsTuple l items := ⟨_, hol', rfl, nl, rfl⟩
        unfold Builtin.«set.__init__» noKeywords Builtin.Frozenset.updateFrom
        generalize hPI : pyIter = PI
        wp_walk
        subst hPI
        refine wpAny_pyIter_tuple hl1 ?_
        refine wpAny_bind (wpAny_runValue ?_)
        have hlS : l < s.heap.objs.size := Heap.lt_size hol
        have hh3 : A.in1.in1.in1.handled = none := by simp [hh]
        have hneI : l ≠ (s.heap.push { cls := .type "set", dict := none, data := .set #[] 0 (.fresh 0 0 (!w.params.followText "set-order")) }).objs.size := by
          rw [Heap.size_push]; exact Nat.ne_of_lt (Nat.lt_succ_of_lt hlS)
        have hSf : s.heap.objs.size ∉ [(s.heap.push { cls := .type "set", dict := none, data := .set #[] 0 (.fresh 0 0 (!w.params.followText "set-order")) }).objs.size, l] := by
          rw [Heap.size_push]; simp only [List.mem_cons, List.mem_singleton, List.not_mem_nil, or_false, not_or]
          exact ⟨Nat.ne_of_lt (Nat.lt_succ_self _), Nat.ne_of_gt hlS⟩
        have hval : ∀ (i : Nat) (v : Value), items[i]? = some v → ∃ k t, ns[i]? = some k ∧ v = .str k t := fun i v hv => by
          have key : ∀ {us : List Value} {ks : List Str}, PySem.W.EachIs TxtIs us ks → ∀ (i : Nat) (v : Value), us[i]? = some v → ∃ k t, ks[i]? = some k ∧ v = Value.str k t := by
            intro us ks e
            induction e with
            | nil => intro i v h; simp at h
            | cons h0 t0 ih0 =>
              intro i v h
              cases i with
              | zero =>
                simp at h
                obtain ⟨t, ht⟩ := h0
                exact ⟨_, t, rfl, by rw [← h, ht]⟩
              | succ i =>
                obtain ⟨k, t, h1, h2⟩ := ih0 i v (by simpa using h)
                exact ⟨k, t, by simpa using h1, h2⟩
          exact key hit i v (by rw [Array.getElem?_toList]; exact hv)
        refine setS_update ((Walks.tuple hh3 _ l hneI items).toS) s.heap.objs.size hSf ns hisz hb hval (items.size - 0) 0 _ [] (by omega) (Nat.zero_le _) ⟨⟨_, Heap.get?_push_size _ rfl, rfl, rfl⟩, (hl1.push _)⟩ (Nat.le_refl 0) ?hS0 ?hR
        case hS0 => exact setS_new (Heap.get?_push_of_some _ hS)
        case hR =>
          intro s' hm hS'
          obtain ⟨h', g2, d', tk', os'⟩ := s'
          have eg : g2 = s.gens := hm.gens
          have ed : d' = s.drawn := hm.drawn
          have eo : os' = s.os := hm.os
          subst eg; subst ed; subst eo
          show wpAny _ _ _ _ _ _
          refine wpAny_pure ?_
          show wpAny _ _ (ret Value.none) _ _ _
          refine wpAny_pure ⟨rfl, h', tk', rfl, hS', fun b o e => ?_⟩
          have hb0 : b < s.heap.objs.size := Heap.lt_size e
          have hb1 : b ≠ s.heap.objs.size := Nat.ne_of_lt hb0
          have hb2 : b ≠ (s.heap.push { cls := .type "set", dict := none, data := .set #[] 0 (.fresh 0 0 (!w.params.followText "set-order")) }).objs.size := by
            rw [Heap.size_push]; exact Nat.ne_of_lt (Nat.lt_succ_of_lt hb0)
          exact hm.heap b o (by simp only [List.mem_cons, List.mem_singleton, List.not_mem_nil, or_false, not_or]; exact ⟨hb1, hb2⟩) (Heap.get?_push_of_some _ (Heap.get?_push_of_some _ e))
      · cases r₂ with
        | error e => exact hr₂
        | ok fl₂ =>
          cases fl₂ with
          | ret r =>
            obtain ⟨rfl, h', tk, rfl, hS', hk'⟩ := hr₂
            repeat (any_goals (first | assumption | wp_step))
            exact h _ _ hS' hk'
          | _ => exact hr₂.elim
    | _ => exact hr.elim
end
section
variable {X : Cx}
def tSortSu (K : PySem.W.Frag) (ta : TE) : TE := fun σ H Q => ta σ H fun x H1 => ∃ (l : Addr) (xs : List Str), x = .ref l ∧ SqT K H1 l (xs.map V.str) ∧ xs.length ≤ 1000 ∧ ∀ p, H1 p = none → Q (.ref p) (upd H1 p (.lst ((sortD (outK [] xs)).map V.str)))
theorem pe_sortSu {a : Expr} {ta : TE} {p p2 q pos : Pos} (hc : X.calm = true) (hu : X.A.units + 150 < cLine) (hg : Gl X "sorted") (hm : X.mg "sorted" = none) (hg2 : Gl X "set") (hm2 : X.mg "set" = none) (ha : PE X a ta)
    (na : starEach [a] X.env = (false, eval a X.env) :: starEach [] X.env := by rfl) : PE X (.Call (.Name "sorted" p) [.Call (.Name "set" p2) [a] [] q] [] pos) (tSortSu X.K ta) := by
  refine ⟨fun pins s σ H Q I h => ?_⟩
  refine Call_ (ld_blt I hg hm (show bootBuiltins "sorted" = some (.builtin "sorted") by decide +kernel) ?_)
  refine PyProof.Rows.callWith_builtin1 (PyProof.Rows.args_cons ?_ rfl) rfl rfl
  refine Call_ (ld_blt I hg2 hm2 boot_set ?_)
  refine PyProof.Rows.callWith_type1 (PyProof.Rows.args_cons (thn (ha.run pins s σ H _ I h) fun v s1 ⟨x, H1, I1, r1, q1⟩ => PyProof.Rows.args_nil ?_) na) na rfl
  obtain ⟨l, xs, rfl, hq, h1, q1⟩ := q1
  cases r1
  obtain ⟨its, r, pl, hz⟩ := I1.tuple hq
  refine setS_callT xs (I1.ok.hd hc) pl (by simpa using txt_of r) (by unfold scanBound; omega) fun h' tk R hk => ?_
  refine PyProof.Rows.args_nil ?_
  have hl := outK_len xs []
  simp at hl
  have I2 : Inv X pins σ H1 { s1 with heap := h', toks := tk } := I1.kept hk
  refine setS_sorted (s := { s1 with heap := h', toks := tk }) R (I1.ok.hd hc) (by omega) (by omega) fun s' pp out c k g o hp hgt he => ?_
  have hlen : ((sortD (outK [] xs)).map V.str).length ≤ sizeLine := by
    rw [List.length_map, (sortD_perm _).length_eq, sizeLine_eq]
    omega
  have hn : H1 pp = none := I2.hok.fresh hp
  have J : Inv X pins σ (upd H1 pp (.lst ((sortD (outK [] xs)).map V.str))) { ({ s1 with heap := h', toks := tk } : Shared) with heap := s'.heap, gens := s'.gens, drawn := s'.drawn, toks := s'.toks } :=
    Inv.call (s := { s1 with heap := h', toks := tk }) I2 (ch := []) (Un.laid k hp hn) (I2.hok.laid k hp ⟨hlen, out, c, of_txt he, hgt⟩) (by rw [g]; exact I2.bare) (fun _ z => nomatch z)
  have e : s' = { s1 with heap := s'.heap, gens := s'.gens, drawn := s'.drawn, toks := s'.toks } := by
    cases s'
    cases s1
    cases o
    rfl
  rw [e]
  exact ⟨.ref pp, _, J, rfl, q1 pp hn⟩
end
section
variable {K : PySem.W.Frag} {σ : L2.St} {B : Hp} {te : TE}
theorem e_sortSu {xs : List Str} (h : Pe K te σ B (PySem.W.Tup.mk xs)) (hz : xs.length ≤ 1000) : Pe K (tSortSu K te) σ B (sortD (outK [] xs)) := fun H e Q q => h H e _ fun v B1 H1 u hv => by
  obtain ⟨a, vs, rfl, hs, hx⟩ := at_tup.mp hv
  rw [atAll_strs hx] at hs
  exact ⟨a, xs, rfl, ex_tx u.bh hs, hz, fun p hp => q _ _ _ (u.then hp) (at_list.mpr ⟨p, _, rfl, Evl.sq_of upd_same, strs_atAll _⟩)⟩
end
end Ob
set_option Elab.async false
set_option linter.all false
set_option maxRecDepth 100000
set_option maxHeartbeats 4000000
/-! E87b: _law_panel_of of k87. -/
namespace Ob
open PySem L2 TL
open Evl (Ex)
open PySem.W (Datum Tup DatumOrd)
/-! ### plain -/
def stepB (ws : List Str) (k : Nat) : Bool := match ws[k]? with
  | none => false
  | some w => nameS w && lastLt (ws.take k) w
theorem preL_step {ws : List Str} {k : Nat} (h : stepB ws k = true) : k < ws.length ∧ preL (ws.take k) (ws.drop k) = preL (ws.take (k + 1)) (ws.drop (k + 1)) := by
  unfold stepB at h
  cases hq : ws[k]? with
  | none => rw [hq] at h; cases h
  | some w =>
    rw [hq] at h
    have hlt := (List.getElem?_eq_some_iff.mp hq).1
    have hw := (List.getElem?_eq_some_iff.mp hq).2
    refine ⟨hlt, ?_⟩
    rw [List.drop_eq_getElem_cons hlt, hw]
    show (if (nameS w && lastLt (ws.take k) w) = true then preL (ws.take k ++ [w]) (ws.drop (k + 1)) else ws.take k) = _
    rw [if_pos h, take_snoc hq]
theorem preL_stop {ws : List Str} {k : Nat} (h : stepB ws k = false) : preL (ws.take k) (ws.drop k) = ws.take k := by
  unfold stepB at h
  cases hq : ws[k]? with
  | none =>
    rw [List.drop_eq_nil_of_le (List.getElem?_eq_none_iff.mp hq)]
    rfl
  | some w =>
    rw [hq] at h
    have hlt := (List.getElem?_eq_some_iff.mp hq).1
    have hw := (List.getElem?_eq_some_iff.mp hq).2
    rw [List.drop_eq_getElem_cons hlt, hw]
    show (if (nameS w && lastLt (ws.take k) w) = true then preL (ws.take k ++ [w]) (ws.drop (k + 1)) else ws.take k) = _
    rw [if_neg (by
      have h' : (nameS w && lastLt (ws.take k) w) = false := h
      rw [h']
      decide)]
theorem cut_one {ws : List Str} {k : Nat} (h : k < ws.length) : cutA ws (some ((k : Int) + 1)) (some ((k : Int) + 2)) = (ws.drop (k + 1)).take 1 := by
  unfold cutA
  rw [show (k : Int) + 1 = ((k + 1 : Nat) : Int) from rfl, show (k : Int) + 2 = ((k + 2 : Nat) : Int) from rfl, HT.sIx_nat, HT.sIx_nat, Nat.min_eq_left (show k + 1 ≤ ws.length from h)]
  by_cases h2 : k + 2 ≤ ws.length
  · rw [Nat.min_eq_left h2]
    congr 1
    omega
  · rw [List.drop_eq_nil_of_le (by omega), List.take_nil, List.take_nil]
theorem set_two {a b : Str} : sortD (outK [] [a, b]) = [a, b] ↔ ltS a b = true := by
  show sortD (if b ∈ [a] then [a] else [b, a]) = [a, b] ↔ _
  by_cases e : b = a
  · rw [if_pos (by rw [e]; simp), e]
    constructor
    · intro h
      have := congrArg List.length h
      rw [sortD_len] at this
      simp at this
    · intro h
      rw [ltS_irr] at h
      cases h
  · rw [if_neg (by simpa using e)]
    rcases ltS_tri a b with h | h | h
    · rw [h]
      refine ⟨fun _ => rfl, fun _ => ?_⟩
      rw [perm_sortD (List.Perm.swap a b [])]
      exact asc_sortD (List.pairwise_cons.mpr ⟨fun x hx => by rw [List.mem_singleton.mp hx]; exact h, List.pairwise_singleton _ _⟩)
    · exact absurd h.symm e
    · rw [ltS_asy h]
      have hs : sortD [b, a] = [b, a] := asc_sortD (List.pairwise_cons.mpr ⟨fun x hx => by rw [List.mem_singleton.mp hx]; exact h, List.pairwise_singleton _ _⟩)
      rw [hs]
      refine ⟨fun z => ?_, fun z => by cases z⟩
      injection z with z1 _
      exact absurd z1 e
theorem cutA_init87 {α : Type} (xs : List α) : cutA xs none (some (-1)) = xs.dropLast := by
  unfold cutA
  have h : HT.sIx xs.length xs.length (some (-1)) = xs.length - 1 := by
    unfold HT.sIx
    simp
    omega
  rw [h, HT.sIx_none, Nat.sub_zero, List.drop_zero, List.dropLast_eq_take]
theorem cutA_len {α : Type} (xs : List α) (lo hi : Option Int) : (cutA xs lo hi).length ≤ xs.length := ((List.take_sublist _ _).trans (List.drop_sublist _ _)).length_le
def t1B (pr : List Str) : Bool := !decide ((pr.length : Int) = 2) || !decide ((Tup.mk pr : Tup Str) = Tup.mk (sortD (outK [] pr)))
def t2B (c pr : List Str) : Bool := !decide (pr.filter (fun x => ngb true (decide (x ∈ c))) = [])
def t3B (ps : List (Tup Str)) (pr : List Str) : Bool := !decide (ps = []) && !lastLt ps (Tup.mk pr)
theorem okPr_tests {c : List Str} {ps : List (Tup Str)} {w : Str} : okPr c ps w ↔ t1B (Txt.split w "-") = false ∧ t2B c (Txt.split w "-") = false ∧ t3B ps (Txt.split w "-") = false := by
  unfold okPr
  generalize Txt.split w "-" = pr
  refine and_congr ?_ (and_congr ?_ ?_)
  · unfold t1B
    rw [Bool.or_eq_false_iff, Bool.not_eq_false', Bool.not_eq_false', decide_eq_true_eq, decide_eq_true_eq]
    constructor
    · rintro ⟨a, b, rfl, h⟩
      exact ⟨rfl, by rw [set_two.mpr h]⟩
    · rintro ⟨h1, h2⟩
      match pr, h1, h2 with
      | [a, b], _, h2 =>
        injection h2 with h2
        exact ⟨a, b, rfl, set_two.mp h2.symm⟩
  · unfold t2B
    rw [Bool.not_eq_false', decide_eq_true_eq, List.filter_eq_nil_iff]
    refine forall_congr' fun x => forall_congr' fun hx => ?_
    show x ∈ c ↔ ¬ (!decide (x ∈ c)) = true
    simp
  · unfold t3B
    by_cases h : ps = []
    · rw [h, lastLt_nil, decide_eq_true rfl]
      simp
    · rw [decide_eq_false h]
      simp
section
variable {K : PySem.W.Frag} {W0 : List Addr} {B0 H0 : Hp} {os : List OC} {Γ : List (Option Cell)} {σ : L2.St} {B H : Hp} {te ta : TE} {tt : TT} {D : Ends} {tu tz : TS}
theorem St.iteN87 {b : Bool} (s : St K W0 B0 H0 os Γ σ B H) (h : Ob.Pt tt σ B b) (k1 : b = true → ∀ B1 H1, St K W0 B0 H0 os Γ σ B1 H1 → tu { D with nx := tz D } σ H1) (k2 : b = false → ∀ B1 H1, St K W0 B0 H0 os Γ σ B1 H1 → tz D σ H1) : tSeq (tIfS tt tu tNext) tz D σ H :=
  s.ite h k1 fun hb B1 H1 s1 => k2 hb B1 H1 s1
theorem St.unpNL87 {α : Type} [Rep α] {x : α} {i j : Nat} (s : St K W0 B0 H0 os Γ σ B H) (h1 : Pe K ta σ B x) (β : Type) [Rep β] (k : ∀ l σ1 B1 H1, St K W0 B0 H0 (os ++ [lstC K l ([] : List β)]) (cs (cs Γ i (ce x)) j (ca l)) σ1 B1 H1 → tz D σ1 H1) :
    tSeq (tAsg (tTup (tCons ta (tCons (tLst tNil) tNil))) (gUnp K 2 (gCons (gName i) (gCons (gName j) gNil)))) tz D σ H :=
  h1 H s.bh _ fun v B1 H1 u hv => ⟨Nat.zero_le _, fun p hp => ⟨by show 2 ≤ sizeLine; rw [sizeLine_eq]; decide, fun t ht => .inl ⟨t, [v, .ref p], rfl, Evl.st_of upd_same, rfl, _, _, rfl, _, _, rfl, rfl, by
    have s1 := (s.up u).add (ob := .lst []) hp (lstC K p ([] : List β)) rfl ⟨[], rfl, .nil⟩
    have w3 := Up.new (o := .tup [v, .ref p]) s1.bh ht
    exact k p _ _ _ ((((s1.up w3)).put i (Rep.mono w3.bb hv)).put (x := Any.mk (.ref p)) j rfl)⟩⟩⟩
theorem St.qwhlU87 {α δ : Type} [DecidableEq α] [Datum α] {i k : Nat} {l : Addr} (μ : δ → Nat) (oz : δ → List OC) (Γz : δ → List (Option Cell)) (P : δ → Prop) (bz : δ → Bool) (xz : δ → List α) (ho : ∀ d, (oz d)[k]? = some (lstC K l (xz d))) (hi : ∀ d, cg (Γz d) i = ca l) (d0 : δ) (h0 : P d0) (s : St K W0 B0 H0 (oz d0) (Γz d0) σ B H)
    (ht : ∀ d, P d → ∀ σ' B', Slots K B' σ' (cs (Γz d) i (ce (xz d))) → Ob.Pt tt σ' B' (bz d))
    (hb : ∀ d, P d → bz d = true → ∀ (σ' : L2.St) (B' H' : Hp) (N : L2.St → Hp → Prop), (∀ (d' : δ) {σ3 : L2.St} {B3 H3 : Hp}, μ d' < μ d → P d' → St K W0 B0 H0 (oz d') (Γz d') σ3 B3 H3 → N σ3 H3) → St K W0 B0 H0 (oz d) (Γz d) σ' B' H' → tu { D with nx := N, ct := N, bk := tz D } σ' H')
    (kk : ∀ d, P d → bz d = false → ∀ σ' B' H', St K W0 B0 H0 (oz d) (Γz d) σ' B' H' → tz D σ' H') : tSeq (tWhile tt tu) tz D σ H := by
  show tWhile tt tu { D with nx := tz D } σ H
  refine ⟨fun m σ' H' => ∃ d B', m = μ d ∧ P d ∧ St K W0 B0 H0 (oz d) (Γz d) σ' B' H', ⟨_, d0, B, rfl, h0, s⟩, ?_⟩
  rintro m σ' H' ⟨d, B', rfl, hP, s'⟩
  obtain ⟨vs, hbl, hl, hA, e, s2⟩ := s'.fz (ho d) (hi d)
  refine (ht d hP σ' _ s2).thaw hbl s'.bh hl fun H2 u h2 => ?_
  have s3 := s'.up u
  cases e : bz d with
  | true =>
    rw [if_pos rfl]
    exact ⟨fun σ3 H3 => ∃ m', m' < μ d ∧ ∃ d' B3, m' = μ d' ∧ P d' ∧ St K W0 B0 H0 (oz d') (Γz d') σ3 B3 H3, fun _ _ h => h, hb d hP e σ' _ H2 _ (fun d' {σ3 B3 H3} hm hp s3 => ⟨_, hm, d', B3, rfl, hp, s3⟩) s3⟩
  | false =>
    rw [if_neg (by decide)]
    exact kk d hP e σ' _ H2 s3
end
section
variable {K : PySem.W.Frag}
abbrev sp_Lpanel_of (K : PySem.W.Frag) : Sp := Fn1 K (fun x : Str => x.length ≤ 100000) fun x => DD.mk (outP (Txt.split x " "))
def N_Lpanel_of : List Str := ["_law_page_here", "_law_words", "_law_called", "_law_at", "_law_pairs", "_law_spot", "_law_word", "_law_pair", "_law_name"]
def t_Lpanel_of (K : PySem.W.Frag) : TS :=
  (tSeq (tAsg (tTup (tCons (tSplit (tVar 0) (tC (.str " "))) (tCons (tLst tNil) tNil))) (gUnp K 2 (gCons (gName 1) (gCons (gName 2) gNil))))
    (tSeq (tWhile (tAnd (tTest (tOp (rLtU K) (tCB (rLenU K) (tCons (tVar 2) tNil)) (tCB (rLenU K) (tCons (tVar 1) tNil)))) (tAnd (tB (tCall (sp_Lis_name K) [] E0 (tCons (tOp (rIxU K) (tVar 1) (tCB (rLenU K) (tCons (tVar 2) tNil))) tNil))) (tTest (tOp (rLtU K) (tVar 2) (tOp (rAddU K) (tSl (rSlU K) (tVar 2) tNoPart (tPart (tUn (rU fun i => .int (-i)) (tC (.int 1))))) (tLst (tCons (tOp (rIxU K) (tVar 1) (tCB (rLenU K) (tCons (tVar 2) tNil))) tNil))))))) (tDrop (tBM K "list" (rAppend) (tVar 2) (tCons (tOp (rIxU K) (tVar 1) (tCB (rLenU K) (tCons (tVar 2) tNil))) tNil))))
    (tSeq (tAsg (tCB (rLenU K) (tCons (tVar 2) tNil)) (gName 3))
    (tSeq (tIfS (tOr (tTest (tOp (rEqP K) (tVar 3) (tCB (rLenU K) (tCons (tVar 1) tNil)))) (tOr (tTest (tOp (rEqP K) (tVar 3) (tC (.int 0)))) (tTest (tOp (rNeP K) (tOp (rIxU K) (tVar 1) (tVar 3)) (tC (.str "/")))))) (tRet (tVar 3)) tNext)
    (tSeq (tIfS (tTest (tOp (rEqP K) (tSl (rSlU K) (tVar 1) (tPart (tOp (rAddU K) (tVar 3) (tC (.int 1)))) (tPart (tOp (rAddU K) (tVar 3) (tC (.int 2))))) (tLst (tCons (tC (.str "-")) tNil)))) (tRet (tIf (tTest (tOp (rEqP K) (tCB (rLenU K) (tCons (tVar 1) tNil)) (tOp (rAddU K) (tVar 3) (tC (.int 2))))) (tTup (tCons (tCB (rTupleU K) (tCons (tVar 2) tNil)) (tCons (tTup tNil) tNil))) (tOp (rAddU K) (tVar 3) (tC (.int 2))))) tNext)
    (tSeq (tAsg (tLst tNil) (gName 4))
    (tSeq (tFor (iEnum K (tCons (tVar 1) tNil)) (gUnp K 2 (gCons (gName 5) (gCons (gName 6) gNil))) (tSeq (tAsg (tCB (rTupleU K) (tCons (tSplit (tVar 6) (tC (.str "-"))) tNil)) (gName 7))
    (tSeq (tIfS (tAnd (tTest (tOp (rGtU K) (tVar 5) (tVar 3))) (tOr (tTest (tOp (rNeP K) (tCB (rLenU K) (tCons (tVar 7) tNil)) (tC (.int 2)))) (tTest (tOp (rNeP K) (tVar 7) (tCB (rTupleU K) (tCons (tSortSu K (tVar 7)) tNil)))))) (tRet (tVar 5)) tNext)
    (tSeq (tIfS (tAnd (tTest (tOp (rGtU K) (tVar 5) (tVar 3))) (tTest (tOp (rNeP K) (tLc (iSeq K (tVar 7)) (gName 8) (tTest (tOp (rInU K true) (tVar 8) (tVar 2))) (tVar 8) [8]) (tLst tNil)))) (tRet (tVar 5)) tNext)
    (tSeq (tIfS (tAnd (tTest (tOp (rGtU K) (tVar 5) (tVar 3))) (tAnd (tTest (tOp (rNeP K) (tVar 4) (tLst tNil))) (tTest (tOp (rLeU K) (tVar 7) (tOp (rIxU K) (tVar 4) (tUn (rU fun i => .int (-i)) (tC (.int 1)))))))) (tRet (tVar 5)) tNext)
    (tAsg (tOp (rAddU K) (tVar 4) (tOp (rMulU) (tLst (tCons (tVar 7) tNil)) (tCB (rInt1) (tCons (tOp (rGtU K) (tVar 5) (tVar 3)) tNil)))) (gName 4)))))))
    (tRet (tIf (tTest (tOp (rNeP K) (tVar 4) (tLst tNil))) (tTup (tCons (tCB (rTupleU K) (tCons (tVar 2) tNil)) (tCons (tCB (rTupleU K) (tCons (tVar 4) tNil)) tNil))) (tCB (rLenU K) (tCons (tVar 1) tNil)))))))))))
theorem l_Lpanel_of (vs : List V) (H : Hp) (Q : VK) (E : XK) (h : sp_Lpanel_of K vs H Q E) : vs.length = 1 := Fn1.len vs H Q E h
theorem r_Lpanel_of (vs : List V) (H : Hp) (Q : VK) (E : XK) (h : sp_Lpanel_of K vs H Q E) : t_Lpanel_of K (Ends.ret Q) (start N_Lpanel_of vs) H := by
  obtain ⟨x, B, hz, s, q⟩ := Fn1.st (E := E) h N_Lpanel_of
  replace hz : x.length ≤ 100000 := hz
  obtain ⟨z1, z2, z3⟩ := split_sum x sp_ne k_sp
  obtain ⟨ws, hws⟩ : ∃ ws, ws = Txt.split x " " := ⟨_, rfl⟩
  rw [← hws] at z1 z2 z3
  have q' : ∀ v B2 H2, Up B H B2 H2 → Rep.at_ K B2 v (DD.mk (outL ws)) → Q v H2 := fun v B2 H2 u hv => q v B2 H2 u (by rw [← hws, out_same]; exact hv)
  have hwl : ∀ w ∈ ws, w.length ≤ 100000 := fun w hw => by
    have := word_small sp_ne k_sp (hws ▸ hw)
    omega
  replace s : St K [] B H [] [ce x, none, none, none, none, none, none, none, none] (start N_Lpanel_of vs) B H := s
  refine s.unpNL87 (x := ws) (hws ▸ e_split (s.v (x := x) 0 rfl) e_str (by rw [len_one]; rfl) (by omega)) Str fun l σ1 B1 H1 s1 => ?_
  replace s1 : St K [] B H [lstC K l ([] : List Str)] [ce x, ce ws, ca l, none, none, none, none, none, none] σ1 B1 H1 := s1
  refine St.qwhlU87 (δ := Nat) (i := 2) (k := 0) (l := l) (fun k => ws.length - k) (fun k => [lstC K l (ws.take k)]) (fun _ => [ce x, ce ws, ca l, none, none, none, none, none, none]) (fun k => k ≤ ws.length ∧ preL [] ws = preL (ws.take k) (ws.drop k)) (stepB ws) (fun k => ws.take k) (fun _ => rfl) (fun _ => rfl) 0 ⟨Nat.zero_le _, rfl⟩ s1 (fun k hk σ' B' sl => ?_) (fun k hk hb σ' B' H' N hN s2 => ?_) fun k hk hb σ2 B2 H2 s2 => ?_
  · replace sl : Slots K B' σ' [ce x, ce ws, ce (ws.take k), none, none, none, none, none, none] := sl
    have hlen : (ws.take k).length = k := by rw [List.length_take]; exact Nat.min_eq_left hk.1
    have hix : ∀ {w : Str}, ws[k]? = some w → Pe K (tOp (rIxU K) (tVar 1) (tCB (rLenU K) (tCons (tVar 2) tNil))) σ' B' w := fun hw => e_ixL (sl.v (x := ws) 1 rfl) (e_lenL (sl.v (x := ws.take k) 2 rfl)) (atI_nat (by omega) (by rw [Int.toNat_natCast, hlen]; exact hw))
    refine (t_and (b := stepB ws k) (t_test (e_lt (e_lenL (sl.v (x := ws.take k) 2 rfl)) (e_lenL (sl.v (x := ws) 1 rfl)))) fun hlt => ?_).is ?_
    · have hlt' : ((ws.take k).length : Int) < (ws.length : Int) := of_decide_eq_true hlt
      rw [hlen] at hlt'
      obtain ⟨w, hw⟩ : ∃ w, ws[k]? = some w := ⟨_, List.getElem?_eq_getElem (by omega)⟩
      have hst : stepB ws k = (nameS w && lastLt (ws.take k) w) := by
        unfold stepB
        rw [hw]
      rw [hst]
      exact t_and (t_B (e_call1 (x := w) (pre := fun w : Str => w.length ≤ 1000000) (f := nameS) (hix hw) (by have := hwl w (List.mem_of_getElem? hw); omega))) fun _ => (t_test (e_lt (sl.v (x := ws.take k) 2 rfl) (e_addL (e_slL (sl.v (x := ws.take k) 2 rfl) o_none (o_some (K := K) (e_negI (e_int (i := 1))))) (e_lst1 (hix hw)) (by
        have := cutA_len (ws.take k) none (some (-1))
        rw [List.length_singleton]
        omega)))).is (by rw [cutA_init87]; exact lastLt_init ltS_irrD _ _)
    · show (decide (((ws.take k).length : Int) < (ws.length : Int)) && stepB ws k) = _
      rw [hlen]
      by_cases h : k < ws.length
      · rw [decide_eq_true (by omega), Bool.true_and]
      · rw [decide_eq_false (by omega), Bool.false_and]
        unfold stepB
        rw [List.getElem?_eq_none_iff.mpr (by omega)]
  · obtain ⟨hlt, hst⟩ := preL_step hb
    have hlen : (ws.take k).length = k := by rw [List.length_take]; exact Nat.min_eq_left hk.1
    obtain ⟨w, hw⟩ : ∃ w, ws[k]? = some w := ⟨_, List.getElem?_eq_getElem hlt⟩
    refine s2.appT (i := 2) (k := 0) (l := l) (xs := ws.take k) (x := w) rfl rfl (fun B8 b8 sl => e_ixL (sl.v (x := ws) 1 rfl) (e_lenL (sl.v (x := ws.take k) 2 rfl)) (atI_nat (by omega) (by rw [Int.toNat_natCast, hlen]; exact hw))) (by omega) fun B8 H8 s8 => ?_
    refine hN (k + 1) (B3 := B8) (by omega) ⟨hlt, by rw [hk.2, hst]⟩ ?_
    rw [take_snoc hw]
    exact s8
  have hc : preL [] ws = ws.take k := by rw [hk.2, preL_stop hb]
  have hlen : (ws.take k).length = k := by rw [List.length_take]; exact Nat.min_eq_left hk.1
  obtain ⟨c, hcd⟩ : ∃ c, c = ws.take k := ⟨_, rfl⟩
  rw [← hcd] at hlen hc
  obtain ⟨B3, b3, s3⟩ := s2.frz (i := 2) (k := 0) rfl rfl (by simp)
  replace s3 : St K [] B H [] [ce x, ce ws, ce c, none, none, none, none, none, none] σ2 B3 H2 := by rw [hcd]; exact s3
  refine s3.set (i := 3) (x := (k : Int)) ((e_lenL (s3.v (x := c) 2 rfl)).is (by rw [hlen])) fun σ4 B4 H4 s4 => ?_
  replace s4 : St K [] B H [] [ce x, ce ws, ce c, ce (k : Int), none, none, none, none, none] σ4 B4 H4 := s4
  have hkl : k ≤ ws.length := hk.1
  have hcl : c.length ≤ ws.length := by omega
  have hout : outL ws = (if c.length = ws.length ∨ c.length = 0 ∨ ws[c.length]? ≠ some ("/" : Str) then .int (c.length : Int)
      else if (ws.drop (c.length + 1)).take 1 = (["-"] : List Str) then (if ws.length = c.length + 2 then pairsD c [] else .int ((c.length : Int) + 2))
      else match prsL c (c.length + 1) [] (ws.drop (c.length + 1)) with
        | .inl k => .int (k : Int)
        | .inr ps => if ps ≠ [] then pairsD c ps else .int (ws.length : Int)) := by
    unfold outL
    rw [hc]
    rfl
  rw [hlen] at hout
  refine s4.iteN87 (b := decide (k = ws.length ∨ k = 0 ∨ ws[k]? ≠ some ("/" : Str))) ((t_or (a := decide ((k : Int) = (ws.length : Int))) (b := decide (k = 0 ∨ ws[k]? ≠ some ("/" : Str))) (t_test (e_eq (s4.v (x := (k : Int)) 3 rfl) (e_lenL (s4.v (x := ws) 1 rfl)))) fun h => ?_).is ?_) (fun hb B5 H5 s5 => ?_) fun hb B5 H5 s5 => ?_
  · have hlt : k < ws.length := by
      have := of_decide_eq_false h
      omega
    obtain ⟨w, hw⟩ : ∃ w, ws[k]? = some w := ⟨_, List.getElem?_eq_getElem hlt⟩
    refine (t_or (t_test (e_eq (s4.v (x := (k : Int)) 3 rfl) (e_int (i := 0)))) fun _ => t_test (e_ne (e_ixL (x := w) (s4.v (x := ws) 1 rfl) (s4.v (x := (k : Int)) 3 rfl) (atI_nat (by omega) hw)) e_str)).is ?_
    rw [hw]
    rw [← decide_not, ← Bool.decide_or]
    refine decide_eq_decide.mpr ?_
    refine or_congr (by omega) ?_
    simp
  · rw [← Bool.decide_or]
    refine decide_eq_decide.mpr (or_congr (by omega) Iff.rfl)
  · have hb' := of_decide_eq_true hb
    exact St.ret (D := { Ends.ret Q with nx := _ }) (x := (k : Int)) s5 (s5.v (x := (k : Int)) 3 rfl) fun v B6 H6 s6 hv => q' v B6 H6 s6.toUp (by rw [hout, if_pos hb']; exact hv)
  have hb' := of_decide_eq_false hb
  have hlt : k < ws.length := by
    have : ¬ k = ws.length := fun z => hb' (.inl z)
    omega
  rw [if_neg hb'] at hout
  show tSeq _ _ _ _ _
  refine s5.iteN87 (b := decide ((ws.drop (k + 1)).take 1 = (["-"] : List Str))) ((t_test (e_eq (e_slL (s5.v (x := ws) 1 rfl) (o_some (K := K) (e_addI (s5.v (x := (k : Int)) 3 rfl) (e_int (i := 1)))) (o_some (K := K) (e_addI (s5.v (x := (k : Int)) 3 rfl) (e_int (i := 2))))) (e_lst1 e_str))).is (by rw [cut_one hlt])) (fun hd B6 H6 s6 => ?_) fun hd B6 H6 s6 => ?_
  · rw [if_pos (of_decide_eq_true hd)] at hout
    refine St.ret (D := { Ends.ret Q with nx := _ }) (x := DD.mk (outL ws)) s6 (e_if (b := decide (ws.length = k + 2)) ((t_test (e_eq (e_lenL (s6.v (x := ws) 1 rfl)) (e_addI (s6.v (x := (k : Int)) 3 rfl) (e_int (i := 2))))).is (decide_eq_decide.mpr (by omega))) (fun h => ?_) fun h => ?_) fun v B7 H7 s7 hv => q' v B7 H7 s7.toUp hv
    · rw [hout, if_pos (of_decide_eq_true h)]
      exact e_dd (x := ((Tup.mk c, Tup.mk []) : Tup Str × Tup (Tup Str))) (e_pair (e_tupL (s6.v (x := c) 2 rfl)) e_tup0)
    · rw [hout, if_neg (of_decide_eq_false h)]
      exact e_dd (x := (k : Int) + 2) (e_addI (s6.v (x := (k : Int)) 3 rfl) (e_int (i := 2)))
  rw [if_neg (of_decide_eq_false hd)] at hout
  show tSeq _ _ _ _ _
  refine s6.set (i := 4) (x := ([] : List (Tup Str))) e_lst0 fun σ7 B7 H7 s7 => ?_
  replace s7 : St K [] B H [] [ce x, ce ws, ce c, ce (k : Int), ce ([] : List (Tup Str)), none, none, none, none] σ7 B7 H7 := s7
  refine s7.qforG (δ := List (Tup Str)) (it_enumL (s7.v (x := ws) 1 rfl)) (fun _ _ => []) (fun _ ps => [ce x, ce ws, ce c, ce (k : Int), ce ps, none, none, none, none]) (fun done ps => (done.length ≤ k + 1 → ps = []) ∧ (k + 1 ≤ done.length → prsL c (k + 1) [] (ws.drop (k + 1)) = prsL c done.length ps (ws.drop done.length)) ∧ ps.length ≤ done.length) ⟨[], ⟨fun _ => rfl, fun h => absurd h (by simp), Nat.zero_le _⟩, fun _ _ s8 => s8⟩ (fun done cw rest ps ex hP v σ' B' H' N hN s8 hv2 => ?_) fun ps hP σ8 B8 H8 s8 => ?_
  · obtain ⟨j, w⟩ := cw
    obtain ⟨ej, hget, _⟩ := enum_at87 ex
    obtain ⟨p1, p2, p3⟩ := hP
    have hjlt := (List.getElem?_eq_some_iff.mp hget).1
    have hjw := (List.getElem?_eq_some_iff.mp hget).2
    obtain ⟨a0, v1, v2, rfl, hs, k1, k2⟩ := at_pair.mp hv2
    refine .inl ⟨a0, _, rfl, ex_tx s8.bh hs, rfl, _, _, rfl, _, _, rfl, rfl, ?_⟩
    have s9 : St K [] B' H' [] [ce x, ce ws, ce c, ce (k : Int), ce ps, ce j, ce w, none, none] ((σ'.set 5 (some v1)).set 6 (some v2)) B' H' := (s8.here.put 5 k1).put 6 k2
    have hwsz := hwl w (List.mem_of_getElem? hget)
    obtain ⟨pr, hpr⟩ : ∃ pr, pr = Txt.split w "-" := ⟨_, rfl⟩
    obtain ⟨y1, y2, y3⟩ := split_sum w hy_ne k_hy
    rw [← hpr] at y1 y2 y3
    refine s9.set (i := 7) (x := Tup.mk pr) (hpr ▸ e_tupL (e_split (s9.v (x := w) 6 rfl) e_str (by rw [len_hy]; rfl) (by omega))) fun σ10 B10 H10 s10 => ?_
    replace s10 : St K [] B' H' [] [ce x, ce ws, ce c, ce (k : Int), ce ps, ce j, ce w, ce (Tup.mk pr), none] σ10 B10 H10 := s10
    have hgt : ∀ {B1 : Hp}, Slots K B1 σ10 [ce x, ce ws, ce c, ce (k : Int), ce ps, ce j, ce w, ce (Tup.mk pr), none] → Ob.Pt (tTest (tOp (rGtU K) (tVar 5) (tVar 3))) σ10 B1 (decide (k < done.length)) := fun sl => (t_test (e_gt (sl.v (x := j) 5 rfl) (sl.v (x := (k : Int)) 3 rfl))).is (decide_eq_decide.mpr (by omega))
    have leave : ∀ {B1 H1 : Hp} {D : Ends}, D.rt = Q → k < done.length → ¬ okPr c ps w → St K [] B' H' [] [ce x, ce ws, ce c, ce (k : Int), ce ps, ce j, ce w, ce (Tup.mk pr), none] σ10 B1 H1 → tRet (tVar 5) D σ10 H1 := fun {B1 H1 D} hD hlt2 hno s11 => St.ret (D := D) (x := j) s11 (s11.v (x := j) 5 rfl) fun v B12 H12 s12 hv => by
      rw [hD]
      refine q' v B12 H12 (s8.toUp.trans s12.toUp) ?_
      have e1 : prsL c done.length ps (ws.drop done.length) = .inl done.length := by
        rw [List.drop_eq_getElem_cons hjlt, hjw]
        show (if okPr c ps w then _ else Sum.inl done.length) = _
        rw [if_neg hno]
      rw [hout, p2 hlt2, e1]
      rw [ej] at hv
      exact hv
    refine s10.iteN87 (b := decide (k < done.length) && t1B pr) (t_and (hgt s10.sl) fun _ => ?_) (fun h1 B11 H11 s11 => ?_) fun h1 B11 H11 s11 => ?_
    · refine t_or (t_test (e_ne (e_lenSq ((s10.v (x := Tup.mk pr) 7 rfl).imp sq_tup)) (e_int (i := 2)))) fun h2 => t_test (e_ne (s10.v (x := Tup.mk pr) 7 rfl) (e_tupL (e_sortSu (s10.v (x := Tup.mk pr) 7 rfl) ?_)))
      rw [Bool.not_eq_false', decide_eq_true_eq] at h2
      omega
    · rw [Bool.and_eq_true, decide_eq_true_eq] at h1
      refine leave rfl h1.1 (fun z => ?_) s11
      rw [hpr] at h1
      rw [(okPr_tests.mp z).1] at h1
      cases h1.2
    show tSeq _ _ _ _ _
    refine s11.iteN87 (b := decide (k < done.length) && t2B c pr) (t_and (hgt s11.sl) fun _ => ?_) (fun h2 B12 H12 s12 => ?_) fun h2 B12 H12 s12 => ?_
    · refine t_test (e_ne ((s11.sl.lcF (j := 8) (fun y : Str => ngb true (decide (y ∈ c))) (it_seqT (s11.v (x := Tup.mk pr) 7 rfl)) (by omega) fun y hy σ13 B13 b13 s13 => ⟨t_test (e_inL (s13.v (x := y) 8 rfl) (s13.v (x := c) 2 rfl) true), rfl⟩)) e_lst0)
    · rw [Bool.and_eq_true, decide_eq_true_eq] at h2
      refine leave rfl h2.1 (fun z => ?_) s12
      rw [hpr] at h2
      rw [(okPr_tests.mp z).2.1] at h2
      cases h2.2
    show tSeq _ _ _ _ _
    refine s12.iteN87 (b := decide (k < done.length) && t3B ps pr) (t_and (hgt s12.sl) fun _ => t_and (t_test (e_ne (s12.v (x := ps) 4 rfl) e_lst0)) fun h3 => ?_) (fun h3 B13 H13 s13 => ?_) fun h3 B13 H13 s13 => ?_
    · rw [Bool.not_eq_true', decide_eq_false_iff_not] at h3
      rcases List.eq_nil_or_concat ps with e | ⟨qs, lst, e⟩
      · exact absurd e h3
      · rw [List.concat_eq_append] at e
        refine (t_test (e_le (s12.v (x := Tup.mk pr) 7 rfl) (e_ixL (x := lst) (s12.v (x := ps) 4 rfl) (e_negI (e_int (i := 1))) (atI_last (n := qs.length) (by rw [e]; simp) (by rw [e]; simp))))).is ?_
        rw [e, lastLt_snoc]
    · rw [Bool.and_eq_true, decide_eq_true_eq] at h3
      refine leave rfl h3.1 (fun z => ?_) s13
      rw [hpr] at h3
      rw [(okPr_tests.mp z).2.2] at h3
      cases h3.2
    refine s13.setL (i := 4) (x := if decide (k < done.length) = true then ps ++ [Tup.mk pr] else ps) ?_ fun σ14 B14 H14 s14 => ?_
    · refine (e_addL (s13.v (x := ps) 4 rfl) (e_rep1' (c := decide (k < done.length)) (s13.v (x := Tup.mk pr) 7 rfl) (e_intB ((e_gt (s13.v (x := j) 5 rfl) (s13.v (x := (k : Int)) 3 rfl)).is (decide_eq_decide.mpr (by omega))))) ?_).is ?_
      · split
        · rw [List.length_singleton]; omega
        · rw [List.length_nil]; omega
      · split
        · rfl
        · rw [List.append_nil]
    by_cases hlt2 : k < done.length
    · rw [decide_eq_true hlt2, Bool.true_and] at h1 h2 h3
      have hok : okPr c ps w := okPr_tests.mpr (hpr ▸ ⟨h1, h2, h3⟩)
      rw [if_pos (decide_eq_true hlt2)] at s14
      refine hN (ps ++ [Tup.mk pr]) (B3 := B14) ⟨fun h => ?_, fun _ => ?_, ?_⟩ (s14.fg [5, 6, 7])
      · rw [List.length_append, List.length_singleton] at h
        omega
      · rw [p2 hlt2, List.drop_eq_getElem_cons hjlt, hjw]
        show (if okPr c ps w then prsL c (done.length + 1) (ps ++ [Tup.mk (Txt.split w "-")]) (ws.drop (done.length + 1)) else _) = _
        rw [if_pos hok, ← hpr, List.length_append, List.length_singleton]
      · rw [List.length_append, List.length_append, List.length_singleton, List.length_singleton]
        omega
    · rw [if_neg (by rw [decide_eq_false hlt2]; decide)] at s14
      have hps := p1 (by omega)
      refine hN ps (B3 := B14) ⟨fun _ => hps, fun h => ?_, by rw [List.length_append]; omega⟩ (s14.fg [5, 6, 7])
      rw [List.length_append, List.length_singleton] at h ⊢
      rw [hps, show done.length + 1 = k + 1 by omega]
  · obtain ⟨p1, p2, p3⟩ := hP
    rw [enumI_len] at p2 p3
    have e1 : prsL c (k + 1) [] (ws.drop (k + 1)) = .inr ps := by
      rw [p2 hlt, List.drop_length]
      rfl
    rw [e1] at hout
    replace hout : outL ws = if ps ≠ [] then pairsD c ps else .int (ws.length : Int) := hout
    refine St.ret (D := Ends.ret Q) (x := DD.mk (outL ws)) s8 (e_if (b := !decide (ps = [])) (t_test (e_ne (s8.v (x := ps) 4 rfl) e_lst0)) (fun h => ?_) fun h => ?_) fun v B9 H9 s9 hv => q' v B9 H9 s9.toUp hv
    · rw [Bool.not_eq_true', decide_eq_false_iff_not] at h
      rw [hout, if_pos h]
      exact e_dd (x := ((Tup.mk c, Tup.mk ps) : Tup Str × Tup (Tup Str))) (e_pair (e_tupL (s8.v (x := c) 2 rfl)) (e_tupL (s8.v (x := ps) 4 rfl)))
    · rw [Bool.not_eq_false', decide_eq_true_eq] at h
      rw [hout, if_neg (fun z => z h)]
      exact e_dd (x := (ws.length : Int)) (e_lenL (s8.v (x := ws) 1 rfl))
end
end Ob
set_option Elab.async false
set_option linter.all false
set_option maxRecDepth 100000
set_option maxHeartbeats 4000000
/-! E87c: _law_changed of k87. -/
namespace Ob
open PySem L2 TL
open Evl (Ex)
open PySem.W (Datum Tup DatumOrd)
section
variable {K : PySem.W.Frag} {W0 : List Addr} {B0 H0 : Hp} {os : List OC} {Γ : List (Option Cell)} {σ : L2.St} {B H : Hp} {te ta : TE} {tt : TT} {D : Ends} {tu tz : TS} {b : Addr} {c : Int}
theorem e_slS87 {tl th : TO} {s : Str} {lo hi : Option Int} (h : Pe K te σ B s) (h1 : Po tl σ B lo) (h2 : Po th σ B hi) (hz : s.length ≤ 1000000) : Pe K (tSl (rSlU K) te tl th) σ B (cutS s lo hi) := fun H e Q q => h H e _ fun v B1 H1 u hv =>
  h1 H1 (u.bb.trans u.bh) _ fun B2 H2 u2 => h2 H2 (u2.bb.trans u2.bh) _ fun B3 H3 u3 => by
    have b3 : Ex B1 H3 := u.bh.trans (u2.hh.trans u3.hh)
    have v3 : Up B H B1 H3 := ⟨u.bb, b3, u.hh.trans (u2.hh.trans u3.hh), u.nw⟩
    exact .inr (.inr ⟨s, at_str.mp hv, by rw [sizeLine_eq]; omega, q _ _ _ v3 (at_str.mpr rfl)⟩)
/-- xs = a list that nobody else holds -/
theorem St.setOwn87 {α : Type} [Rep α] {i : Nat} {xs : List α} (s : St K W0 B0 H0 os Γ σ B H) (h : PeF K te σ B xs) (k : ∀ l σ1 B1 H1, St K W0 B0 H0 (os ++ [lstC K l xs]) (cs Γ i (ca l)) σ1 B1 H1 → tz D σ1 H1) : tSeq (tAsg te (gName i)) tz D σ H :=
  h H s.bh _ fun l us B1 H1 u hb hh hl hA => k l _ B1 H1 (St.put (x := Any.mk (.ref l)) (s.adopt u hb hh hl (lstC K l xs) rfl ⟨us, rfl, hA⟩) i rfl)
/-- a drawn number, by a list that changes -/
theorem St.takeE87 {k i0 i : Nat} {l : Addr} {xs : List Str} {n : Int} {Q : VK} (s : St K W0 B0 H0 (boxC b c :: os) Γ σ B H) (h : (boxC b c :: os)[k]? = some (lstC K l xs)) (hi : cg Γ i = ca l) (h0 : cg Γ i0 = ca b)
    (ht : ∀ B', Ex B B' → Slots K B' σ (cs Γ i (ce xs)) → Pe K te σ B' n) (n0 : 0 < n) (n1 : n < 1073741824) (hc : c + 1 ≤ 2 ^ 40)
    (q : ∀ a : Int, 0 ≤ a → a < n → ∀ v B1 H1, Ex B B1 → Rep.at_ K B1 v a → St K W0 B0 H0 (boxC b (c + 1) :: os) Γ σ B1 H1 → Q v H1) : tCall (sp_Ltake K) [] E0 (tCons (tVar i0) (tCons te tNil)) σ H Q := by
  obtain ⟨vs, hb, hl, hA, e, s2⟩ := s.fz h hi
  refine ⟨_, s.sl.rf i0 h0, (ht _ e s2).thaw hb s.bh hl fun v B1 H1 u hbn hl1 hv => ⟨b, B1, c, n, u.bh, (s.up u).box, hc, ⟨v, rfl, hv⟩, ⟨n0, n1⟩, fun w y B3 H3 u3 ub3 r3 hw => ?_⟩⟩
  exact q y r3.1 r3.2 w B3 H3 (u.bb.trans u3.bb) hw ((s.up u).ub u3 ub3)
/-- return e, e reads a list that changes -/
theorem St.retT87 {α : Type} [Rep α] [Thaw α] {x : α} {k i : Nat} {l : Addr} {xs : List Str} (s : St K W0 B0 H0 os Γ σ B H) (h : os[k]? = some (lstC K l xs)) (hi : cg Γ i = ca l)
    (ht : ∀ B', Ex B B' → Slots K B' σ (cs Γ i (ce xs)) → Pe K te σ B' x) (q : ∀ v B1 H1, St K W0 B0 H0 os Γ σ B1 H1 → Rep.at_ K B1 v x → D.rt v H1) : tRet te D σ H := by
  obtain ⟨vs, hb, hl, hA, e, s2⟩ := s.fz h hi
  exact (ht _ e s2).thaw hb s.bh hl fun v B1 H1 u _ _ hv => q v B1 H1 (s.up u) hv
/-- xs[i], xs[j] = xs[j], xs[i] -/
theorem St.swap87 {k i i1 i2 : Nat} {l : Addr} {xs : List Str} {n m : Nat} {x y : Str} (s : St K W0 B0 H0 os Γ σ B H) (h : os[k]? = some (lstC K l xs)) (hi : cg Γ i = ca l) (h1 : cg Γ i1 = ce (n : Int)) (h2 : cg Γ i2 = ce (m : Int)) (w0 : cg (cs Γ i (ce xs)) i = ce xs) (w1 : cg (cs Γ i (ce xs)) i1 = ce (n : Int)) (w2 : cg (cs Γ i (ce xs)) i2 = ce (m : Int)) (hx : xs[m]? = some x) (hy : xs[n]? = some y)
    (q : ∀ B1 H1, St K W0 B0 H0 (os.set k (lstC K l ((xs.set n x).set m y))) Γ σ B1 H1 → tz D σ H1) :
    tSeq (tAsg (tTup (tCons (tOp (rIxU K) (tVar i) (tVar i2)) (tCons (tOp (rIxU K) (tVar i) (tVar i1)) tNil))) (gUnp K 2 (gCons (gSub (tVar i) (tVar i1) rSetL) (gCons (gSub (tVar i) (tVar i2) rSetL) gNil)))) tz D σ H := by
  obtain ⟨vs, hb, hl, hA, e, s2⟩ := s.fz h hi
  have hn := (List.getElem?_eq_some_iff.mp hy).1
  have hm := (List.getElem?_eq_some_iff.mp hx).1
  have v0 : Pe K (tVar i) σ (upd B l (.lst vs)) xs := s2.v (x := xs) i w0
  show tTup (tCons (tOp (rIxU K) (tVar i) (tVar i2)) (tCons (tOp (rIxU K) (tVar i) (tVar i1)) tNil)) σ H (fun v H1 => gUnp K 2 (gCons (gSub (tVar i) (tVar i1) rSetL) (gCons (gSub (tVar i) (tVar i2) rSetL) gNil)) v σ H1 (tz D))
  refine (Pe.thaw (x := Tup.mk [x, y]) (e_tupW (.cons (e_ixL (x := x) v0 (s2.v (x := (m : Int)) i2 w2) (atI_nat (by omega) (by rw [Int.toNat_natCast]; exact hx))) (.cons (e_ixL (x := y) v0 (s2.v (x := (n : Int)) i1 w1) (atI_nat (by omega) (by rw [Int.toNat_natCast]; exact hy))) .nil)) (by show 2 ≤ 1000000; decide)) hb s.bh hl) fun v B1 H1 u hb1 hl1 hv => ?_
  obtain ⟨a, ws, rfl, hs, hA2⟩ := at_tup.mp hv
  have hws := strs_vals hA2
  subst hws
  have s3 := s.up u
  have ixn : ∀ {k : Nat}, k < vs.length → ixN vs.length (k : Int) = some k := fun h => by
    unfold ixN
    rw [if_pos (by omega), if_pos (by omega), Int.toNat_natCast]
  have hvl : vs.length = xs.length := hA.length
  obtain ⟨a1, r1, t1⟩ := s3.sl.get h1
  cases at_int.mp t1
  obtain ⟨a2, r2, t2⟩ := s3.sl.get h2
  cases at_int.mp t2
  have hset : ∀ {zs : List Str} {us : List V} {j : Nat} {z : Str}, AtAll K B1 us zs → AtAll K B1 (us.set j (.str z)) (zs.set j z) := fun {zs us j z} hq => by
    rw [strs_vals hq, ← List.map_set]
    exact atAll_strS
  refine .inl ⟨a, _, rfl, Evl.st_of (u.bh _ _ hs), rfl, _, _, rfl, ⟨_, s3.sl.rf i hi, _, r1, l, vs, (n : Int), n, rfl, rfl, hl1, ixn (by omega), _, _, rfl, ⟨_, s3.sl.rf i hi, _, r2, l, vs.set n (.str x), (m : Int), m, rfl, rfl, upd_same, ?_, rfl, ?_⟩⟩⟩
  · rw [List.length_set]
    exact ixn (by omega)
  · have s4 := s3.chg (o := lstC K l xs) (o' := lstC K l (xs.set n x)) (ob := .lst (vs.set n (.str x))) h rfl ⟨_, rfl, hset (hA.mono u.bb)⟩
    have hk : k < os.length := (List.getElem?_eq_some_iff.mp h).1
    have s5 := s4.chg (k := k) (o := lstC K l (xs.set n x)) (o' := lstC K l ((xs.set n x).set m y)) (ob := .lst ((vs.set n (.str x)).set m (.str y))) (by rw [List.getElem?_set_self hk]) rfl ⟨_, rfl, hset (hset (hA.mono u.bb))⟩
    rw [List.set_set] at s5
    exact q B1 _ s5
end
section
variable {K : PySem.W.Frag}
theorem set_perm87 {xs : List Str} {n m : Nat} {x y : Str} (hx : xs[m]? = some x) (hy : xs[n]? = some y) : sumL ((xs.set n x).set m y) = sumL xs := by
  have key : ∀ {zs : List Str} {k : Nat} {z w : Str}, zs[k]? = some w → sumL (zs.set k z) + w.length = sumL zs + z.length := fun {zs} => by
    induction zs with
    | nil => intro k z w h; cases h
    | cons a r ih =>
      intro k z w h
      cases k with
      | zero =>
        have e : a = w := Option.some.inj h
        rw [List.set_cons_zero, sumL_cons, sumL_cons, e]
        omega
      | succ k =>
        have := ih (k := k) (z := z) (w := w) h
        rw [List.set_cons_succ, sumL_cons, sumL_cons]
        omega
  have k1 := key (z := x) hy
  by_cases e : n = m
  · subst e
    rw [hx] at hy
    cases hy
    rw [List.set_set]
    omega
  · have hx2 : (xs.set n x)[m]? = some x := by rw [List.getElem?_set_ne e]; exact hx
    have k2 := key (z := y) hx2
    omega
theorem cut_sum87 (xs : List Str) (lo hi : Option Int) : sumL (cutA xs lo hi) ≤ sumL xs ∧ (cutA xs lo hi).length ≤ xs.length := ⟨sumL_sub ((List.take_sublist _ _).trans (List.drop_sublist _ _)), ((List.take_sublist _ _).trans (List.drop_sublist _ _)).length_le⟩
def signsC : List Str := charsS "ab-/ zA1" ++ ([" - ", " / ", "-b", "a-"] : List Str)
theorem signs_len : ∀ z ∈ signsC, z.length ≤ 3 := by decide +kernel
abbrev sp_Lchanged (K : PySem.W.Frag) : Sp := FnB1 K 5 (fun page : Str => page.length ≤ 100000) (fun page (r : Str) => r.length ≤ 3 * page.length + 10)
def N_Lchanged : List Str := ["_law_box_here", "_law_page_here", "_law_at", "_law_way", "_law_sign", "_law_words", "_law_spot"]
def t_Lchanged (K : PySem.W.Frag) : TS :=
  (tSeq (tPar 2 3 (tCons (tCall (sp_Ltake K) [] E0 (tCons (tVar 0) (tCons (tOp (rAddU K) (tCB (rLenU K) (tCons (tVar 1) tNil)) (tC (.int 1))) tNil))) (tCons (tCall (sp_Ltake K) [] E0 (tCons (tVar 0) (tCons (tC (.int 6)) tNil))) tNil)))
    (tSeq (tAsg (tCall (sp_Lof K) [] E0 (tCons (tVar 0) (tCons (tOp (rAddU K) (tCB (rListTx) (tCons (tC (.str "ab-/ zA1")) tNil)) (tLst (tCons (tC (.str " - ")) (tCons (tC (.str " / ")) (tCons (tC (.str "-b")) (tCons (tC (.str "a-")) tNil)))))) tNil))) (gName 4))
    (tSeq (tIfS (tTest (tOp (rLtU K) (tVar 3) (tC (.int 3)))) (tRet (tOp (rAddU K) (tOp (rAddU K) (tSl (rSlU K) (tVar 1) tNoPart (tPart (tVar 2))) (tOp (rIxU K) (tLst (tCons (tVar 4) (tCons (tC (.str "")) (tCons (tVar 4) tNil)))) (tVar 3))) (tSl (rSlU K) (tVar 1) (tPart (tOp (rAddU K) (tVar 2) (tOp (rIxU K) (tLst (tCons (tC (.int 0)) (tCons (tC (.int 1)) (tCons (tC (.int 1)) tNil)))) (tVar 3)))) tNoPart))) tNext)
    (tSeq (tAsg (tSplit (tVar 1) (tC (.str " "))) (gName 5))
    (tSeq (tPar 2 6 (tCons (tCall (sp_Ltake K) [] E0 (tCons (tVar 0) (tCons (tCB (rLenU K) (tCons (tVar 5) tNil)) tNil))) (tCons (tCall (sp_Ltake K) [] E0 (tCons (tVar 0) (tCons (tCB (rLenU K) (tCons (tVar 5) tNil)) tNil))) tNil)))
    (tSeq (tIfS (tTest (tOp (rEqP K) (tVar 3) (tC (.int 3)))) (tRet (tJoinS K (tC (.str " ")) (tOp (rAddU K) (tSl (rSlU K) (tVar 5) tNoPart (tPart (tVar 2))) (tSl (rSlU K) (tVar 5) (tPart (tOp (rAddU K) (tVar 2) (tC (.int 1)))) tNoPart)))) tNext)
    (tSeq (tIfS (tTest (tOp (rEqP K) (tVar 3) (tC (.int 4)))) (tRet (tJoinS K (tC (.str " ")) (tOp (rAddU K) (tOp (rAddU K) (tSl (rSlU K) (tVar 5) tNoPart (tPart (tVar 2))) (tLst (tCons (tOp (rIxU K) (tVar 5) (tVar 6)) tNil))) (tSl (rSlU K) (tVar 5) (tPart (tVar 2)) tNoPart)))) tNext)
    (tSeq (tAsg (tTup (tCons (tOp (rIxU K) (tVar 5) (tVar 6)) (tCons (tOp (rIxU K) (tVar 5) (tVar 2)) tNil))) (gUnp K 2 (gCons (gSub (tVar 5) (tVar 2) rSetL) (gCons (gSub (tVar 5) (tVar 6) rSetL) gNil))))
    (tRet (tJoinS K (tC (.str " ")) (tVar 5)))))))))))
theorem l_Lchanged (vs : List V) (H : Hp) (Q : VK) (E : XK) (h : sp_Lchanged K vs H Q E) : vs.length = 2 := FnB1.len vs H Q E h
theorem app_len87 (x y : Str) : (x ++ y).length = x.length + y.length := by rw [len_tl, tl_append, List.length_append, ← len_tl, ← len_tl]
theorem r_Lchanged (vs : List V) (H : Hp) (Q : VK) (E : XK) (h : sp_Lchanged K vs H Q E) : t_Lchanged K (Ends.ret Q) (start N_Lchanged vs) H := by
  obtain ⟨b, c, x, B, hz, hc, s, q⟩ := FnB1.st h N_Lchanged
  replace hz : x.length ≤ 100000 := hz
  replace s : St K [b] B H [boxC b c] [ca b, ce x, none, none, none, none, none] (start N_Lchanged vs) B H := s
  have fin : ∀ {r : Str} {v : V} {os : List OC} {Γ : List (Option Cell)} {σ : L2.St} {B2 H2 : Hp} {n : Int}, n ≤ 5 → r.length ≤ 3 * x.length + 10 → St K [b] B H (boxC b (c + n) :: os) Γ σ B2 H2 → Rep.at_ K B2 v r → Q v H2 := fun hn hr s2 hv => q _ _ _ _ _ _ _ (s2.le (by omega)) hr hv
  refine s.parB (n := 1) (m := 1) (x_take (b := b) (i := 0) rfl s.sl (e_addI (e_lenS (s.v (x := x) 1 rfl) (by omega)) (e_int (i := 1))) (by omega) (by omega)) (x_take (b := b) (i := 0) rfl s.sl (e_int (i := 6)) (by decide) (by decide)) (by decide) (by omega) fun at_ way hat hway σ1 B1 H1 s1 => ?_
  replace s1 : St K [b] B H [boxC b (c + 1 + 1)] [ca b, ce x, ce at_, ce way, none, none, none] σ1 B1 H1 := s1
  obtain ⟨w0, w6⟩ := hway
  obtain ⟨a0, a1⟩ := hat
  refine s1.setB (i := 4) (n := 1) (e_of (b := b) (i := 0) (xs := signsC) (s1.sl.rf 0 rfl) ((e_addL (e_listTx e_str (by decide +kernel)) (e_lstW (xs := [(" - " : Str), " / ", "-b", "a-"]) (.cons e_str (.cons e_str (.cons e_str (.cons e_str .nil)))) (by show 4 ≤ 1000000; decide)) (by decide +kernel)).imp sq_list) (by decide +kernel) (by decide +kernel)) (by omega) fun sg hsg σ2 B2 H2 s2 => ?_
  replace s2 : St K [b] B H [boxC b (c + 1 + 1 + 1)] [ca b, ce x, ce at_, ce way, ce sg, none, none] σ2 B2 H2 := s2
  have hsgl := signs_len sg hsg
  refine s2.ite (b := decide (way < 3)) (t_test (e_lt (s2.v (x := way) 3 rfl) (e_int (i := 3)))) (fun hb B3 H3 s3 => ?_) fun hb B3 H3 s3 => ?_
  · have h3 : way < 3 := of_decide_eq_true hb
    have hway3 : way.toNat < 3 := by omega
    obtain ⟨mid, hmid⟩ : ∃ mid, ([sg, "", sg] : List Str)[way.toNat]? = some mid := ⟨_, List.getElem?_eq_getElem (by simpa using hway3)⟩
    obtain ⟨off, hoff⟩ : ∃ off, ([0, 1, 1] : List Int)[way.toNat]? = some off := ⟨_, List.getElem?_eq_getElem (by simpa using hway3)⟩
    have hml : mid.length ≤ 3 := by
      have hm := List.mem_of_getElem? hmid
      simp only [List.mem_cons, List.not_mem_nil, or_false] at hm
      rcases hm with e | e | e
      · rw [e]; exact hsgl
      · rw [e, len_tl, tl_em]; simp
      · rw [e]; exact hsgl
    have l1 := cutS_length x none (some at_)
    have l2 := cutS_length x (some (at_ + off)) none
    refine St.ret (D := { Ends.ret Q with nx := _ }) (x := cutS x none (some at_) ++ mid ++ cutS x (some (at_ + off)) none) s3 ?_ fun v B4 H4 s4 hv => fin (n := 3) (by decide) (by rw [app_len87, app_len87]; omega) (by rw [show c + 3 = c + 1 + 1 + 1 by omega]; exact s4) hv
    refine e_addStr (e_addStr (e_slS87 (s3.v (x := x) 1 rfl) o_none (o_some (K := K) (s3.v (x := at_) 2 rfl)) (by omega)) (e_ixL (xs := [sg, "", sg]) (e_lstW (.cons (s3.v (x := sg) 4 rfl) (.cons e_str (.cons (s3.v (x := sg) 4 rfl) .nil))) (by show 3 ≤ 1000000; decide)) (s3.v (x := way) 3 rfl) (atI_nat w0 hmid)) (by omega)) (e_slS87 (s3.v (x := x) 1 rfl) (o_some (K := K) (e_addI (s3.v (x := at_) 2 rfl) (e_ixL (xs := [(0 : Int), 1, 1]) (e_lstW (.cons e_int (.cons e_int (.cons e_int .nil))) (by show 3 ≤ 1000000; decide)) (s3.v (x := way) 3 rfl) (atI_nat w0 hoff)))) o_none (by omega)) (by rw [app_len87]; omega)
  show tSeq _ _ _ _ _
  obtain ⟨ws, hws⟩ : ∃ ws, ws = Txt.split x " " := ⟨_, rfl⟩
  obtain ⟨z1, z2, z3⟩ := split_sum x sp_ne k_sp
  rw [← hws] at z1 z2 z3
  have hwp : 0 < ws.length := List.length_pos_iff.mpr z3
  refine s3.setOwn87 (i := 5) (xs := ws) (hws ▸ f_split (s3.v (x := x) 1 rfl) e_str (by rw [len_one]; rfl) (by omega)) fun l σ4 B4 H4 s4 => ?_
  replace s4 : St K [b] B H [boxC b (c + 1 + 1 + 1), lstC K l ws] [ca b, ce x, ce at_, ce way, ce sg, ca l, none] σ4 B4 H4 := s4
  refine s4.takeE87 (k := 1) (i := 5) (i0 := 0) (l := l) (xs := ws) (n := (ws.length : Int)) rfl rfl rfl (fun B' b' sl => e_lenL (sl.v (x := ws) 5 rfl)) (by omega) (by omega) (by omega) fun at2 a20 a21 v1 B5 H5 b5 hv1 s5 => ?_
  refine s5.takeE87 (k := 1) (i := 5) (i0 := 0) (l := l) (xs := ws) (n := (ws.length : Int)) rfl rfl rfl (fun B' b' sl => e_lenL (sl.v (x := ws) 5 rfl)) (by omega) (by omega) (by omega) fun sp sp0 sp1 v2 B6 H6 b6 hv2 s6 => ?_
  refine ⟨v1, v2, rfl, ?_⟩
  have s7 : St K [b] B H [boxC b (c + 1 + 1 + 1 + 1 + 1), lstC K l ws] [ca b, ce x, ce at2, ce way, ce sg, ca l, ce sp] ((σ4.set 2 (some v1)).set 6 (some v2)) B6 H6 := (s6.put 2 (Rep.mono b6 hv1)).put 6 hv2
  obtain ⟨n2, hn2⟩ := Int.eq_ofNat_of_zero_le a20
  obtain ⟨m2, hm2⟩ := Int.eq_ofNat_of_zero_le sp0
  subst hn2
  subst hm2
  obtain ⟨xa, hxa⟩ : ∃ xa, ws[n2]? = some xa := ⟨_, List.getElem?_eq_getElem (by omega)⟩
  obtain ⟨xs_, hxs⟩ : ∃ xs_, ws[m2]? = some xs_ := ⟨_, List.getElem?_eq_getElem (by omega)⟩
  have jn : ∀ {ys : List Str}, sumL ys ≤ 2 * x.length → ys.length ≤ ws.length + 1 → (Txt.join " " ys).length ≤ 3 * x.length + 10 ∧ (ys.map (·.length)).sum + ys.length * (" " : Str).length ≤ 16777216 := fun {ys} h1 h2 => by
    have h3 := join_len " " ys
    rw [len_one] at h3 ⊢
    have h4 : (ys.map (·.length)).sum = sumL ys := rfl
    omega
  have hend : ∀ {r : Str} {v : V} {Γ : List (Option Cell)} {σ : L2.St} {os : List OC} {B2 H2 : Hp}, r.length ≤ 3 * x.length + 10 → St K [b] B H (boxC b (c + 1 + 1 + 1 + 1 + 1) :: os) Γ σ B2 H2 → Rep.at_ K B2 v r → Q v H2 := fun hr s2 hv => fin (n := 5) (by decide) hr (by rw [show c + 5 = c + 1 + 1 + 1 + 1 + 1 by omega]; exact s2) hv
  refine s7.ite (b := decide (way = 3)) (t_test (e_eq (s7.v (x := way) 3 rfl) (e_int (i := 3)))) (fun hb B8 H8 s8 => ?_) fun hb B8 H8 s8 => ?_
  · obtain ⟨c1, c2⟩ := cut_sum87 ws none (some (n2 : Int))
    obtain ⟨d1, d2⟩ := cut_sum87 ws (some ((n2 : Int) + 1)) none
    have hsplit : (cutA ws none (some (n2 : Int)) ++ cutA ws (some ((n2 : Int) + 1)) none).length ≤ ws.length + 1 := by
      rw [cutA_to, show (n2 : Int) + 1 = ((n2 + 1 : Nat) : Int) from rfl, cutA_from, List.length_append, List.length_take, List.length_drop]
      omega
    obtain ⟨j1, j2⟩ := jn (ys := cutA ws none (some (n2 : Int)) ++ cutA ws (some ((n2 : Int) + 1)) none) (by rw [sumL_append]; omega) hsplit
    exact s8.retT87 (D := { Ends.ret Q with nx := _ }) (k := 1) (i := 5) (l := l) (xs := ws) (x := Txt.join " " (cutA ws none (some (n2 : Int)) ++ cutA ws (some ((n2 : Int) + 1)) none)) rfl rfl (fun B' b' sl => e_join e_str ((e_addL (e_slL (sl.v (x := ws) 5 rfl) o_none (o_some (K := K) (sl.v (x := (n2 : Int)) 2 rfl))) (e_slL (sl.v (x := ws) 5 rfl) (o_some (K := K) (e_addI (sl.v (x := (n2 : Int)) 2 rfl) (e_int (i := 1)))) o_none) (by omega)).imp sq_list) j2) fun v B9 H9 s9 hv => hend j1 s9 hv
  show tSeq _ _ _ _ _
  refine s8.ite (b := decide (way = 4)) (t_test (e_eq (s8.v (x := way) 3 rfl) (e_int (i := 4)))) (fun hb B9 H9 s9 => ?_) fun hb B9 H9 s9 => ?_
  · have hxl : xs_.length ≤ x.length := Nat.le_trans (sumL_mem (List.mem_of_getElem? hxs)) z1
    have hs1 : sumL (cutA ws none (some (n2 : Int)) ++ [xs_] ++ cutA ws (some (n2 : Int)) none) ≤ 2 * x.length ∧ (cutA ws none (some (n2 : Int)) ++ [xs_] ++ cutA ws (some (n2 : Int)) none).length ≤ ws.length + 1 := by
      rw [cutA_to, cutA_from]
      have e1 : sumL (ws.take n2) + sumL (ws.drop n2) = sumL ws := by rw [← sumL_append, List.take_append_drop]
      refine ⟨?_, ?_⟩
      · rw [sumL_append, sumL_append, sumL_cons]
        show sumL (ws.take n2) + (xs_.length + 0) + sumL (ws.drop n2) ≤ _
        omega
      · rw [List.length_append, List.length_append, List.length_take, List.length_drop, List.length_singleton]
        omega
    obtain ⟨j1, j2⟩ := jn hs1.1 hs1.2
    have hc1 := (cut_sum87 ws none (some (n2 : Int))).2
    have hc2 := (cut_sum87 ws (some (n2 : Int)) none).2
    exact s9.retT87 (D := { Ends.ret Q with nx := _ }) (k := 1) (i := 5) (l := l) (xs := ws) (x := Txt.join " " (cutA ws none (some (n2 : Int)) ++ [xs_] ++ cutA ws (some (n2 : Int)) none)) rfl rfl (fun B' b' sl => e_join e_str ((e_addL (e_addL (e_slL (sl.v (x := ws) 5 rfl) o_none (o_some (K := K) (sl.v (x := (n2 : Int)) 2 rfl))) (e_lst1 (e_ixL (sl.v (x := ws) 5 rfl) (sl.v (x := (m2 : Int)) 6 rfl) (atI_nat (by omega) (by rw [Int.toNat_natCast]; exact hxs)))) (by rw [List.length_singleton]; omega)) (e_slL (sl.v (x := ws) 5 rfl) (o_some (K := K) (sl.v (x := (n2 : Int)) 2 rfl)) o_none) (by rw [List.length_append, List.length_singleton]; omega)).imp sq_list) j2) fun v B10 H10 s10 hv => hend j1 s10 hv
  show tSeq _ _ _ _ _
  refine s9.swap87 (k := 1) (i := 5) (i1 := 2) (i2 := 6) (l := l) (xs := ws) (n := n2) (m := m2) rfl rfl rfl rfl rfl rfl rfl hxs hxa fun B10 H10 s10 => ?_
  have hsum := set_perm87 hxs hxa
  obtain ⟨j1, j2⟩ := jn (ys := (ws.set n2 xs_).set m2 xa) (by omega) (by rw [List.length_set, List.length_set]; omega)
  replace s10 : St K [b] B H [boxC b (c + 1 + 1 + 1 + 1 + 1), lstC K l ((ws.set n2 xs_).set m2 xa)] [ca b, ce x, ce (n2 : Int), ce way, ce sg, ca l, ce (m2 : Int)] _ B10 H10 := s10
  exact s10.retT87 (D := Ends.ret Q) (k := 1) (i := 5) (l := l) (xs := (ws.set n2 xs_).set m2 xa) (x := Txt.join " " ((ws.set n2 xs_).set m2 xa)) rfl rfl (fun B' b' sl => e_join e_str ((sl.v (x := (ws.set n2 xs_).set m2 xa) 5 rfl).imp sq_list) j2) fun v B11 H11 s11 hv => hend j1 s11 hv
end
end Ob
set_option Elab.async false
set_option linter.all false
set_option maxRecDepth 100000
set_option maxHeartbeats 4000000
/-! E87: _law_right of k87. -/
namespace Ob
open PySem L2 TL
open Evl (Ex)
open PySem.W (Datum Tup DatumOrd)
section
variable {K : PySem.W.Frag} {W0 : List Addr} {B0 H0 : Hp} {os : List OC} {Γ : List (Option Cell)} {σ : L2.St} {B H : Hp} {te ta tb : TE} {tt : TT} {D : Ends} {tu tz : TS} {b : Addr} {c n m : Int}
theorem b_rngLc87 {α : Type} [Rep α] {R : Int → Prop} {R2 : α → Prop} {g : TG} {vs : List Nat} (h : Pb K b n te σ B R) (h2 : ∀ k, R k → ∀ B', Ex B B' → Pb K b m (tLc (iRng1 (tCons (tC (.int k)) tNil)) g tt tb vs) σ B' R2) (hm : 0 ≤ m) : Pb K b (n + m) (tLc (iRng1 (tCons te tNil)) g tt tb vs) σ B R2 := fun H c e bx hc Q q =>
  h H c e bx (by omega) _ fun v k B1 H1 u1 ub1 r1 hv => by
    cases at_int.mp hv
    exact h2 k r1 B1 u1.bb H1 (c + n) u1.bh ub1 (by omega) Q fun v x B2 H2 u2 ub2 r2 hv => q v x B2 H2 (u1.trans ub1.ne u2) (ub2.le (by omega)) r2 hv
theorem b_ifC87 {α : Type} [Rep α] {R : α → Prop} {R0 : Bool → Prop} (h : Ptb b n tt σ B R0) (h1 : ∀ B', Ex B B' → Pb K b m ta σ B' R) (h2 : ∀ B', Ex B B' → Pb K b m tb σ B' R) (hm : 0 ≤ m) : Pb K b (n + m) (tIf tt ta tb) σ B R := fun H c e bx hc Q q =>
  h H c e bx (by omega) (fun k H1 => if k = true then ta σ H1 Q else tb σ H1 Q) fun k B1 H1 u1 ub1 r1 => by
    cases k with
    | true => exact h1 B1 u1.bb H1 (c + n) u1.bh ub1 (by omega) Q fun v x B2 H2 u2 ub2 r2 hv => q v x B2 H2 (u1.trans ub1.ne u2) (ub2.le (by omega)) r2 hv
    | false => exact h2 B1 u1.bb H1 (c + n) u1.bh ub1 (by omega) Q fun v x B2 H2 u2 ub2 r2 hv => q v x B2 H2 (u1.trans ub1.ne u2) (ub2.le (by omega)) r2 hv
theorem St.appB87 {α : Type} [Rep α] {i k : Nat} {l : Addr} {xs : List α} {R : α → Prop} (s : St K W0 B0 H0 (boxC b c :: os) Γ σ B H) (h : os[k]? = some (lstC K l xs)) (hi : cg Γ i = ca l) (h1 : Pb K b n te σ B R) (hz : xs.length ≤ 1000000) (hc : c + n ≤ 2 ^ 40)
    (q : ∀ x, R x → ∀ B1 H1, St K W0 B0 H0 (boxC b (c + n) :: os.set k (lstC K l (xs ++ [x]))) Γ σ B1 H1 → D.nx σ H1) : tDrop (tBM K "list" rAppend (tVar i) (tCons te tNil)) D σ H := by
  have h' : ∀ d : Int, (boxC b d :: os)[k + 1]? = some (lstC K l xs) := fun d => by simpa using h
  obtain ⟨_, vs, hl, hA⟩ := s.lst (h' c)
  refine ⟨_, s.sl.rf i hi, .inl ⟨rfl, vs, Evl.sq_of hl⟩, h1 H c s.bh s.box hc _ fun v x B1 H1 u ub r hv => ?_⟩
  have s1 := s.ub u ub
  obtain ⟨_, ws, hl2, hA2⟩ := s1.lst (h' (c + n))
  refine ⟨l, ws, v, rfl, rfl, hl2, by rw [hA2.length, sizeLine_eq]; omega, ?_⟩
  exact q x r B1 _ (s1.chg (k := k + 1) (o := lstC K l xs) (o' := lstC K l (xs ++ [x])) (ob := .lst (ws ++ [v])) (h' (c + n)) rfl ⟨_, rfl, hA2.snoc hv⟩)
/-- f(..).append("more"): nobody holds that list -/
theorem St.moreF87 {xs : List Str} {w : Str} (s : St K W0 B0 H0 os Γ σ B H) (h : PeF K te σ B xs) (hz : xs.length ≤ 1000000) (q : ∀ B1 H1, St K W0 B0 H0 os Γ σ B1 H1 → tz D σ H1) : tSeq (tDrop (tBM K "list" rAppend te (tCons (tC (.str w)) tNil))) tz D σ H :=
  h H s.bh _ fun l us B1 H1 u hb hh hl hA => by
    have s1 := s.adopt u hb hh hl (lstC K l xs) rfl ⟨us, rfl, hA⟩
    refine ⟨.inl ⟨rfl, us, Evl.sq_of hl⟩, l, us, .str w, rfl, rfl, hl, Nat.lt_of_le_of_lt (by rw [hA.length]; exact hz) (by rw [sizeLine_eq]; decide), ?_⟩
    have s2 := (s1.chg (k := os.length) (o := lstC K l xs) (o' := ⟨l, fun _ _ => True, fun _ h => h⟩) (ob := .lst (us ++ [.str w])) (by simp) rfl trivial).letgo os.length
    have e : ((os ++ [lstC K l xs]).set os.length ⟨l, fun _ _ => True, fun _ h => h⟩).eraseIdx os.length = os := by
      rw [List.set_append_right _ _ (Nat.le_refl _), Nat.sub_self]
      show (os ++ [_]).eraseIdx os.length = os
      rw [List.eraseIdx_append_of_length_le (Nat.le_refl _), Nat.sub_self]
      simp
    rw [e] at s2
    exact q B1 _ s2
/-- xs + ys, a list that nobody else holds -/
theorem f_addL87 {xs ys : List Str} (ha : Pe K ta σ B xs) (hb : Pe K tb σ B ys) (hz : xs.length + ys.length ≤ 1000000) : PeF K (tOp (rAddU K) ta tb) σ B (xs ++ ys) := fun H e Q q => ha.both hb e fun v w B1 H1 u h1 h2 => by
  obtain ⟨a, vs, rfl, hs, hx⟩ := at_list.mp h1
  obtain ⟨b, ws, rfl, hs2, hy⟩ := at_list.mp h2
  refine .inr (.inr (.inl ⟨a, b, vs, ws, rfl, rfl, Evl.ex_l u.bh hs, Evl.ex_l u.bh hs2, ?_, fun p hp => ?_⟩))
  · rw [hx.length, hy.length]
    exact Nat.le_trans hz (by rw [sizeLine_eq]; decide)
  · obtain ⟨u2, hb2, hh⟩ := up_free87 (o := .lst (vs ++ ws)) u hp
    exact q p _ B1 _ u2 hb2 hh upd_same (hx.append hy)
end
/-! ### plain -/
theorem pool_name : ∀ x ∈ poolN, nameS x = true := by decide +kernel
theorem run_sizes : ∀ (ws : List Str) (k : Nat) (st st' : RdS), runRd k st ws = .inr st' → (∀ t ∈ st.ex, t.items.length = 2) → st'.sw.length ≤ st.sw.length + ws.length ∧ st'.ex.length ≤ st.ex.length + ws.length ∧ ∀ t ∈ st'.ex, t.items.length = 2
  | [], k, st, st', h, h2 => by
    have e : st = st' := Sum.inr.inj h
    rw [← e]
    exact ⟨Nat.le_refl _, Nat.le_refl _, h2⟩
  | w :: r, k, st, st', h, h2 => by
    have h' : (if (tk st w).1 = true then runRd (k + 1) (tk st w).2 r else .inl k) = .inr st' := h
    by_cases ht : (tk st w).1 = true
    · rw [if_pos ht] at h'
      have hg := tk_grow st w
      have hx : ∀ t ∈ (tk st w).2.ex, t.items.length = 2 := fun t hm => by
        have key : (tk st w).2.ex = st.ex ∨ (tk st w).2.ex = st.ex ++ [Tup.mk [p1 w, p2 w]] := by
          unfold tk tkPr tkSw
          split
          · exact .inl rfl
          · split
            · split
              · exact .inl rfl
              · split
                · exact .inr rfl
                · exact .inl rfl
            · split
              · exact .inl rfl
              · split
                · exact .inl rfl
                · exact .inl rfl
        rcases key with e | e
        · rw [e] at hm; exact h2 t hm
        · rw [e] at hm
          rcases List.mem_append.mp hm with hm | hm
          · exact h2 t hm
          · rw [List.mem_singleton.mp hm]; rfl
      obtain ⟨q1, q2, q3⟩ := run_sizes r (k + 1) _ st' h' hx
      rw [List.length_cons]
      exact ⟨by omega, by omega, q3⟩
    · rw [if_neg ht] at h'
      cases h'
theorem dk_outP {ws : List Str} (hz : ws.length ≤ 500000) : DOk 4 (outP ws) := by
  unfold outP
  cases hp : panIn ws with
  | inl k => exact dkI
  | inr st =>
    have hr : runRd 0 rd0 ws = .inr st := by
      unfold panIn at hp
      cases hq : runRd 0 rd0 ws with
      | inl k => rw [hq] at hp; cases hp
      | inr st2 =>
        rw [hq] at hp
        have hp' : (if wholeB st2 = true then (Sum.inr st2 : Sum Nat RdS) else .inl ws.length) = .inr st := hp
        split at hp'
        · exact hp'
        · cases hp'
    obtain ⟨h1, h2, h3⟩ := run_sizes ws 0 rd0 st hr (fun t ht => absurd ht (by simp [rd0]))
    have e1 : (rd0).sw.length = 0 := rfl
    have e2 : (rd0).ex.length = 0 := rfl
    refine ⟨by show 2 ≤ 1000000; decide, fun d hd => ?_⟩
    have hd' : d ∈ [Datum.toD (Tup.mk st.sw), Datum.toD (Tup.mk st.ex)] := hd
    rcases List.mem_cons.mp hd' with e | hd'
    · rw [e]
      exact dkT (by show st.sw.length ≤ 1000000; omega)
    · rw [List.mem_singleton.mp hd']
      refine ⟨by rw [List.length_map]; show st.ex.length ≤ 1000000; omega, fun d hd => ?_⟩
      obtain ⟨t, ht, rfl⟩ := List.mem_map.mp hd
      exact dkT (n := 1) (by rw [h3 t ht]; decide)
theorem dk4P87 {p : Pan} (h1 : p.sw.length ≤ 1000000) (h2 : p.ex.length ≤ 1000000) : DOk 4 (Datum.toD p.t) := by
  refine ⟨by show 2 ≤ 1000000; decide, fun d hd => ?_⟩
  have hd' : d ∈ [Datum.toD (Tup.mk p.sw), Datum.toD (Tup.mk p.ex)] := hd
  rcases List.mem_cons.mp hd' with rfl | hd'
  · exact dkT h1
  · rw [List.mem_singleton.mp hd']
    refine ⟨by rw [List.length_map]; exact h2, fun d hd => ?_⟩
    obtain ⟨x, _, rfl⟩ := List.mem_map.mp hd
    exact dkT (n := 1) (xs := [x.1, x.2]) (by show 2 ≤ 1000000; decide)
theorem dk_outN {ws : List Str} (hz : ws.length ≤ 500000) : DOk 4 (outN ws) := by
  unfold outN
  split
  · exact dkSs (n := 3) (xs := []) (by decide)
  · split
    · exact dkI
    · exact dkSs (n := 3) (by omega)
section
variable {K : PySem.W.Frag}
def N_Lright : List Str := ["_law_box_here", "_law_wired_here", "_law_pool", "_law_some", "_law_pages", "_law_told", "_law_fixed", "_law_turn", "_law_page_here", "_law_due"]
def t_Lright (K : PySem.W.Frag) : TS :=
  (tSeq (tAsg (tTup (tCons (tCall (sp_Lwired K) [] E0 (tCons (tVar 0) (tCons (tC (.int 1)) (tCons (tC (.int 6)) tNil)))) (tCons (tCall (sp_Lnames K) [] E0 (tCons (tVar 0) (tCons (tC (.int 9)) tNil))) tNil))) (gUnp K 2 (gCons (gName 1) (gCons (gName 2) gNil))))
    (tSeq (tAsg (tLc (iRng1 (tCons (tCall (sp_Ltake K) [] E0 (tCons (tVar 0) (tCons (tC (.int 10)) tNil))) tNil)) (gName 7) tYes (tCall (sp_Lof K) [] E0 (tCons (tVar 0) (tCons (tVar 2) tNil))) [7]) (gName 3))
    (tSeq (tAsg (tLst (tCons (tCall (sp_Lpage K) [] E0 (tCons (tVar 1) tNil)) (tCons (tIf (tTest (tOp (rNeP K) (tVar 3) (tLst tNil))) (tJoinS K (tC (.str " ")) (tVar 3)) (tC (.str "-"))) tNil))) (gName 4))
    (tSeq (tAsg (tLst (tCons (tCall (sp_panel_text K) [] E0 (tCons (tVar 1) tNil)) (tCons (tCallN 0 1 (sp_panel_text K) (fun _ zs => permL [0] zs) E0 tNil (tCons (tCall (sp_Llists K) [] E0 (tCons (tVar 1) tNil)) tNil)) (tCons (tCall (sp_names_text K) [] E0 (tCons (tVar 3) tNil)) (tCons (tCallN 0 1 (sp_names_text K) (fun _ zs => permL [0] zs) E0 tNil (tCons (tCB (rTupleU K) (tCons (tVar 3) tNil)) tNil)) tNil))))) (gName 5))
    (tSeq (tIfS (tNot (tB (tCall (sp_Lsame K) [] E0 (tCons (tVar 5) (tCons (tLst (tCons (tOp (rIxU K) (tVar 4) (tC (.int 0))) (tCons (tOp (rIxU K) (tVar 4) (tC (.int 0))) (tCons (tOp (rIxU K) (tVar 4) (tC (.int 1))) (tCons (tOp (rIxU K) (tVar 4) (tC (.int 1))) tNil))))) tNil))))) (tRet (tC (.bl false))) tNext)
    (tSeq (tIfS (tNot (tB (tCall (sp_Lsame K) [] E0 (tCons (tLst (tCons (tCallN 0 1 (sp_panel_in K) (fun _ zs => permL [0] zs) E0 tNil (tCons (tOp (rIxU K) (tVar 4) (tC (.int 0))) tNil)) (tCons (tCallN 0 1 (sp_names_inF K) (fun _ zs => permL [0] zs) E0 tNil (tCons (tOp (rIxU K) (tVar 4) (tC (.int 1))) tNil)) tNil))) (tCons (tLst (tCons (tVar 1) (tCons (tVar 3) tNil))) tNil))))) (tRet (tC (.bl false))) tNext)
    (tSeq (tDrop (tBM K "list" (rAppend) (tCall (sp_names_inF K) [] E0 (tCons (tOp (rIxU K) (tVar 4) (tC (.int 1))) tNil)) (tCons (tC (.str "more")) tNil)))
    (tSeq (tAsg (tLst (tCons (tC (.str "")) (tCons (tC (.str " ")) (tCons (tC (.str "-")) (tCons (tC (.str "/")) (tCons (tC (.str "a")) (tCons (tC (.str "a /")) (tCons (tC (.str "a / -")) (tCons (tC (.str "a / ")) (tCons (tC (.str "a / - -")) (tCons (tC (.str "a b / a-b")) (tCons (tC (.str "a b / b-a")) (tCons (tC (.str "a b / a-a")) tNil))))))))))))) (gName 6))
    (tSeq (tAsg (tOp (rAddU K) (tVar 6) (tLst (tCons (tC (.str "b a / -")) (tCons (tC (.str "a a / -")) (tCons (tC (.str "a b / a-b a-b")) (tCons (tC (.str "a b c / a-c a-b")) (tCons (tC (.str "a b / a-c")) (tCons (tC (.str "a / / -")) (tCons (tC (.str "a -")) (tCons (tC (.str "- -")) tNil)))))))))) (gName 6))
    (tSeq (tAsg (tOp (rAddU K) (tVar 6) (tLst (tCons (tC (.str "abcdefg / -")) tNil))) (gName 6))
    (tSeq (tAsg (tOp (rAddU K) (tVar 6) (tLst (tCons (tC (.str "a b / a-b -")) (tCons (tC (.str "a  b / -")) (tCons (tC (.str "A / -")) (tCons (tC (.str "a b / a-b-a")) (tCons (tC (.str " a / -")) (tCons (tC (.str "a / -/")) (tCons (tC (.str "a b")) (tCons (tC (.str "a1")) (tCons (tC (.str "a/b")) (tCons (tC (.str "- / -")) tNil)))))))))))) (gName 6))
    (tSeq (tFor (iRng1 (tCons (tC (.int 20)) tNil)) (gName 7) (tSeq (tAsg (tCall (sp_Lchanged K) [] E0 (tCons (tVar 0) (tCons (tOp (rIxU K) (tVar 4) (tOp (rI (fun _ j => 0 < j) fun i j => .int (i % j)) (tVar 7) (tC (.int 2)))) tNil))) (gName 8))
    (tDrop (tBM K "list" (rAppend) (tVar 6) (tCons (tIf (tTest (tOp (rEqP K) (tCall (sp_Ltake K) [] E0 (tCons (tVar 0) (tCons (tC (.int 3)) tNil))) (tC (.int 0)))) (tCall (sp_Lchanged K) [] E0 (tCons (tVar 0) (tCons (tVar 8) tNil))) (tVar 8)) tNil)))))
    (tSeq (tFor (iSeq K (tOp (rAddU K) (tVar 6) (tVar 4))) (gName 8) (tSeq (tAsg (tLst (tCons (tCall (sp_Lpanel_of K) [] E0 (tCons (tVar 8) tNil)) (tCons (tCall (sp_Lnames_of K) [] E0 (tCons (tVar 8) tNil)) tNil))) (gName 9))
    (tIfS (tNot (tB (tCall (sp_Lsame K) [] E0 (tCons (tLst (tCons (tCall (sp_Lread K) [] E0 (tCons (tVar 8) (tCons (tC (.int 0)) tNil))) (tCons (tCall (sp_Lread K) [] E0 (tCons (tVar 8) (tCons (tC (.int 1)) tNil))) tNil))) (tCons (tVar 9) tNil))))) (tRet (tC (.bl false))) tNext)))
    (tRet (tC (.bl true))))))))))))))))
def fixA : List Str := ["", " ", "-", "/", "a", "a /", "a / -", "a / ", "a / - -", "a b / a-b", "a b / b-a", "a b / a-a"]
def fixB : List Str := ["b a / -", "a a / -", "a b / a-b a-b", "a b c / a-c a-b", "a b / a-c", "a / / -", "a -", "- -"]
def fixC : List Str := ["abcdefg / -"]
def fixD : List Str := ["a b / a-b -", "a  b / -", "A / -", "a b / a-b-a", " a / -", "a / -/", "a b", "a1", "a/b", "- / -"]
theorem fix_len : ∀ x ∈ fixA ++ fixB ++ fixC ++ fixD, x.length ≤ 100 := by decide +kernel
theorem r_Lright (vs : List V) (H : Hp) (Q : VK) (E : XK) (h : sp_Lright K vs H Q E) : t_Lright K (Ends.ret Q) (start N_Lright vs) H := by
  obtain ⟨b, B, s, q⟩ := RightP.st h N_Lright
  replace s : St K [b] B H [boxC b 0] [ca b, none, none, none, none, none, none, none, none, none] (start N_Lright vs) B H := s
  refine s.unpB (n := 40000) (m := 10000) (e_callB2 (i := 0) (b := b) (s.sl.rf 0 rfl) (e_int (i := 1)) (e_int (i := 6)) ⟨by decide, by decide, by decide⟩) (e_callB1 (i := 0) (b := b) (x := (9 : Int)) (R := fun n (ys : List Str) => Asc ys ∧ (ys.length : Int) = n ∧ ∀ y ∈ ys, y ∈ poolN) (s.sl.rf 0 rfl) e_int ⟨by decide, by decide⟩) (by decide) (by decide) fun pt pool hpt hpool σ1 B1 H1 s1 => ?_
  obtain ⟨p, rfl, g⟩ := hpt
  obtain ⟨_, hpl, hpm⟩ := hpool
  replace s1 : St K [b] B H [boxC b 50000] [ca b, ce p.t, ce pool, none, none, none, none, none, none, none] σ1 B1 H1 := s1
  have gl := g.len
  have el := g.el
  have gp : PgP p := ⟨g.ne, fun x hx => pool_name x (g.nm x hx), fun e he => (g.ex e he).1, by omega, by omega⟩
  have hp1 : ∀ {σ : L2.St} {B' : Hp} {Γ : List (Option Cell)}, Slots K B' σ Γ → cg Γ 1 = ce p.t → Pe K (tVar 1) σ B' p := fun sl h => (sl.v (x := p.t) 1 h).imp pan_t
  refine s1.setB (n := 1 + 10) (i := 3) (b_rngLc87 (R2 := fun ys : List Str => ys.length ≤ 9 ∧ ∀ y ∈ ys, y ∈ pool) (x_take (b := b) (i := 0) rfl s1.sl (e_int (i := 10)) (by decide) (by decide)) (fun k hk B7 b7 => ?_) (by decide)) (by decide) fun some_ hso σ2 B2 H2 s2 => ?_
  · refine (((s1.sl.mono b7).lcB (j := 7) (n := 1) (S := fun x : Str => x ∈ pool) (it_rng1 (n := k) e_int (by omega) (by omega)) (by rw [rangeI_len]; omega) (by decide) fun x _ σ8 B8 b8 s8 => e_of (b := b) (i := 0) (xs := pool) (s8.rf 0 rfl) ((s8.v (x := pool) 2 rfl).imp sq_list) (fun z => by rw [z] at hpl; simp at hpl) (by omega)).le (by rw [rangeI_len]; omega)).imp fun ys hy => ⟨by have := hy.1; rw [rangeI_len] at this; omega, hy.2⟩
  obtain ⟨hsl, hsm⟩ := hso
  have hsn : ∀ x ∈ some_, nameS x = true := fun x hx => pool_name x (hpm x (hsm x hx))
  have hss := sumL_le (xs := some_) fun x hx => (name_len (hsn x hx)).2
  replace s2 : St K [b] B H [boxC b 50011] [ca b, ce p.t, ce pool, ce some_, none, none, none, none, none, none] σ2 B2 H2 := s2
  have lP := pageP_len gp.nm gp.ex
  have lN := pageN_len (xs := some_) (n := 6) (by decide) fun x hx => (name_len (hsn x hx)).2
  obtain ⟨PP, hPP⟩ : ∃ PP, PP = pageP p := ⟨_, rfl⟩
  obtain ⟨PN, hPN⟩ : ∃ PN, PN = pageN some_ := ⟨_, rfl⟩
  rw [← hPP] at lP
  rw [← hPN] at lN
  refine s2.set (i := 4) (x := [PP, PN]) (e_lstW (.cons ((e_call1 (x := p) (f := pageP) (hp1 s2.sl rfl) gp).is hPP.symm) (.cons (e_if (b := !decide (some_ = [])) (t_test (e_ne (s2.v (x := some_) 3 rfl) e_lst0)) (fun h => ?_) fun h => ?_) .nil)) (by show 2 ≤ 1000000; decide)) fun σ3 B3 H3 s3 => ?_
  · rw [Bool.not_eq_true', decide_eq_false_iff_not] at h
    exact (e_join e_str ((s2.v (x := some_) 3 rfl).imp sq_list) (by
      rw [len_one]
      show sumL some_ + some_.length * 1 ≤ _
      omega)).is (by rw [hPN]; unfold pageN; rw [if_pos h])
  · rw [Bool.not_eq_false', decide_eq_true_eq] at h
    exact e_str.is (by rw [hPN, h]; rfl)
  replace s3 : St K [b] B H [boxC b 50011] [ca b, ce p.t, ce pool, ce some_, ce [PP, PN], none, none, none, none, none] σ3 B3 H3 := s3
  have hlists : Pe K (tCall (sp_Llists K) [] E0 (tCons (tVar 1) tNil)) σ3 B3 p := (e_call1 (x := DD.mk (Datum.toD p.t)) (pre := fun a : DD => DOk 5 a.d) (f := fun a => DD.mk (listyN 5 a.d)) (e_dd (s3.v (x := p.t) 1 rfl)) (dkP (by omega) (by omega))).imp ddP
  have hnp : sumL some_ + some_.length ≤ 1000000 := by omega
  refine s3.set (i := 5) (x := [PP, PP, PN, PN]) (e_lstW (.cons ((e_call1 (x := p) (f := pageP) (hp1 s3.sl rfl) gp).is hPP.symm) (.cons ((e_kw1 (x := p) (f := pageP) hlists gp).is hPP.symm) (.cons ((e_call1 (x := Sq.mk some_) (f := fun xs : Sq Str => pageN xs.items) ((s3.v (x := some_) 3 rfl).imp sq_list) hnp).is hPN.symm) (.cons ((e_kw1 (x := Sq.mk some_) (f := fun xs : Sq Str => pageN xs.items) ((e_tupL (s3.v (x := some_) 3 rfl)).imp sq_tup) hnp).is hPN.symm) .nil)))) (by show 4 ≤ 1000000; decide)) fun σ4 B4 H4 s4 => ?_
  replace s4 : St K [b] B H [boxC b 50011] [ca b, ce p.t, ce pool, ce some_, ce [PP, PN], ce [PP, PP, PN, PN], none, none, none, none] σ4 B4 H4 := s4
  have hsame : ∀ {σ : L2.St} {B' : Hp} {ta tb : TE} (d : PyData), DOk 5 d → Pe K ta σ B' (DD.mk d) → Pe K tb σ B' (DD.mk d) → Pe K (tCall (sp_Lsame K) [] E0 (tCons ta (tCons tb tNil))) σ B' true := fun d hd h1 h2 => e_call2 (x := DD.mk d) (y := DD.mk d) (pre := fun (a b : DD) => a = b ∧ DOk 5 a.d) (f := fun _ _ => true) h1 h2 ⟨rfl, hd⟩
  have pg0 : ∀ {σ : L2.St} {B' : Hp} {Γ : List (Option Cell)}, Slots K B' σ Γ → cg Γ 4 = ce [PP, PN] → Pe K (tOp (rIxU K) (tVar 4) (tC (.int 0))) σ B' PP := fun sl h => e_ixL (sl.v (x := [PP, PN]) 4 h) e_int (atI_nat (by decide) rfl)
  have pg1 : ∀ {σ : L2.St} {B' : Hp} {Γ : List (Option Cell)}, Slots K B' σ Γ → cg Γ 4 = ce [PP, PN] → Pe K (tOp (rIxU K) (tVar 4) (tC (.int 1))) σ B' PN := fun sl h => e_ixL (sl.v (x := [PP, PN]) 4 h) e_int (atI_nat (by decide) rfl)
  refine s4.no ((t_not (t_B (hsame (Datum.toD [PP, PP, PN, PN]) (dkSs (n := 4) (by show 4 ≤ 1000000; decide)) (e_dd (s4.v (x := [PP, PP, PN, PN]) 5 rfl)) (e_dd (e_lstW (.cons (pg0 s4.sl rfl) (.cons (pg0 s4.sl rfl) (.cons (pg1 s4.sl rfl) (.cons (pg1 s4.sl rfl) .nil)))) (by show 4 ≤ 1000000; decide)))))).is rfl) fun B5 H5 s5 => ?_
  obtain ⟨hb1, hb2⟩ := panel_back g.ne g.asc gp.nm g.ex g.so g.xn
  have hb3 := names_back hsn
  have hsp : Txt.split PN " " = wordsN some_ := by rw [hPN]; exact split_pageN fun w hw => name_not (hsn w hw) (by decide)
  have hnI : NmI PN := ⟨by omega, fun hne => by
    rw [hsp] at hne ⊢
    unfold wordsN at hne ⊢
    split
    · rename_i h
      exact absurd (if_pos h) hne
    · exact firstBad_none hsn⟩
  have hwI : wordsI PN = some_ := by
    unfold wordsI
    rw [hsp]
    unfold wordsN
    by_cases h : some_ = []
    · rw [if_pos h, if_pos rfl, h]
    · rw [if_neg h, if_neg fun z => by
        have := hsn "-" (by rw [z]; exact List.mem_singleton.mpr rfl)
        exact name_not this (by decide : 45 < 97) (by rw [tl_hy]; simp)]
  have hpI : PnI PP := ⟨by omega, _, hPP ▸ hb1⟩
  refine s5.no ((t_not (t_B (hsame (.list [Datum.toD p.t, Datum.toD some_]) (dkL2 (dk4P87 (by omega) (by omega)) (dkSs (n := 3) (by omega))) (e_lst2D ((e_kw1 (x := PP) (pre := PnI) (f := fun x => DD.mk (outP (Txt.split x " "))) (pg0 s5.sl rfl) hpI).is (by rw [hPP, hb2])) (e_dd ((eF_kw1 (x := PN) (pre := NmI) (g := wordsI) (pg1 s5.sl rfl) hnI).pe.is hwI))) (e_lst2D (e_dd (s5.v (x := p.t) 1 rfl)) (e_dd (s5.v (x := some_) 3 rfl)))))).is rfl) fun B6 H6 s6 => ?_
  refine s6.moreF87 (eF_call1 (x := PN) (pre := NmI) (g := wordsI) (pg1 s6.sl rfl) hnI) (by rw [hwI]; omega) fun B7 H7 s7 => ?_
  refine s7.set (i := 6) (x := fixA) (e_lstW (.cons e_str (.cons e_str (.cons e_str (.cons e_str (.cons e_str (.cons e_str (.cons e_str (.cons e_str (.cons e_str (.cons e_str (.cons e_str (.cons e_str .nil)))))))))))) (by decide)) fun σ8 B8 H8 s8 => ?_
  refine s8.set (i := 6) (x := fixA ++ fixB) (e_addL (s8.v (x := fixA) 6 rfl) (e_lstW (xs := fixB) (.cons e_str (.cons e_str (.cons e_str (.cons e_str (.cons e_str (.cons e_str (.cons e_str (.cons e_str .nil)))))))) (by decide)) (by decide)) fun σ9 B9 H9 s9 => ?_
  refine s9.set (i := 6) (x := fixA ++ fixB ++ fixC) (e_addL (s9.v (x := fixA ++ fixB) 6 rfl) (e_lstW (xs := fixC) (.cons e_str .nil) (by decide)) (by decide)) fun σ10 B10 H10 s10 => ?_
  refine s10.setOwn87 (i := 6) (xs := fixA ++ fixB ++ fixC ++ fixD) (f_addL87 (s10.v (x := fixA ++ fixB ++ fixC) 6 rfl) (e_lstW (xs := fixD) (.cons e_str (.cons e_str (.cons e_str (.cons e_str (.cons e_str (.cons e_str (.cons e_str (.cons e_str (.cons e_str (.cons e_str .nil)))))))))) (by decide)) (by decide)) fun l σ11 B11 H11 s11 => ?_
  replace s11 : St K [b] B H [boxC b 50011, lstC K l (fixA ++ fixB ++ fixC ++ fixD)] [ca b, ce p.t, ce pool, ce some_, ce [PP, PN], ce [PP, PP, PN, PN], ca l, none, none, none] σ11 B11 H11 := s11
  obtain ⟨FX, hFX⟩ : ∃ FX, FX = fixA ++ fixB ++ fixC ++ fixD := ⟨_, rfl⟩
  have hFl : FX.length = 31 := by rw [hFX]; decide
  have hFs : ∀ x ∈ FX, x.length ≤ 100000 := fun x hx => Nat.le_trans (fix_len x (hFX ▸ hx)) (by decide)
  rw [← hFX] at s11
  refine s11.qforG (δ := List Str) (it_rng1 (n := 20) (e_int (i := 20)) (by decide) (by decide)) (fun done d => [boxC b (50011 + 20 * done.length), lstC K l (FX ++ d)]) (fun _ _ => [ca b, ce p.t, ce pool, ce some_, ce [PP, PN], ce [PP, PP, PN, PN], ca l, none, none, none]) (fun done d => d.length = done.length ∧ ∀ x ∈ d, x.length ≤ 100000) ⟨[], ⟨rfl, fun x hx => absurd hx (by simp)⟩, fun _ _ s12 => by rw [List.append_nil]; exact s12.le (by simp)⟩ (fun done t rest d ex hP v σ' B' H' N hN s12 hv => ?_) fun d hP σ12 B12 H12 s12 => ?_
  · obtain ⟨hdl, hdm⟩ := hP
    have hdn := congrArg List.length ex
    rw [List.length_append, List.length_cons, rangeI_len] at hdn
    have hd20 : done.length ≤ 20 := by omega
    have ht : 0 ≤ t := by
      have hm : t ∈ rangeI 0 (20 : Int).toNat := by rw [ex]; simp
      obtain ⟨z, _, rfl⟩ := List.mem_map.mp hm
      omega
    have s13 : St K [b, l] B' H' [boxC b (50011 + 20 * done.length), lstC K l (FX ++ d)] [ca b, ce p.t, ce pool, ce some_, ce [PP, PN], ce [PP, PP, PN, PN], ca l, ce t, none, none] (σ'.set 7 (some v)) B' H' := s12.here.put 7 hv
    obtain ⟨pg, hpg, hpgl⟩ : ∃ pg, atI [PP, PN] (t % 2) = some pg ∧ pg.length ≤ 5000 := by
      rcases (show t % 2 = 0 ∨ t % 2 = 1 by omega) with e | e
      · exact ⟨PP, by rw [e]; rfl, by omega⟩
      · exact ⟨PN, by rw [e]; rfl, by omega⟩
    refine s13.setB (i := 8) (n := 5) (e_callB1 (i := 0) (b := b) (x := pg) (pre := fun page : Str => page.length ≤ 100000) (R := fun page (r : Str) => r.length ≤ 3 * page.length + 10) (s13.sl.rf 0 rfl) (e_ixL (s13.v (x := [PP, PN]) 4 rfl) (e_modI (s13.v (x := t) 7 rfl) (e_int (i := 2)) (by decide)) hpg) (by omega)) (by omega) fun r hr σ14 B14 H14 s14 => ?_
    replace s14 : St K [b, l] B' H' [boxC b (50011 + 20 * done.length + 5), lstC K l (FX ++ d)] [ca b, ce p.t, ce pool, ce some_, ce [PP, PN], ce [PP, PP, PN, PN], ca l, ce t, ce r, none] σ14 B14 H14 := s14
    have hrl : r.length ≤ 15010 := by omega
    refine s14.appB87 (n := 1 + 5) (k := 0) (i := 6) (l := l) (xs := FX ++ d) (R := fun z : Str => z.length ≤ 100000) rfl rfl (b_ifC87 (ptb_test (b_opL (f := fun z : Int => decide (z = 0)) (x_take (b := b) (i := 0) rfl s14.sl (e_int (i := 3)) (by decide) (by decide)) (e_int (i := 0)) fun z _ => rd_eq)) (fun B16 b16 => (e_callB1 (i := 0) (b := b) (x := r) (pre := fun page : Str => page.length ≤ 100000) (R := fun page (r : Str) => r.length ≤ 3 * page.length + 10) ((s14.sl.mono b16).rf 0 rfl) ((s14.sl.mono b16).v (x := r) 8 rfl) (by omega)).imp fun z hz => by omega) (fun B16 b16 => (((s14.sl.mono b16).v (x := r) 8 rfl).pb.imp fun z hz => by rw [hz]; omega).le (by decide)) (by decide)) (by rw [List.length_append]; omega) (by omega) fun z hz B15 H15 s15 => ?_
    refine hN (d ++ [z]) (B3 := B15) ⟨by rw [List.length_append, List.length_append, hdl]; rfl, fun x hx => ?_⟩ ?_
    · rcases List.mem_append.mp hx with hx | hx
      · exact hdm x hx
      · rw [List.mem_singleton.mp hx]; exact hz
    · rw [← List.append_assoc]
      exact (s15.fg [7, 8]).le (by rw [List.length_append, List.length_singleton]; omega)
  · obtain ⟨hdl, hdm⟩ := hP
    rw [rangeI_len] at hdl
    obtain ⟨B13, b13, s13⟩ := s12.frz (i := 6) (k := 1) rfl rfl (by
      intro z
      have : b = l := (List.mem_singleton.mp z).symm
      have nd := s12.nd
      have nd' : [b, l].Nodup := nd
      simp [this] at nd')
    replace s13 : St K [b] B H [boxC b (50011 + 20 * ((rangeI 0 (20 : Int).toNat).length : Int))] [ca b, ce p.t, ce pool, ce some_, ce [PP, PN], ce [PP, PP, PN, PN], ce (FX ++ d), none, none, none] σ12 B13 H12 := s13
    have hall : ∀ x ∈ (FX ++ d) ++ [PP, PN], x.length ≤ 100000 := fun x hx => by
      rcases List.mem_append.mp hx with hx | hx
      · rcases List.mem_append.mp hx with hx | hx
        · exact hFs x hx
        · exact hdm x hx
      · simp only [List.mem_cons, List.not_mem_nil, or_false] at hx
        rcases hx with e | e
        · rw [e]; omega
        · rw [e]; omega
    refine s13.qforG (δ := Unit) (it_seqL (e_addL (s13.v (x := FX ++ d) 6 rfl) (s13.v (x := [PP, PN]) 4 rfl) (by rw [List.length_append]; show _ + 2 ≤ _; rw [hdl]; omega))) (fun _ _ => [boxC b (50011 + 20 * ((rangeI 0 (20 : Int).toNat).length : Int))]) (fun _ _ => [ca b, ce p.t, ce pool, ce some_, ce [PP, PN], ce [PP, PP, PN, PN], ce (FX ++ d), none, none, none]) (fun _ _ => True) ⟨(), trivial, fun _ _ s14 => s14⟩ (fun done pg rest _ ex _ v σ' B' H' N hN s14 hv => ?_) fun _ _ σ14 B14 H14 s14 => ?_
    · have hpg : pg.length ≤ 100000 := hall pg (by rw [ex]; simp)
      obtain ⟨w1, w2, w3⟩ := split_sum pg sp_ne k_sp
      have s15 : St K [b] B' H' [boxC b (50011 + 20 * ((rangeI 0 (20 : Int).toNat).length : Int))] [ca b, ce p.t, ce pool, ce some_, ce [PP, PN], ce [PP, PP, PN, PN], ce (FX ++ d), none, ce pg, none] (σ'.set 8 (some v)) B' H' := s14.here.put 8 hv
      obtain ⟨X, hX⟩ : ∃ X, X = outP (Txt.split pg " ") := ⟨_, rfl⟩
      obtain ⟨Y, hY⟩ : ∃ Y, Y = outN (Txt.split pg " ") := ⟨_, rfl⟩
      have dX : DOk 4 X := hX ▸ dk_outP (by omega)
      have dY : DOk 4 Y := hY ▸ dk_outN (by omega)
      refine s15.set (i := 9) (x := DD.mk (.list [X, Y])) (e_lst2D ((e_call1 (x := pg) (pre := fun x : Str => x.length ≤ 100000) (f := fun x => DD.mk (outP (Txt.split x " "))) (s15.v (x := pg) 8 rfl) hpg).is (by rw [hX])) ((e_call1 (x := pg) (pre := fun x : Str => x.length ≤ 100000) (f := fun x => DD.mk (outN (Txt.split x " "))) (s15.v (x := pg) 8 rfl) hpg).is (by rw [hY]))) fun σ16 B16 H16 s16 => ?_
      replace s16 : St K [b] B' H' [boxC b (50011 + 20 * ((rangeI 0 (20 : Int).toNat).length : Int))] [ca b, ce p.t, ce pool, ce some_, ce [PP, PN], ce [PP, PP, PN, PN], ce (FX ++ d), none, ce pg, ce (DD.mk (.list [X, Y]))] σ16 B16 H16 := s16
      refine s16.noL ((t_not (t_B (hsame (.list [X, Y]) (dkL2 dX dY) (e_lst2D ((e_call2 (x := pg) (y := (0 : Int)) (pre := fun (x : Str) (w : Int) => x.length ≤ 100000) (f := fun x w => DD.mk (outR x w)) (s16.v (x := pg) 8 rfl) e_int hpg).is (by rw [hX]; rfl)) ((e_call2 (x := pg) (y := (1 : Int)) (pre := fun (x : Str) (w : Int) => x.length ≤ 100000) (f := fun x w => DD.mk (outR x w)) (s16.v (x := pg) 8 rfl) e_int hpg).is (by rw [hY]; rfl))) (s16.v (x := DD.mk (.list [X, Y])) 9 rfl)))).is rfl) fun B17 H17 s17 => ?_
      exact hN () (B3 := B17) trivial (s17.fg [8, 9])
    · exact St.ret (D := Ends.ret Q) (x := true) s14 e_bl fun v B15 H15 s15 hv => by
        cases (show v = .bl true from at_bl.mp hv)
        exact q _ _ _ _ _ s15
end
end Ob
set_option Elab.async false
set_option linter.all false
set_option maxRecDepth 100000
set_option maxHeartbeats 0
namespace Ob
open PySem PySem.Spec PyProof.Rows L2
open Evl (Ex)
def topS (i : Nat) : Stmt := PySem.Challenge.pw_offbyon_k87_panels_and_names_as_texts.main.body.getD i (.Pass ⟨0, 0, 0, 0⟩)
abbrev s_is_name : Stmt := topS 6
abbrev s_names_text : Stmt := topS 11
abbrev s_names_inXF : Stmt := topS 12
abbrev s_panel_text : Stmt := topS 13
abbrev s_Reading_init : Stmt := (C8.clsBody (topS 14)).getD 0 (.Pass ⟨0, 0, 0, 0⟩)
abbrev s_Reading_takes_switch : Stmt := (C8.clsBody (topS 14)).getD 1 (.Pass ⟨0, 0, 0, 0⟩)
abbrev s_Reading_takes_pair : Stmt := (C8.clsBody (topS 14)).getD 2 (.Pass ⟨0, 0, 0, 0⟩)
abbrev s_Reading_takes : Stmt := (C8.clsBody (topS 14)).getD 3 (.Pass ⟨0, 0, 0, 0⟩)
abbrev s_Reading_is_whole : Stmt := (C8.clsBody (topS 14)).getD 4 (.Pass ⟨0, 0, 0, 0⟩)
abbrev s_panel_inX : Stmt := topS 15
abbrev s_Lcell_at : Stmt := topS 17
abbrev s_Lbox : Stmt := topS 18
abbrev s_Ltake : Stmt := topS 19
abbrev s_Lof : Stmt := topS 20
abbrev s_Lsame : Stmt := topS 21
abbrev s_Llists : Stmt := topS 22
abbrev s_Lstrewn : Stmt := topS 23
abbrev s_Lnames : Stmt := topS 24
abbrev s_Ltied : Stmt := topS 25
abbrev s_Lwired : Stmt := topS 26
abbrev s_Lpage : Stmt := topS 27
abbrev s_Lis_name : Stmt := topS 28
abbrev s_Lnames_of : Stmt := topS 29
abbrev s_Lpanel_of : Stmt := topS 30
abbrev s_Lread : Stmt := topS 31
abbrev s_Lchanged : Stmt := topS 32
abbrev s_Lright : Stmt := topS 33
abbrev s_law : Stmt := topS 34
theorem sc_is_name : FnScope N_is_name ["thing"] (defScope s_is_name) := ⟨rfl, rfl, rfl, by decide +kernel, rfl, by decide +kernel, by decide +kernel⟩
theorem sc_names_text : FnScope N_names_text ["names"] (defScope s_names_text) := ⟨rfl, rfl, rfl, by decide +kernel, rfl, by decide +kernel, by decide +kernel⟩
theorem sc_names_inXF : FnScope N_names_inXF ["text"] (defScope s_names_inXF) := ⟨rfl, rfl, rfl, by decide +kernel, rfl, by decide +kernel, by decide +kernel⟩
theorem sc_panel_text : FnScope N_panel_text ["panel"] (defScope s_panel_text) := ⟨rfl, rfl, rfl, by decide +kernel, rfl, by decide +kernel, by decide +kernel⟩
theorem sc_Reading_init : FnScope N_Reading_init ["self"] (defScope s_Reading_init) := ⟨rfl, rfl, rfl, by decide +kernel, rfl, by decide +kernel, by decide +kernel⟩
theorem sc_Reading_takes_switch : FnScope N_Reading_takes_switch ["self", "word"] (defScope s_Reading_takes_switch) := ⟨rfl, rfl, rfl, by decide +kernel, rfl, by decide +kernel, by decide +kernel⟩
theorem sc_Reading_takes_pair : FnScope N_Reading_takes_pair ["self", "word"] (defScope s_Reading_takes_pair) := ⟨rfl, rfl, rfl, by decide +kernel, rfl, by decide +kernel, by decide +kernel⟩
theorem sc_Reading_takes : FnScope N_Reading_takes ["self", "word"] (defScope s_Reading_takes) := ⟨rfl, rfl, rfl, by decide +kernel, rfl, by decide +kernel, by decide +kernel⟩
theorem sc_Reading_is_whole : FnScope N_Reading_is_whole ["self"] (defScope s_Reading_is_whole) := ⟨rfl, rfl, rfl, by decide +kernel, rfl, by decide +kernel, by decide +kernel⟩
theorem sc_panel_inX : FnScope N_panel_inX ["text"] (defScope s_panel_inX) := ⟨rfl, rfl, rfl, by decide +kernel, rfl, by decide +kernel, by decide +kernel⟩
theorem sc_Lcell_at : FnScope N_Lcell_at ["_law_script", "_law_k"] (defScope s_Lcell_at) := ⟨rfl, rfl, rfl, by decide +kernel, rfl, by decide +kernel, by decide +kernel⟩
theorem sc_Lbox : FnScope N_Lbox ["_law_script", "_law_k"] (defScope s_Lbox) := ⟨rfl, rfl, rfl, by decide +kernel, rfl, by decide +kernel, by decide +kernel⟩
theorem sc_Ltake : FnScope N_Ltake ["_law_box_here", "_law_size"] (defScope s_Ltake) := ⟨rfl, rfl, rfl, by decide +kernel, rfl, by decide +kernel, by decide +kernel⟩
theorem sc_Lof : FnScope N_Lof ["_law_box_here", "_law_some"] (defScope s_Lof) := ⟨rfl, rfl, rfl, by decide +kernel, rfl, by decide +kernel, by decide +kernel⟩
theorem sc_Lsame : FnScope N_Lsame ["_law_told", "_law_due"] (defScope s_Lsame) := ⟨rfl, rfl, rfl, by decide +kernel, rfl, by decide +kernel, by decide +kernel⟩
theorem sc_Llists : FnScope N_Llists ["_law_matter"] (defScope s_Llists) := ⟨rfl, rfl, rfl, by decide +kernel, rfl, by decide +kernel, by decide +kernel⟩
theorem sc_Lstrewn : FnScope N_Lstrewn ["_law_box_here", "_law_some"] (defScope s_Lstrewn) := ⟨rfl, rfl, rfl, by decide +kernel, rfl, by decide +kernel, by decide +kernel⟩
theorem sc_Lnames : FnScope N_Lnames ["_law_box_here", "_law_size"] (defScope s_Lnames) := ⟨rfl, rfl, rfl, by decide +kernel, rfl, by decide +kernel, by decide +kernel⟩
theorem sc_Ltied : FnScope N_Ltied ["_law_box_here", "_law_called"] (defScope s_Ltied) := ⟨rfl, rfl, rfl, by decide +kernel, rfl, by decide +kernel, by decide +kernel⟩
theorem sc_Lwired : FnScope N_Lwired ["_law_box_here", "_law_least", "_law_most"] (defScope s_Lwired) := ⟨rfl, rfl, rfl, by decide +kernel, rfl, by decide +kernel, by decide +kernel⟩
theorem sc_Lpage : FnScope N_Lpage ["_law_wired_here"] (defScope s_Lpage) := ⟨rfl, rfl, rfl, by decide +kernel, rfl, by decide +kernel, by decide +kernel⟩
theorem sc_Lis_name : FnScope N_Lis_name ["_law_word"] (defScope s_Lis_name) := ⟨rfl, rfl, rfl, by decide +kernel, rfl, by decide +kernel, by decide +kernel⟩
theorem sc_Lnames_of : FnScope N_Lnames_of ["_law_page_here"] (defScope s_Lnames_of) := ⟨rfl, rfl, rfl, by decide +kernel, rfl, by decide +kernel, by decide +kernel⟩
theorem sc_Lpanel_of : FnScope N_Lpanel_of ["_law_page_here"] (defScope s_Lpanel_of) := ⟨rfl, rfl, rfl, by decide +kernel, rfl, by decide +kernel, by decide +kernel⟩
theorem sc_Lread : FnScope N_Lread ["_law_page_here", "_law_way"] (defScope s_Lread) := ⟨rfl, rfl, rfl, by decide +kernel, rfl, by decide +kernel, by decide +kernel⟩
theorem sc_Lchanged : FnScope N_Lchanged ["_law_box_here", "_law_page_here"] (defScope s_Lchanged) := ⟨rfl, rfl, rfl, by decide +kernel, rfl, by decide +kernel, by decide +kernel⟩
theorem sc_Lright : FnScope N_Lright ["_law_box_here"] (defScope s_Lright) := ⟨rfl, rfl, rfl, by decide +kernel, rfl, by decide +kernel, by decide +kernel⟩
theorem sc_law : FnScope N_law ["_law_script"] (defScope s_law) := ⟨rfl, rfl, rfl, by decide +kernel, rfl, by decide +kernel, by decide +kernel⟩
abbrev s_init_BadText : Stmt := (C8.clsBody (topS 1)).getD 0 (.Pass ⟨0, 0, 0, 0⟩)
def N_init_BadText : List Str := ["self", "at"]
theorem sc_init_BadText : FnScope N_init_BadText N_init_BadText (defScope s_init_BadText) := ⟨rfl, rfl, rfl, by decide +kernel, rfl, by decide +kernel, by decide +kernel⟩
abbrev s_init_BadRow : Stmt := (C8.clsBody (topS 2)).getD 0 (.Pass ⟨0, 0, 0, 0⟩)
structure Tx (K : PySem.W.Frag) (mg : Str → Option Value) where
  cw_Reading : ClsF K ["switches", "exclusions", "is_parted", "is_closed"]
  gc_Reading : mg "Reading" = some (.ref cw_Reading.C)
  a_is_name : Addr
  fd_is_name : FuncData
  F_is_name : FunD K "is_name" "is_name" (defArgs s_is_name) (defBody s_is_name) (defScope s_is_name) [] [] a_is_name fd_is_name
  g_is_name : mg "is_name" = some (.ref a_is_name)
  b_is_name : Binds K fd_is_name ["thing"] []
  a_names_text : Addr
  fd_names_text : FuncData
  F_names_text : FunD K "names_text" "names_text" (defArgs s_names_text) (defBody s_names_text) (defScope s_names_text) [] [] a_names_text fd_names_text
  g_names_text : mg "names_text" = some (.ref a_names_text)
  b_names_text : Binds K fd_names_text ["names"] []
  kw_names_text_0 : KBn K fd_names_text ["names"] 0 ["names"] (fun _ ws => permL [0] ws) (fun _ zs => permL [0] zs)
  a_names_inXF : Addr
  fd_names_inXF : FuncData
  F_names_inXF : FunD K "names_in" "names_in" (defArgs s_names_inXF) (defBody s_names_inXF) (defScope s_names_inXF) [] [] a_names_inXF fd_names_inXF
  g_names_inXF : mg "names_in" = some (.ref a_names_inXF)
  b_names_inXF : Binds K fd_names_inXF ["text"] []
  kw_names_inXF_0 : KBn K fd_names_inXF ["text"] 0 ["text"] (fun _ ws => permL [0] ws) (fun _ zs => permL [0] zs)
  a_panel_text : Addr
  fd_panel_text : FuncData
  F_panel_text : FunD K "panel_text" "panel_text" (defArgs s_panel_text) (defBody s_panel_text) (defScope s_panel_text) [] [] a_panel_text fd_panel_text
  g_panel_text : mg "panel_text" = some (.ref a_panel_text)
  b_panel_text : Binds K fd_panel_text ["panel"] []
  kw_panel_text_0 : KBn K fd_panel_text ["panel"] 0 ["panel"] (fun _ ws => permL [0] ws) (fun _ zs => permL [0] zs)
  a_Reading_init : Addr
  fd_Reading_init : FuncData
  F_Reading_init : FunD K "__init__" "Reading.__init__" (defArgs s_Reading_init) (defBody s_Reading_init) (defScope s_Reading_init) [] [] a_Reading_init fd_Reading_init
  mk_Reading : Mk K cw_Reading.C a_Reading_init
  b_Reading_init : Binds K fd_Reading_init ["self"] []
  a_Reading_takes_switch : Addr
  fd_Reading_takes_switch : FuncData
  F_Reading_takes_switch : FunD K "takes_switch" "Reading.takes_switch" (defArgs s_Reading_takes_switch) (defBody s_Reading_takes_switch) (defScope s_Reading_takes_switch) [] [] a_Reading_takes_switch fd_Reading_takes_switch
  mt_Reading_takes_switch : Meth K cw_Reading.C "takes_switch" a_Reading_takes_switch
  b_Reading_takes_switch : Binds K fd_Reading_takes_switch ["self", "word"] []
  a_Reading_takes_pair : Addr
  fd_Reading_takes_pair : FuncData
  F_Reading_takes_pair : FunD K "takes_pair" "Reading.takes_pair" (defArgs s_Reading_takes_pair) (defBody s_Reading_takes_pair) (defScope s_Reading_takes_pair) [] [] a_Reading_takes_pair fd_Reading_takes_pair
  mt_Reading_takes_pair : Meth K cw_Reading.C "takes_pair" a_Reading_takes_pair
  b_Reading_takes_pair : Binds K fd_Reading_takes_pair ["self", "word"] []
  a_Reading_takes : Addr
  fd_Reading_takes : FuncData
  F_Reading_takes : FunD K "takes" "Reading.takes" (defArgs s_Reading_takes) (defBody s_Reading_takes) (defScope s_Reading_takes) [] [] a_Reading_takes fd_Reading_takes
  mt_Reading_takes : Meth K cw_Reading.C "takes" a_Reading_takes
  b_Reading_takes : Binds K fd_Reading_takes ["self", "word"] []
  a_Reading_is_whole : Addr
  fd_Reading_is_whole : FuncData
  F_Reading_is_whole : FunD K "is_whole" "Reading.is_whole" (defArgs s_Reading_is_whole) (defBody s_Reading_is_whole) (defScope s_Reading_is_whole) [] [] a_Reading_is_whole fd_Reading_is_whole
  mt_Reading_is_whole : Meth K cw_Reading.C "is_whole" a_Reading_is_whole
  b_Reading_is_whole : Binds K fd_Reading_is_whole ["self"] []
  a_panel_inX : Addr
  fd_panel_inX : FuncData
  F_panel_inX : FunD K "panel_in" "panel_in" (defArgs s_panel_inX) (defBody s_panel_inX) (defScope s_panel_inX) [] [] a_panel_inX fd_panel_inX
  g_panel_inX : mg "panel_in" = some (.ref a_panel_inX)
  b_panel_inX : Binds K fd_panel_inX ["text"] []
  kw_panel_inX_0 : KBn K fd_panel_inX ["text"] 0 ["text"] (fun _ ws => permL [0] ws) (fun _ zs => permL [0] zs)
  a_Lcell_at : Addr
  fd_Lcell_at : FuncData
  F_Lcell_at : FunD K "_law_cell_at" "_law_cell_at" (defArgs s_Lcell_at) (defBody s_Lcell_at) (defScope s_Lcell_at) [] [] a_Lcell_at fd_Lcell_at
  g_Lcell_at : mg "_law_cell_at" = some (.ref a_Lcell_at)
  b_Lcell_at : Binds K fd_Lcell_at ["_law_script", "_law_k"] []
  a_Lbox : Addr
  fd_Lbox : FuncData
  F_Lbox : FunD K "_law_box" "_law_box" (defArgs s_Lbox) (defBody s_Lbox) (defScope s_Lbox) [] [] a_Lbox fd_Lbox
  g_Lbox : mg "_law_box" = some (.ref a_Lbox)
  b_Lbox : Binds K fd_Lbox ["_law_script", "_law_k"] []
  a_Ltake : Addr
  fd_Ltake : FuncData
  F_Ltake : FunD K "_law_take" "_law_take" (defArgs s_Ltake) (defBody s_Ltake) (defScope s_Ltake) [] [] a_Ltake fd_Ltake
  g_Ltake : mg "_law_take" = some (.ref a_Ltake)
  b_Ltake : Binds K fd_Ltake ["_law_box_here", "_law_size"] []
  a_Lof : Addr
  fd_Lof : FuncData
  F_Lof : FunD K "_law_of" "_law_of" (defArgs s_Lof) (defBody s_Lof) (defScope s_Lof) [] [] a_Lof fd_Lof
  g_Lof : mg "_law_of" = some (.ref a_Lof)
  b_Lof : Binds K fd_Lof ["_law_box_here", "_law_some"] []
  a_Lsame : Addr
  fd_Lsame : FuncData
  F_Lsame : FunD K "_law_same" "_law_same" (defArgs s_Lsame) (defBody s_Lsame) (defScope s_Lsame) [] [] a_Lsame fd_Lsame
  g_Lsame : mg "_law_same" = some (.ref a_Lsame)
  b_Lsame : Binds K fd_Lsame ["_law_told", "_law_due"] []
  a_Llists : Addr
  fd_Llists : FuncData
  F_Llists : FunD K "_law_lists" "_law_lists" (defArgs s_Llists) (defBody s_Llists) (defScope s_Llists) [] [] a_Llists fd_Llists
  g_Llists : mg "_law_lists" = some (.ref a_Llists)
  b_Llists : Binds K fd_Llists ["_law_matter"] []
  a_Lstrewn : Addr
  fd_Lstrewn : FuncData
  F_Lstrewn : FunD K "_law_strewn" "_law_strewn" (defArgs s_Lstrewn) (defBody s_Lstrewn) (defScope s_Lstrewn) [] [] a_Lstrewn fd_Lstrewn
  g_Lstrewn : mg "_law_strewn" = some (.ref a_Lstrewn)
  b_Lstrewn : Binds K fd_Lstrewn ["_law_box_here", "_law_some"] []
  a_Lnames : Addr
  fd_Lnames : FuncData
  F_Lnames : FunD K "_law_names" "_law_names" (defArgs s_Lnames) (defBody s_Lnames) (defScope s_Lnames) [] [] a_Lnames fd_Lnames
  g_Lnames : mg "_law_names" = some (.ref a_Lnames)
  b_Lnames : Binds K fd_Lnames ["_law_box_here", "_law_size"] []
  a_Ltied : Addr
  fd_Ltied : FuncData
  F_Ltied : FunD K "_law_tied" "_law_tied" (defArgs s_Ltied) (defBody s_Ltied) (defScope s_Ltied) [] [] a_Ltied fd_Ltied
  g_Ltied : mg "_law_tied" = some (.ref a_Ltied)
  b_Ltied : Binds K fd_Ltied ["_law_box_here", "_law_called"] []
  a_Lwired : Addr
  fd_Lwired : FuncData
  F_Lwired : FunD K "_law_wired" "_law_wired" (defArgs s_Lwired) (defBody s_Lwired) (defScope s_Lwired) [] [] a_Lwired fd_Lwired
  g_Lwired : mg "_law_wired" = some (.ref a_Lwired)
  b_Lwired : Binds K fd_Lwired ["_law_box_here", "_law_least", "_law_most"] []
  a_Lpage : Addr
  fd_Lpage : FuncData
  F_Lpage : FunD K "_law_page" "_law_page" (defArgs s_Lpage) (defBody s_Lpage) (defScope s_Lpage) [] [] a_Lpage fd_Lpage
  g_Lpage : mg "_law_page" = some (.ref a_Lpage)
  b_Lpage : Binds K fd_Lpage ["_law_wired_here"] []
  a_Lis_name : Addr
  fd_Lis_name : FuncData
  F_Lis_name : FunD K "_law_is_name" "_law_is_name" (defArgs s_Lis_name) (defBody s_Lis_name) (defScope s_Lis_name) [] [] a_Lis_name fd_Lis_name
  g_Lis_name : mg "_law_is_name" = some (.ref a_Lis_name)
  b_Lis_name : Binds K fd_Lis_name ["_law_word"] []
  a_Lnames_of : Addr
  fd_Lnames_of : FuncData
  F_Lnames_of : FunD K "_law_names_of" "_law_names_of" (defArgs s_Lnames_of) (defBody s_Lnames_of) (defScope s_Lnames_of) [] [] a_Lnames_of fd_Lnames_of
  g_Lnames_of : mg "_law_names_of" = some (.ref a_Lnames_of)
  b_Lnames_of : Binds K fd_Lnames_of ["_law_page_here"] []
  a_Lpanel_of : Addr
  fd_Lpanel_of : FuncData
  F_Lpanel_of : FunD K "_law_panel_of" "_law_panel_of" (defArgs s_Lpanel_of) (defBody s_Lpanel_of) (defScope s_Lpanel_of) [] [] a_Lpanel_of fd_Lpanel_of
  g_Lpanel_of : mg "_law_panel_of" = some (.ref a_Lpanel_of)
  b_Lpanel_of : Binds K fd_Lpanel_of ["_law_page_here"] []
  a_Lread : Addr
  fd_Lread : FuncData
  F_Lread : FunD K "_law_read" "_law_read" (defArgs s_Lread) (defBody s_Lread) (defScope s_Lread) [] [] a_Lread fd_Lread
  g_Lread : mg "_law_read" = some (.ref a_Lread)
  b_Lread : Binds K fd_Lread ["_law_page_here", "_law_way"] []
  a_Lchanged : Addr
  fd_Lchanged : FuncData
  F_Lchanged : FunD K "_law_changed" "_law_changed" (defArgs s_Lchanged) (defBody s_Lchanged) (defScope s_Lchanged) [] [] a_Lchanged fd_Lchanged
  g_Lchanged : mg "_law_changed" = some (.ref a_Lchanged)
  b_Lchanged : Binds K fd_Lchanged ["_law_box_here", "_law_page_here"] []
  a_Lright : Addr
  fd_Lright : FuncData
  F_Lright : FunD K "_law_right" "_law_right" (defArgs s_Lright) (defBody s_Lright) (defScope s_Lright) [] [] a_Lright fd_Lright
  g_Lright : mg "_law_right" = some (.ref a_Lright)
  b_Lright : Binds K fd_Lright ["_law_box_here"] []
  a_law : Addr
  fd_law : FuncData
  F_law : FunD K "law" "law" (defArgs s_law) (defBody s_law) (defScope s_law) [] [] a_law fd_law
  g_law : mg "law" = some (.ref a_law)
  b_law : Binds K fd_law ["_law_script"] []
  ce : okX rows87 K = true
  gx_BadText : mg "BadText" = some (.ref (He.ga K "BadText"))
  fd_init_BadText : FuncData
  F_init_BadText : FunD K "__init__" "BadText.__init__" (defArgs s_init_BadText) (defBody s_init_BadText) (defScope s_init_BadText) [] [] (He.ma K (He.ga K "BadText") "__init__") fd_init_BadText
  b_init_BadText : Binds K fd_init_BadText ["self", "at"] []
  kw_init_BadText : KBn K fd_init_BadText ["self", "at"] 1 ["at"] (fun us ws => us ++ ws) (fun vs zs => vs ++ zs)
  gx_BadRow : mg "BadRow" = some (.ref (He.ga K "BadRow"))
  fd_init_BadRow : FuncData
  F_init_BadRow : FunD K "__init__" "BadRow.__init__" (defArgs s_init_BadRow) (defBody s_init_BadRow) (defScope s_init_BadRow) [] [] (He.ma K (He.ga K "BadRow") "__init__") fd_init_BadRow
  b_init_BadRow : Binds K fd_init_BadRow ["self", "number"] []
  kw_init_BadRow : KBn K fd_init_BadRow ["self", "number"] 1 ["number"] (fun us ws => us ++ ws) (fun vs zs => vs ++ zs)
  m_ValueError : mg "ValueError" = none
  m_abs : mg "abs" = none
  m_all : mg "all" = none
  m_bool : mg "bool" = none
  m_enumerate : mg "enumerate" = none
  m_int : mg "int" = none
  m_isinstance : mg "isinstance" = none
  m_len : mg "len" = none
  m_list : mg "list" = none
  m_max : mg "max" = none
  m_min : mg "min" = none
  m_range : mg "range" = none
  m_set : mg "set" = none
  m_sorted : mg "sorted" = none
  m_str : mg "str" = none
  m_tuple : mg "tuple" = none
  m_zip : mg "zip" = none
  i_MOST_LETTERS : (u : Tok) ×' (mg "MOST_LETTERS" = some (.int 6 u))
  s_BLANK : (u : Tok) ×' (mg "BLANK" = some (.str " " u))
  s_HYPHEN : (u : Tok) ×' (mg "HYPHEN" = some (.str "-" u))
  s_LETTERS : (u : Tok) ×' (mg "LETTERS" = some (.str "abcdefghijklmnopqrstuvwxyz" u))
  s_PARTING : (u : Tok) ×' (mg "PARTING" = some (.str "/" u))
section
variable {P : Program} {w : World} {K : PySem.W.Frag} {mg : Str → Option Value} {base : Heap}
abbrev s_names_inF : Stmt := topS 12
theorem sc_names_inF : FnScope N_names_inF ["text"] (defScope s_names_inF) := ⟨rfl, rfl, rfl, by decide +kernel, rfl, by decide +kernel, by decide +kernel⟩
abbrev Tx.F_names_inF (T : Tx K mg) := T.F_names_inXF
abbrev Tx.g_names_inF (T : Tx K mg) := T.g_names_inXF
abbrev Tx.b_names_inF (T : Tx K mg) := T.b_names_inXF
abbrev Tx.kw_names_inF_0 (T : Tx K mg) := T.kw_names_inXF_0
abbrev s_panel_in : Stmt := topS 15
theorem sc_panel_in : FnScope N_panel_in ["text"] (defScope s_panel_in) := ⟨rfl, rfl, rfl, by decide +kernel, rfl, by decide +kernel, by decide +kernel⟩
abbrev Tx.F_panel_in (T : Tx K mg) := T.F_panel_inX
abbrev Tx.g_panel_in (T : Tx K mg) := T.g_panel_inX
abbrev Tx.kw_panel_in_0 (T : Tx K mg) := T.kw_panel_inX_0
theorem d_init_BadText (T : Tx K mg) : FnOk P w K mg base CX0 1 (He.ma K (He.ga K "BadText") "__init__") T.fd_init_BadText ["self", "at"] (spInit (He.ga K "BadText") "at") := by
  refine T.F_init_BadText.ok sc_init_BadText l_xinit (fun cdv A outer s H vs Q E hr h => ⟨t_xinit (He.ga K "BadText") "at", PSs.nox ?_, r_xinit vs H Q E h⟩)
  have hu := hu_room hr
  exact pss_cons (ps_expr (pe_veinitX (nsX T.ce 0 "BadText" "at" 0 rfl) rfl (by rfl) T.m_ValueError ve_initX (pa_cons (pv 0) (pa_cons (pv 1) pa_nil)))) (pss_one (ps_osf PySem.F.store_ValueError (nsX T.ce 0 "BadText" "at" 0 rfl) (pv 0) (pv 1)))
theorem d_is_name (T : Tx K mg) : FnOk P w K mg base CX0 3 T.a_is_name T.fd_is_name ["thing"] (sp_is_name K) := by
  refine T.F_is_name.ok sc_is_name l_is_name (fun cdv A outer s H vs Q E hr h => ⟨t_is_name K, PSs.nox ?_, r_is_name vs H Q E h⟩)
  have hu := hu_room hr
  exact (pss_cons (ps_if (PW.pt (pw_or (pt_not (pt_val (pe_callB call_isi (by rfl) T.m_isinstance (by decide +kernel) (pa_cons (pv 0) (pa_cons (pe_bltn (v := .ty "str") (by rfl) T.m_str (by decide +kernel) rfl) pa_nil))))) (pw_or1 (pt_not (pt_chain (op_leU hu) (op_leU hu) pe_int (pe_callB call_lenU (by rfl) T.m_len (by decide +kernel) (pa_cons (pv 0) pa_nil)) (pe_glob (by rfl) T.i_MOST_LETTERS.2 ⟨_, rfl⟩)))))) (pss_one (ps_ret pe_bl)) pss_nil)
      (pss_one (ps_ret (pe_callB (cr_all rfl) (by rfl) T.m_all (by decide +kernel) (pa_cons (pe_lc (own := [("letter", 1)]) rfl sc_is_name.nd (pi_str (pv 0)) (blkOk_by (own := [("letter", 1)]) (N := N_is_name) (sc := defScope s_is_name) (by decide +kernel)) (fun _ _ _ _ _ => (pg_name (i := 1) sc_is_name.nd rfl (by first | exact Or.inl rfl | exact Or.inr rfl))) (fun _ _ _ _ _ => pts_nil) (fun _ _ _ _ _ => (pe_cmpR (op_inU hu) (pv 1) (pe_glob (by rfl) T.s_LETTERS.2 ⟨_, rfl⟩) (by rfl)))) pa_nil)))))
theorem d_names_text (T : Tx K mg) : FnOk P w K mg base CX0 3 T.a_names_text T.fd_names_text ["names"] (sp_names_text K) := by
  refine T.F_names_text.ok sc_names_text l_names_text (fun cdv A outer s H vs Q E hr h => ⟨t_names_text K, PSs.nox ?_, r_names_text vs H Q E h⟩)
  have hu := hu_room hr
  exact (pss_one (ps_ret (pe_ifExp (pt_cmpR (op_gtU hu) (pe_callB call_lenU (by rfl) T.m_len (by decide +kernel) (pa_cons (pv 0) pa_nil)) pe_int (nomark _)) (pe_joinU (pe_glob (by rfl) T.s_BLANK.2 ⟨_, rfl⟩) (pe_callTy (call_listU rfl) (by rfl) T.m_list (by decide +kernel) (pa_cons (pv 0) pa_nil))) (pe_glob (by rfl) T.s_HYPHEN.2 ⟨_, rfl⟩))))
theorem d_names_inF (T : Tx K mg) : FnOk P w K mg base CX0 4 T.a_names_inXF T.fd_names_inXF ["text"] (sp_names_inF K) := by
  refine T.F_names_inXF.ok sc_names_inF l_names_inF (fun cdv A outer s H vs Q E hr h => ⟨t_names_inF K, PSs.nox ?_, r_names_inF vs H Q E h⟩)
  have hu := hu_room hr
  exact (pss_cons (ps_set (i := 1) sc_names_inF.nd rfl (Or.inl rfl) (pe_splitU (pv 0) (pe_glob (by rfl) T.s_BLANK.2 ⟨_, rfl⟩)))
      (pss_cons (ps_if (pt_cmpR (op_eqP hu) (pv 1) (pe_lst (pa_cons (pe_glob (by rfl) T.s_HYPHEN.2 ⟨_, rfl⟩) pa_nil)) (nomark _)) (pss_one (ps_ret (pe_lst pa_nil))) pss_nil)
      (pss_cons (ps_for PassesOwn.never rfl (pi_enum (by rfl) T.m_enumerate (pa_cons (pv 1) pa_nil)) (pg_unp rfl (pgs_cons (pg_name (i := 2) sc_names_inF.nd rfl (Or.inl rfl)) (pgs_cons (pg_name (i := 3) sc_names_inF.nd rfl (Or.inl rfl)) pgs_nil))) (pss_one (ps_if (pt_not (pt_val (pe_call (d_is_name T) (hr.mono (by decide)) (by rfl) T.g_is_name T.F_is_name.kp T.b_is_name .nil pass0 (pa_cons (pv 3) pa_nil)))) (pss_one ps_never) pss_nil)))
      (pss_one (ps_ret (pv 1))))))
theorem d_names_inXF (T : Tx K mg) : FnOk P w K mg base (L2.CX P w) 4 T.a_names_inXF T.fd_names_inXF ["text"] (sp_names_inXF K) := by
  refine T.F_names_inXF.ok sc_names_inXF l_names_inXF (fun cdv A outer s H vs Q E hr h => ⟨t_names_inXF K E, ?_, r_names_inXF vs H Q E h⟩)
  have hu := hu_room hr
  exact (pss_cons (PS.nox (ps_set (i := 1) sc_names_inXF.nd rfl (Or.inl rfl) (pe_splitU (pv 0) (pe_glob (by rfl) T.s_BLANK.2 ⟨_, rfl⟩))))
      (pss_cons (PS.nox (ps_if (pt_cmpR (op_eqP hu) (pv 1) (pe_lst (pa_cons (pe_glob (by rfl) T.s_HYPHEN.2 ⟨_, rfl⟩) pa_nil)) (nomark _)) (pss_one (ps_ret (pe_lst pa_nil))) pss_nil))
      (pss_cons (ps_for (passes_of rfl) rfl (pi_enum (by rfl) T.m_enumerate (pa_cons (pv 1) pa_nil)) (pg_unp rfl (pgs_cons (pg_name (i := 2) sc_names_inXF.nd rfl (Or.inl rfl)) (pgs_cons (pg_name (i := 3) sc_names_inXF.nd rfl (Or.inl rfl)) pgs_nil))) (pss_one (ps_if (PT.nox (pt_not (pt_val (pe_call (d_is_name T) (hr.mono (by decide)) (by rfl) T.g_is_name T.F_is_name.kp T.b_is_name .nil pass0 (pa_cons (pv 3) pa_nil))))) (pss_one (ps_raise rfl (takes_of rfl rfl rfl rfl) (pmk_ns PySem.F.excBase_ValueError (nsX T.ce 0 "BadText" "at" 0 rfl) (d_init_BadText T) (hr.mono (by decide)) T.b_init_BadText passInit (by rfl) T.gx_BadText (pa_cons (pv 2) pa_nil)))) pss_nil)))
      (pss_one (PS.nox (ps_ret (pv 1)))))))
theorem d_panel_text (T : Tx K mg) : FnOk P w K mg base CX0 4 T.a_panel_text T.fd_panel_text ["panel"] (sp_panel_text K) := by
  refine T.F_panel_text.ok sc_panel_text l_panel_text (fun cdv A outer s H vs Q E hr h => ⟨t_panel_text K, PSs.nox ?_, r_panel_text vs H Q E h⟩)
  have hu := hu_room hr
  exact (pss_cons (ps_asg (pv 0) (pg_unp rfl (pgs_cons (pg_name (i := 1) sc_panel_text.nd rfl (Or.inl rfl)) (pgs_cons (pg_name (i := 2) sc_panel_text.nd rfl (Or.inl rfl)) pgs_nil))))
      (pss_cons (ps_setLc (i := 3) (own := [("one", 4), ("other", 5)]) rfl sc_panel_text.nd rfl rfl (sw_true rfl rfl rfl (by decide +kernel)) (pi_seq (pv 2)) (blkOk_by (own := [("one", 4), ("other", 5)]) (N := N_panel_text) (sc := defScope s_panel_text) (by decide +kernel)) (fun _ _ _ _ _ => (pg_unp rfl (pgs_cons (pg_name (i := 4) sc_panel_text.nd rfl (by first | exact Or.inl rfl | exact Or.inr rfl)) (pgs_cons (pg_name (i := 5) sc_panel_text.nd rfl (by first | exact Or.inl rfl | exact Or.inr rfl)) pgs_nil)))) (fun _ _ _ _ _ => pts_nil) (fun _ _ _ _ _ => (pe_joinU (pe_glob (by rfl) T.s_HYPHEN.2 ⟨_, rfl⟩) (pe_lst (pa_cons (pv 4) (pa_cons (pv 5) pa_nil))))))
      (pss_one (ps_ret (pe_joinU (pe_glob (by rfl) T.s_BLANK.2 ⟨_, rfl⟩) (pe_lst (pa_cons (pe_call (d_names_text T) (hr.mono (by decide)) (by rfl) T.g_names_text T.F_names_text.kp T.b_names_text .nil pass0 (pa_cons (pv 1) pa_nil)) (pa_cons (pe_glob (by rfl) T.s_PARTING.2 ⟨_, rfl⟩) (pa_cons (pe_call (d_names_text T) (hr.mono (by decide)) (by rfl) T.g_names_text T.F_names_text.kp T.b_names_text .nil pass0 (pa_cons (pv 3) pa_nil)) pa_nil)))))))))
theorem d_Reading_init (T : Tx K mg) : FnOk P w K mg base CX0 3 T.a_Reading_init T.fd_Reading_init ["self"] (sp_Reading_init K T.cw_Reading) := by
  refine T.F_Reading_init.ok sc_Reading_init l_Reading_init (fun cdv A outer s H vs Q E hr h => ⟨t_Reading_init K T.cw_Reading, PSs.nox ?_, r_Reading_init vs H Q E h⟩)
  have hu := hu_room hr
  exact (pss_cons (ps_fld (pv 0) (pe_lst pa_nil) rfl)
      (pss_cons (ps_fld (pv 0) (pe_lst pa_nil) rfl)
      (pss_cons (ps_fld (pv 0) pe_bl rfl)
      (pss_one (ps_fld (pv 0) pe_bl rfl)))))
theorem d_Reading_takes_switch (T : Tx K mg) : FnOk P w K mg base CX0 4 T.a_Reading_takes_switch T.fd_Reading_takes_switch ["self", "word"] (sp_Reading_takes_switch K T.cw_Reading) := by
  refine T.F_Reading_takes_switch.ok sc_Reading_takes_switch l_Reading_takes_switch (fun cdv A outer s H vs Q E hr h => ⟨t_Reading_takes_switch K T.cw_Reading, PSs.nox ?_, r_Reading_takes_switch vs H Q E h⟩)
  have hu := hu_room hr
  exact (pss_cons (ps_if (PW.pt (pw_and (pt_cmpR (op_eqP hu) (pv 1) (pe_glob (by rfl) T.s_PARTING.2 ⟨_, rfl⟩) (nomark _)) (pw_and1 (pt_cmpR (op_gtU hu) (pe_callB call_lenU (by rfl) T.m_len (by decide +kernel) (pa_cons (pe_fld (pv 0) rfl) pa_nil)) pe_int (nomark _))))) (pss_cons (ps_fld (pv 0) pe_bl rfl)
      (pss_one (ps_ret pe_bl))) pss_nil)
      (pss_cons (ps_if (PW.pt (pw_or (pt_not (pt_val (pe_call (d_is_name T) (hr.mono (by decide)) (by rfl) T.g_is_name T.F_is_name.kp T.b_is_name .nil pass0 (pa_cons (pv 1) pa_nil)))) (pw_or1 (pt_cmpR (op_geU hu) (pe_slice sl_U (pe_fld (pv 0) rfl) (po_some (pe_un un_neg pe_int)) po_none) (pe_lst (pa_cons (pv 1) pa_nil)) (nomark _))))) (pss_one (ps_ret pe_bl)) pss_nil)
      (pss_cons (ps_expr (pe_bm PySem.F.plainAttrs_list PySem.F.slot_list_append PySem.F.type_list_append mt_append (pe_fld (pv 0) rfl) (pa_cons (pv 1) pa_nil)))
      (pss_one (ps_ret pe_bl)))))
theorem d_Reading_takes_pair (T : Tx K mg) : FnOk P w K mg base CX0 3 T.a_Reading_takes_pair T.fd_Reading_takes_pair ["self", "word"] (sp_Reading_takes_pair K T.cw_Reading) := by
  refine T.F_Reading_takes_pair.ok sc_Reading_takes_pair l_Reading_takes_pair (fun cdv A outer s H vs Q E hr h => ⟨t_Reading_takes_pair K T.cw_Reading, PSs.nox ?_, r_Reading_takes_pair vs H Q E h⟩)
  have hu := hu_room hr
  exact (pss_cons (ps_if (PW.pt (pw_and (pt_cmpR (op_eqP hu) (pv 1) (pe_glob (by rfl) T.s_HYPHEN.2 ⟨_, rfl⟩) (nomark _)) (pw_and1 (pt_cmpR (op_eqP hu) (pe_callB call_lenU (by rfl) T.m_len (by decide +kernel) (pa_cons (pe_fld (pv 0) rfl) pa_nil)) pe_int (nomark _))))) (pss_cons (ps_fld (pv 0) pe_bl rfl)
      (pss_one (ps_ret pe_bl))) pss_nil)
      (pss_cons (ps_asg (pe_partU (pv 1) (pe_glob (by rfl) T.s_HYPHEN.2 ⟨_, rfl⟩)) (pg_unp rfl (pgs_cons (pg_name (i := 2) sc_Reading_takes_pair.nd rfl (Or.inl rfl)) (pgs_cons (pg_name (i := 3) sc_Reading_takes_pair.nd rfl (Or.inl rfl)) (pgs_cons (pg_name (i := 4) sc_Reading_takes_pair.nd rfl (Or.inl rfl)) pgs_nil)))))
      (pss_cons (ps_if (PW.pt (pw_or (pt_cmpR (op_notInU hu) (pv 2) (pe_fld (pv 0) rfl) (by rfl)) (pw_or (pt_cmpR (op_notInU hu) (pv 4) (pe_fld (pv 0) rfl) (by rfl)) (pw_or1 (pt_cmpR (op_geU hu) (pv 2) (pv 4) (nomark _)))))) (pss_one (ps_ret pe_bl)) pss_nil)
      (pss_cons (ps_if (pt_cmpR (op_geU hu) (pe_slice sl_U (pe_fld (pv 0) rfl) (po_some (pe_un un_neg pe_int)) po_none) (pe_lst (pa_cons (pe_tup (pa_cons (pv 2) (pa_cons (pv 4) pa_nil))) pa_nil)) (nomark _)) (pss_one (ps_ret pe_bl)) pss_nil)
      (pss_cons (ps_expr (pe_bm PySem.F.plainAttrs_list PySem.F.slot_list_append PySem.F.type_list_append mt_append (pe_fld (pv 0) rfl) (pa_cons (pe_tup (pa_cons (pv 2) (pa_cons (pv 4) pa_nil))) pa_nil)))
      (pss_one (ps_ret pe_bl)))))))
theorem d_Reading_takes (T : Tx K mg) : FnOk P w K mg base CX0 5 T.a_Reading_takes T.fd_Reading_takes ["self", "word"] (sp_Reading_takes K T.cw_Reading) := by
  refine T.F_Reading_takes.ok sc_Reading_takes l_Reading_takes (fun cdv A outer s H vs Q E hr h => ⟨t_Reading_takes K T.cw_Reading, PSs.nox ?_, r_Reading_takes vs H Q E h⟩)
  have hu := hu_room hr
  exact (pss_cons (ps_if (pt_val (pe_fld (pv 0) rfl)) (pss_one (ps_ret pe_bl)) pss_nil)
      (pss_one (ps_ret (pe_ifExp (pt_val (pe_fld (pv 0) rfl)) (pe_meth (pv 0) T.cw_Reading.cl T.mt_Reading_takes_pair (d_Reading_takes_pair T) (hr.mono (by decide)) T.b_Reading_takes_pair .nil pass0 (pa_cons (pv 1) pa_nil)) (pe_meth (pv 0) T.cw_Reading.cl T.mt_Reading_takes_switch (d_Reading_takes_switch T) (hr.mono (by decide)) T.b_Reading_takes_switch .nil pass0 (pa_cons (pv 1) pa_nil))))))
theorem d_Reading_is_whole (T : Tx K mg) : FnOk P w K mg base CX0 3 T.a_Reading_is_whole T.fd_Reading_is_whole ["self"] (sp_Reading_is_whole K T.cw_Reading) := by
  refine T.F_Reading_is_whole.ok sc_Reading_is_whole l_Reading_is_whole (fun cdv A outer s H vs Q E hr h => ⟨t_Reading_is_whole K T.cw_Reading, PSs.nox ?_, r_Reading_is_whole vs H Q E h⟩)
  have hu := hu_room hr
  exact (pss_one (ps_ret (pe_or (pe_fld (pv 0) rfl) (pe_one (pe_cmpR (op_gtU hu) (pe_callB call_lenU (by rfl) T.m_len (by decide +kernel) (pa_cons (pe_fld (pv 0) rfl) pa_nil)) pe_int (nomark _))))))
theorem d_panel_in (T : Tx K mg) : FnOk P w K mg base CX0 6 T.a_panel_inX T.fd_panel_inX ["text"] (sp_panel_in K) := by
  refine T.F_panel_inX.ok sc_panel_in l_panel_in (fun cdv A outer s H vs Q E hr h => ⟨t_panel_in K T.cw_Reading, PSs.nox ?_, r_panel_in vs H Q E h⟩)
  have hu := hu_room hr
  exact (pss_cons (ps_par (i := 1) (j := 2) (by rfl) sc_panel_in.nd rfl rfl (by decide) rfl rfl (pa_cons (pe_make0 T.mk_Reading (d_Reading_init T) (hr.mono (by decide)) (by rfl) T.gc_Reading T.b_Reading_init .nil pass0) (pa_cons (pe_splitU (pv 0) (pe_glob (by rfl) T.s_BLANK.2 ⟨_, rfl⟩)) pa_nil)) (by rfl))
      (pss_cons (ps_for PassesOwn.never rfl (pi_enum (by rfl) T.m_enumerate (pa_cons (pv 2) pa_nil)) (pg_unp rfl (pgs_cons (pg_name (i := 3) sc_panel_in.nd rfl (Or.inl rfl)) (pgs_cons (pg_name (i := 4) sc_panel_in.nd rfl (Or.inl rfl)) pgs_nil))) (pss_one (ps_if (pt_not (pt_val (pe_meth (pv 1) T.cw_Reading.cl T.mt_Reading_takes (d_Reading_takes T) (hr.mono (by decide)) T.b_Reading_takes .nil pass0 (pa_cons (pv 4) pa_nil)))) (pss_one ps_never) pss_nil)))
      (pss_cons (ps_if (pt_not (pt_val (pe_meth0 (pv 1) T.cw_Reading.cl T.mt_Reading_is_whole (d_Reading_is_whole T) (hr.mono (by decide)) T.b_Reading_is_whole .nil pass0))) (pss_one ps_never) pss_nil)
      (pss_one (ps_ret (pe_tup (pa_cons (pe_callTy call_tupleU (by rfl) T.m_tuple (by decide +kernel) (pa_cons (pe_fld (pv 1) rfl) pa_nil)) (pa_cons (pe_callTy call_tupleU (by rfl) T.m_tuple (by decide +kernel) (pa_cons (pe_fld (pv 1) rfl) pa_nil)) pa_nil))))))))
theorem d_panel_inX (T : Tx K mg) : FnOk P w K mg base (L2.CX P w) 6 T.a_panel_inX T.fd_panel_inX ["text"] (sp_panel_inX K) := by
  refine T.F_panel_inX.ok sc_panel_inX l_panel_inX (fun cdv A outer s H vs Q E hr h => ⟨t_panel_inX K T.cw_Reading E, ?_, r_panel_inX vs H Q E h⟩)
  have hu := hu_room hr
  exact (pss_cons (PS.nox (ps_par (i := 1) (j := 2) (by rfl) sc_panel_inX.nd rfl rfl (by decide) rfl rfl (pa_cons (pe_make0 T.mk_Reading (d_Reading_init T) (hr.mono (by decide)) (by rfl) T.gc_Reading T.b_Reading_init .nil pass0) (pa_cons (pe_splitU (pv 0) (pe_glob (by rfl) T.s_BLANK.2 ⟨_, rfl⟩)) pa_nil)) (by rfl)))
      (pss_cons (ps_for (passes_of rfl) rfl (pi_enum (by rfl) T.m_enumerate (pa_cons (pv 2) pa_nil)) (pg_unp rfl (pgs_cons (pg_name (i := 3) sc_panel_inX.nd rfl (Or.inl rfl)) (pgs_cons (pg_name (i := 4) sc_panel_inX.nd rfl (Or.inl rfl)) pgs_nil))) (pss_one (ps_if (PT.nox (pt_not (pt_val (pe_meth (pv 1) T.cw_Reading.cl T.mt_Reading_takes (d_Reading_takes T) (hr.mono (by decide)) T.b_Reading_takes .nil pass0 (pa_cons (pv 4) pa_nil))))) (pss_one (ps_raise rfl (takes_of rfl rfl rfl rfl) (pmk_ns PySem.F.excBase_ValueError (nsX T.ce 0 "BadText" "at" 0 rfl) (d_init_BadText T) (hr.mono (by decide)) T.b_init_BadText passInit (by rfl) T.gx_BadText (pa_cons (pv 3) pa_nil)))) pss_nil)))
      (pss_cons (ps_if (PT.nox (pt_not (pt_val (pe_meth0 (pv 1) T.cw_Reading.cl T.mt_Reading_is_whole (d_Reading_is_whole T) (hr.mono (by decide)) T.b_Reading_is_whole .nil pass0)))) (pss_one (ps_raise rfl (takes_of rfl rfl rfl rfl) (pmk_ns PySem.F.excBase_ValueError (nsX T.ce 0 "BadText" "at" 0 rfl) (d_init_BadText T) (hr.mono (by decide)) T.b_init_BadText passInit (by rfl) T.gx_BadText (pa_cons (pe_callB call_lenU (by rfl) T.m_len (by decide +kernel) (pa_cons (pv 2) pa_nil)) pa_nil)))) pss_nil)
      (pss_one (PS.nox (ps_ret (pe_tup (pa_cons (pe_callTy call_tupleU (by rfl) T.m_tuple (by decide +kernel) (pa_cons (pe_fld (pv 1) rfl) pa_nil)) (pa_cons (pe_callTy call_tupleU (by rfl) T.m_tuple (by decide +kernel) (pa_cons (pe_fld (pv 1) rfl) pa_nil)) pa_nil)))))))))
theorem d_Lcell_at (T : Tx K mg) : FnOk P w K mg base CX0 3 T.a_Lcell_at T.fd_Lcell_at ["_law_script", "_law_k"] (sp_Lcell_at K) := by
  refine T.F_Lcell_at.ok sc_Lcell_at l_Lcell_at (fun cdv A outer s H vs Q E hr h => ⟨t_Lcell_at K, PSs.nox ?_, r_Lcell_at vs H Q E h⟩)
  have hu := hu_room hr
  exact (pss_cons (ps_if (pt_cmpR (op_ltU hu) (pv 1) (pe_callB call_lenU (by rfl) T.m_len (by decide +kernel) (pa_cons (pv 0) pa_nil)) (nomark _)) (pss_one (ps_ret (pe_ix (ix_U hu) (pv 0) (pv 1) (fun _ _ => rfl)))) pss_nil)
      (pss_one (ps_ret pe_int)))
theorem d_Lbox (T : Tx K mg) : FnOk P w K mg base CX0 4 T.a_Lbox T.fd_Lbox ["_law_script", "_law_k"] (sp_Lbox K) := by
  refine T.F_Lbox.ok sc_Lbox l_Lbox (fun cdv A outer s H vs Q E hr h => ⟨t_Lbox K, PSs.nox ?_, r_Lbox vs H Q E h⟩)
  have hu := hu_room hr
  exact (pss_cons (ps_set (i := 2) sc_Lbox.nd rfl (Or.inl rfl) (pe_call (d_Lcell_at T) (hr.mono (by decide)) (by rfl) T.g_Lcell_at T.F_Lcell_at.kp T.b_Lcell_at .nil pass0 (pa_cons (pv 0) (pa_cons (pv 1) pa_nil))))
      (pss_one (ps_ret (pe_lst (pa_cons (pe_op op_mulU (pe_callB call_absr (by rfl) T.m_abs (by decide +kernel) (pa_cons (pv 2) pa_nil)) (pe_callTy call_int1r (by rfl) T.m_int (by decide +kernel) (pa_cons (pe_cmpR (op_geU hu) (pe_callB call_absr (by rfl) T.m_abs (by decide +kernel) (pa_cons (pv 2) pa_nil)) (pe_op op_pow pe_int pe_int) (nomark _)) pa_nil))) (pa_cons (pe_op op_addU (pe_op op_addU (pe_op op_mod (pv 2) pe_int) (pe_op op_mulU pe_int (pv 1))) pe_int) (pa_cons pe_int pa_nil)))))))
theorem d_Ltake (T : Tx K mg) : FnOk P w K mg base CX0 3 T.a_Ltake T.fd_Ltake ["_law_box_here", "_law_size"] (sp_Ltake K) := by
  refine T.F_Ltake.ok sc_Ltake l_Ltake (fun cdv A outer s H vs Q E hr h => ⟨t_Ltake K, PSs.nox ?_, r_Ltake vs H Q E h⟩)
  have hu := hu_room hr
  exact (pss_cons (ps_if (pt_cmpR (op_gtU hu) (pe_ix (ix_U hu) (pv 0) pe_int (fun _ _ => rfl)) pe_int (nomark _)) (pss_cons (ps_set (i := 2) sc_Ltake.nd rfl (Or.inl rfl) (pe_op op_mod (pe_ix (ix_U hu) (pv 0) pe_int (fun _ _ => rfl)) (pv 1)))
      (pss_cons (ps_asg (pe_op op_fdiv (pe_ix (ix_U hu) (pv 0) pe_int (fun _ _ => rfl)) (pv 1)) (pg_sub (pv 0) pe_int set_list))
      (pss_one (ps_ret (pv 2))))) pss_nil)
      (pss_cons (ps_asg (pe_op op_addU (pe_ix (ix_U hu) (pv 0) pe_int (fun _ _ => rfl)) pe_int) (pg_sub (pv 0) pe_int set_list))
      (pss_cons (ps_set (i := 3) sc_Ltake.nd rfl (Or.inl rfl) (pe_op op_mod (pe_op op_mulU (pe_op op_addU (pe_ix (ix_U hu) (pv 0) pe_int (fun _ _ => rfl)) (pe_op op_mulU pe_int (pe_ix (ix_U hu) (pv 0) pe_int (fun _ _ => rfl)))) (pe_op op_addU pe_int (pe_ix (ix_U hu) (pv 0) pe_int (fun _ _ => rfl)))) pe_int))
      (pss_cons (ps_set (i := 4) sc_Ltake.nd rfl (Or.inl rfl) (pe_op op_mod (pe_op op_mulU (pe_op op_addU (pe_op op_addU (pv 3) (pe_ix (ix_U hu) (pv 0) pe_int (fun _ _ => rfl))) (pe_op op_fdiv (pe_ix (ix_U hu) (pv 0) pe_int (fun _ _ => rfl)) pe_int)) (pe_op op_addU (pe_op op_mod (pv 3) pe_int) pe_int)) pe_int))
      (pss_one (ps_ret (pe_op op_mod (pe_op op_fdiv (pe_op op_mod (pe_op op_addU (pe_op op_mulU (pv 4) pe_int) (pv 3)) pe_int) pe_int) (pv 1))))))))
theorem d_Lof (T : Tx K mg) : FnOk P w K mg base CX0 4 T.a_Lof T.fd_Lof ["_law_box_here", "_law_some"] (sp_Lof K) := by
  refine T.F_Lof.ok sc_Lof l_Lof (fun cdv A outer s H vs Q E hr h => ⟨t_Lof K, PSs.nox ?_, r_Lof vs H Q E h⟩)
  have hu := hu_room hr
  exact (pss_one (ps_ret (pe_ix (ix_U hu) (pv 1) (pe_call (d_Ltake T) (hr.mono (by decide)) (by rfl) T.g_Ltake T.F_Ltake.kp T.b_Ltake .nil pass0 (pa_cons (pv 0) (pa_cons (pe_callB call_lenU (by rfl) T.m_len (by decide +kernel) (pa_cons (pv 1) pa_nil)) pa_nil))) (fun _ _ => rfl))))
theorem dr_Lsame (T : Tx K mg) (n j : Nat) (hj : 3 ≤ j) (d_Lsame : Tx K mg → FnOk P w K mg base CX0 j T.a_Lsame T.fd_Lsame ["_law_told", "_law_due"] (spOf_Lsame K n)) : FnOk P w K mg base CX0 (j + 1) T.a_Lsame T.fd_Lsame ["_law_told", "_law_due"] (spOf_Lsame K (n + 1)) := by
  refine T.F_Lsame.ok sc_Lsame lOf_Lsame (fun cdv A outer s H vs Q E hr h => ⟨t_Lsame K (fun K => spOf_Lsame K n), PSs.nox ?_, r_Lsame n vs H Q E h⟩)
  have hu := hu_room hr
  exact (pss_cons (ps_if (pt_val (pe_callB call_isiT (by rfl) T.m_isinstance (by decide +kernel) (pa_cons (pv 1) (pa_cons (pe_tup (pa_cons (pe_bltn (v := .ty "list") (by rfl) T.m_list (by decide +kernel) rfl) (pa_cons (pe_bltn (v := .ty "tuple") (by rfl) T.m_tuple (by decide +kernel) rfl) pa_nil))) pa_nil)))) (pss_cons (ps_if (PW.pt (pw_or (pt_cmpR (op_neP hu) (pe_callB call_isi (by rfl) T.m_isinstance (by decide +kernel) (pa_cons (pv 0) (pa_cons (pe_bltn (v := .ty "list") (by rfl) T.m_list (by decide +kernel) rfl) pa_nil))) (pe_callB call_isi (by rfl) T.m_isinstance (by decide +kernel) (pa_cons (pv 1) (pa_cons (pe_bltn (v := .ty "list") (by rfl) T.m_list (by decide +kernel) rfl) pa_nil))) (nomark _)) (pw_or1 (pt_cmpR (op_neP hu) (pe_callB call_isi (by rfl) T.m_isinstance (by decide +kernel) (pa_cons (pv 0) (pa_cons (pe_bltn (v := .ty "tuple") (by rfl) T.m_tuple (by decide +kernel) rfl) pa_nil))) (pe_callB call_isi (by rfl) T.m_isinstance (by decide +kernel) (pa_cons (pv 1) (pa_cons (pe_bltn (v := .ty "tuple") (by rfl) T.m_tuple (by decide +kernel) rfl) pa_nil))) (nomark _))))) (pss_one (ps_ret pe_bl)) pss_nil)
      (pss_one (ps_ret (pe_and (pe_cmpR (op_eqP hu) (pe_callB call_lenU (by rfl) T.m_len (by decide +kernel) (pa_cons (pv 0) pa_nil)) (pe_callB call_lenU (by rfl) T.m_len (by decide +kernel) (pa_cons (pv 1) pa_nil)) (nomark _)) (pe_one (pe_callB (cr_all rfl) (by rfl) T.m_all (by decide +kernel) (pa_cons (pe_lc (own := [("_law_mine", 2), ("_law_its", 3)]) rfl sc_Lsame.nd (RZ.pi_zipA (by rfl) T.m_zip (pa_cons (pv 0) (pa_cons (pv 1) pa_nil))) (blkOk_by (own := [("_law_mine", 2), ("_law_its", 3)]) (N := N_Lsame) (sc := defScope s_Lsame) (by decide +kernel)) (fun _ _ _ _ _ => (pg_unp rfl (pgs_cons (pg_name (i := 2) sc_Lsame.nd rfl (by first | exact Or.inl rfl | exact Or.inr rfl)) (pgs_cons (pg_name (i := 3) sc_Lsame.nd rfl (by first | exact Or.inl rfl | exact Or.inr rfl)) pgs_nil)))) (fun _ _ _ _ _ => pts_nil) (fun _ _ _ _ _ => (pe_call (d_Lsame T) (hr.mono (Nat.le_refl _)) (by rfl) T.g_Lsame T.F_Lsame.kp T.b_Lsame .nil pass0 (pa_cons (pv 2) (pa_cons (pv 3) pa_nil))))) pa_nil))))))) pss_nil)
      (pss_cons (ps_if (PW.pt (pw_or (pt_cmpR op_isNr (pv 1) pe_non (nomark _)) (pw_or1 (pt_val (pe_callB call_isiT (by rfl) T.m_isinstance (by decide +kernel) (pa_cons (pv 1) (pa_cons (pe_tup (pa_cons (pe_bltn (v := .ty "bool") (by rfl) T.m_bool (by decide +kernel) rfl) (pa_cons (pe_bltn (v := .ty "str") (by rfl) T.m_str (by decide +kernel) rfl) pa_nil))) pa_nil))))))) (pss_one (ps_ret (pe_and (pe_cmpR (op_eqP hu) (pv 0) (pv 1) (nomark _)) (pe_and (pe_cmpR (op_eqP hu) (pe_callB call_isi (by rfl) T.m_isinstance (by decide +kernel) (pa_cons (pv 0) (pa_cons (pe_bltn (v := .ty "bool") (by rfl) T.m_bool (by decide +kernel) rfl) pa_nil))) (pe_callB call_isi (by rfl) T.m_isinstance (by decide +kernel) (pa_cons (pv 1) (pa_cons (pe_bltn (v := .ty "bool") (by rfl) T.m_bool (by decide +kernel) rfl) pa_nil))) (nomark _)) (pe_one (pe_cmpR (op_eqP hu) (pe_cmpR op_isNr (pv 0) pe_non (nomark _)) (pe_cmpR op_isNr (pv 1) pe_non (nomark _)) (nomark _))))))) pss_nil)
      (pss_one (ps_ret (pe_and (pe_callB call_isi (by rfl) T.m_isinstance (by decide +kernel) (pa_cons (pv 0) (pa_cons (pe_bltn (v := .ty "int") (by rfl) T.m_int (by decide +kernel) rfl) pa_nil))) (pe_and (pe_not (pe_callB call_isi (by rfl) T.m_isinstance (by decide +kernel) (pa_cons (pv 0) (pa_cons (pe_bltn (v := .ty "bool") (by rfl) T.m_bool (by decide +kernel) rfl) pa_nil)))) (pe_one (pe_cmpR (op_eqP hu) (pv 0) (pv 1) (nomark _)))))))))
theorem d_Lsame (T : Tx K mg) : FnOk P w K mg base CX0 9 T.a_Lsame T.fd_Lsame ["_law_told", "_law_due"] (sp_Lsame K) := by
  have h : ∀ n, FnOk P w K mg base CX0 (3 + n) T.a_Lsame T.fd_Lsame ["_law_told", "_law_due"] (spOf_Lsame K n) := fun n => by
    induction n with
    | zero => exact ⟨fun vs H Q E h => h.elim, fun A outer s H args us vs Q E hr he hb hv h => h.elim⟩
    | succ n ih => exact dr_Lsame T n (3 + n) (Nat.le_add_right _ _) (fun _ => ih)
  exact h 6
theorem dr_Llists (T : Tx K mg) (n j : Nat) (hj : 3 ≤ j) (d_Llists : Tx K mg → FnOk P w K mg base CX0 j T.a_Llists T.fd_Llists ["_law_matter"] (spOf_Llists K n)) : FnOk P w K mg base CX0 (j + 1) T.a_Llists T.fd_Llists ["_law_matter"] (spOf_Llists K (n + 1)) := by
  refine T.F_Llists.ok sc_Llists lOf_Llists (fun cdv A outer s H vs Q E hr h => ⟨t_Llists K (fun K => spOf_Llists K n), PSs.nox ?_, r_Llists n vs H Q E h⟩)
  have hu := hu_room hr
  exact (pss_one (ps_ret (pe_ifExp (pt_val (pe_callB call_isiT (by rfl) T.m_isinstance (by decide +kernel) (pa_cons (pv 0) (pa_cons (pe_tup (pa_cons (pe_bltn (v := .ty "list") (by rfl) T.m_list (by decide +kernel) rfl) (pa_cons (pe_bltn (v := .ty "tuple") (by rfl) T.m_tuple (by decide +kernel) rfl) pa_nil))) pa_nil)))) (pe_lc (own := [("_law_part", 1)]) rfl sc_Llists.nd (pi_seq (pv 0)) (blkOk_by (own := [("_law_part", 1)]) (N := N_Llists) (sc := defScope s_Llists) (by decide +kernel)) (fun _ _ _ _ _ => (pg_name (i := 1) sc_Llists.nd rfl (by first | exact Or.inl rfl | exact Or.inr rfl))) (fun _ _ _ _ _ => pts_nil) (fun _ _ _ _ _ => (pe_call (d_Llists T) (hr.mono (Nat.le_refl _)) (by rfl) T.g_Llists T.F_Llists.kp T.b_Llists .nil pass0 (pa_cons (pv 1) pa_nil)))) (pv 0))))
theorem d_Llists (T : Tx K mg) : FnOk P w K mg base CX0 9 T.a_Llists T.fd_Llists ["_law_matter"] (sp_Llists K) := by
  have h : ∀ n, FnOk P w K mg base CX0 (3 + n) T.a_Llists T.fd_Llists ["_law_matter"] (spOf_Llists K n) := fun n => by
    induction n with
    | zero => exact ⟨fun vs H Q E h => h.elim, fun A outer s H args us vs Q E hr he hb hv h => h.elim⟩
    | succ n ih => exact dr_Llists T n (3 + n) (Nat.le_add_right _ _) (fun _ => ih)
  exact h 6
theorem d_Lstrewn (T : Tx K mg) : FnOk P w K mg base CX0 4 T.a_Lstrewn T.fd_Lstrewn ["_law_box_here", "_law_some"] (sp_Lstrewn K) := by
  refine T.F_Lstrewn.ok sc_Lstrewn l_Lstrewn (fun cdv A outer s H vs Q E hr h => ⟨t_Lstrewn K, PSs.nox ?_, r_Lstrewn vs H Q E h⟩)
  have hu := hu_room hr
  exact (pss_cons (ps_par (i := 2) (j := 3) (by rfl) sc_Lstrewn.nd rfl rfl (by decide) rfl rfl (pa_cons (pe_callTy (call_listU rfl) (by rfl) T.m_list (by decide +kernel) (pa_cons (pv 1) pa_nil)) (pa_cons (pe_lst pa_nil) pa_nil)) (by rfl))
      (pss_cons (ps_while PassesOwn.never (pt_cmpR (op_neP hu) (pv 2) (pe_lst pa_nil) (nomark _)) (pss_one (ps_expr (pe_bm PySem.F.plainAttrs_list PySem.F.slot_list_append PySem.F.type_list_append mt_append (pv 3) (pa_cons (pe_bm PySem.F.plainAttrs_list PySem.F.slot_list_pop PySem.F.type_list_pop mt_popAt (pv 2) (pa_cons (pe_call (d_Ltake T) (hr.mono (by decide)) (by rfl) T.g_Ltake T.F_Ltake.kp T.b_Ltake .nil pass0 (pa_cons (pv 0) (pa_cons (pe_callB call_lenU (by rfl) T.m_len (by decide +kernel) (pa_cons (pv 2) pa_nil)) pa_nil))) pa_nil)) pa_nil)))))
      (pss_one (ps_ret (pv 3)))))
theorem d_Lnames (T : Tx K mg) : FnOk P w K mg base CX0 5 T.a_Lnames T.fd_Lnames ["_law_box_here", "_law_size"] (sp_Lnames K) := by
  refine T.F_Lnames.ok sc_Lnames l_Lnames (fun cdv A outer s H vs Q E hr h => ⟨t_Lnames K, PSs.nox ?_, r_Lnames vs H Q E h⟩)
  have hu := hu_room hr
  exact (pss_cons (ps_set (i := 2) sc_Lnames.nd rfl (Or.inl rfl) (pe_lst (pa_cons pe_str (pa_cons pe_str (pa_cons pe_str (pa_cons pe_str (pa_cons pe_str (pa_cons pe_str (pa_cons pe_str (pa_cons pe_str (pa_cons pe_str (pa_cons pe_str (pa_cons pe_str (pa_cons pe_str (pa_cons pe_str (pa_cons pe_str pa_nil))))))))))))))))
      (pss_one (ps_ret (pe_callB (cr_sortU rfl hu) (by rfl) T.m_sorted (by decide +kernel) (pa_cons (pe_slice sl_U (pe_call (d_Lstrewn T) (hr.mono (by decide)) (by rfl) T.g_Lstrewn T.F_Lstrewn.kp T.b_Lstrewn .nil pass0 (pa_cons (pv 0) (pa_cons (pv 2) pa_nil))) po_none (po_some (pv 1))) pa_nil)))))
theorem d_Ltied (T : Tx K mg) : FnOk P w K mg base CX0 5 T.a_Ltied T.fd_Ltied ["_law_box_here", "_law_called"] (sp_Ltied K) := by
  refine T.F_Ltied.ok sc_Ltied l_Ltied (fun cdv A outer s H vs Q E hr h => ⟨t_Ltied K, PSs.nox ?_, r_Ltied vs H Q E h⟩)
  have hu := hu_room hr
  exact (pss_cons (ps_asg (pe_tup (pa_cons (pe_call (d_Ltake T) (hr.mono (by decide)) (by rfl) T.g_Ltake T.F_Ltake.kp T.b_Ltake .nil pass0 (pa_cons (pv 0) (pa_cons pe_int pa_nil))) (pa_cons (pe_lst pa_nil) pa_nil))) (pg_unp rfl (pgs_cons (pg_name (i := 2) sc_Ltied.nd rfl (Or.inr rfl)) (pgs_cons (pg_name (i := 3) sc_Ltied.nd rfl (Or.inl rfl)) pgs_nil))))
      (pss_cons (ps_set (i := 4) sc_Ltied.nd rfl (Or.inr rfl) (pe_call (d_Lstrewn T) (hr.mono (by decide)) (by rfl) T.g_Lstrewn T.F_Lstrewn.kp T.b_Lstrewn .nil pass0 (pa_cons (pv 0) (pa_cons (pv 1) pa_nil))))
      (pss_cons (ps_for PassesOwn.never rfl (pi_range2 (by rfl) T.m_range (pa_cons pe_int (pa_cons (pe_callB call_lenU (by rfl) T.m_len (by decide +kernel) (pa_cons (pv 4) pa_nil)) pa_nil))) (pg_name (i := 5) sc_Ltied.nd rfl (Or.inr rfl)) (pss_cons (ps_setLc (i := 6) (own := [("_law_mate", 7)]) rfl sc_Ltied.nd rfl rfl (sw_true rfl rfl rfl (by decide +kernel)) (pi_seq (pe_slice sl_U (pv 4) po_none (po_some (pv 5)))) (blkOk_by (own := [("_law_mate", 7)]) (N := N_Ltied) (sc := defScope s_Ltied) (by decide +kernel)) (fun _ _ _ _ _ => (pg_name (i := 7) sc_Ltied.nd rfl (by first | exact Or.inl rfl | exact Or.inr rfl))) (fun _ _ _ _ _ => (pts_one (PW.pt (pw_or (pt_cmpR (op_eqP hu) (pv 2) pe_int (nomark _)) (pw_or1 (PW.pt (pw_and (pt_cmpR (op_inU hu) (pv 2) (pe_tup (pa_cons pe_int (pa_cons pe_int pa_nil))) (by rfl)) (pw_and1 (pt_cmpR (op_eqP hu) (pe_call (d_Ltake T) (hr.mono (by decide)) (by rfl) T.g_Ltake T.F_Ltake.kp T.b_Ltake .nil pass0 (pa_cons (pv 0) (pa_cons (pe_op op_sub pe_int (pv 2)) pa_nil))) pe_int (nomark _)))))))))) (fun _ _ _ _ _ => (pv 7)))
      (pss_cons (ps_set (i := 6) sc_Ltied.nd rfl (Or.inl rfl) (pe_op op_addU (pe_op op_addU (pv 6) (pe_op op_mulU (pe_lst (pa_cons (pe_ix (ix_U hu) (pv 4) (pe_op op_sub (pv 5) pe_int) (fun _ _ => rfl)) pa_nil)) (pe_callTy call_int1r (by rfl) T.m_int (by decide +kernel) (pa_cons (pe_cmpR (op_inU hu) (pv 2) (pe_tup (pa_cons pe_int (pa_cons pe_int pa_nil))) (by rfl)) pa_nil)))) (pe_op op_mulU (pe_lst (pa_cons (pe_ix (ix_U hu) (pv 4) pe_int (fun _ _ => rfl)) pa_nil)) (pe_callTy call_int1r (by rfl) T.m_int (by decide +kernel) (pa_cons (pe_cmpR (op_eqP hu) (pv 2) pe_int (nomark _)) pa_nil)))))
      (pss_cons (ps_set (i := 6) sc_Ltied.nd rfl (Or.inl rfl) (pe_op op_addU (pv 6) (pe_op op_mulU (pe_lst (pa_cons (pe_ix (ix_U hu) (pv 4) (pe_call (d_Ltake T) (hr.mono (by decide)) (by rfl) T.g_Ltake T.F_Ltake.kp T.b_Ltake .nil pass0 (pa_cons (pv 0) (pa_cons (pv 5) pa_nil))) (fun _ _ => rfl)) pa_nil)) (pe_callTy call_int1r (by rfl) T.m_int (by decide +kernel) (pa_cons (pe_cmpR (op_eqP hu) (pv 2) pe_int (nomark _)) pa_nil)))))
      (pss_one (ps_set (i := 3) sc_Ltied.nd rfl (Or.inl rfl) (pe_op op_addU (pv 3) (pe_lc (own := [("_law_mate", 7)]) rfl sc_Ltied.nd (pi_seq (pv 6)) (blkOk_by (own := [("_law_mate", 7)]) (N := N_Ltied) (sc := defScope s_Ltied) (by decide +kernel)) (fun _ _ _ _ _ => (pg_name (i := 7) sc_Ltied.nd rfl (by first | exact Or.inl rfl | exact Or.inr rfl))) (fun _ _ _ _ _ => pts_nil) (fun _ _ _ _ _ => (pe_tup (pa_cons (pe_callB (cr_minU rfl) (by rfl) T.m_min (by decide +kernel) (pa_cons (pe_ix (ix_U hu) (pv 4) (pv 5) (fun _ _ => rfl)) (pa_cons (pv 7) pa_nil))) (pa_cons (pe_callB (cr_maxU rfl) (by rfl) T.m_max (by decide +kernel) (pa_cons (pe_ix (ix_U hu) (pv 4) (pv 5) (fun _ _ => rfl)) (pa_cons (pv 7) pa_nil))) pa_nil))))))))))))
      (pss_cons (ps_if (PW.pt (pw_and (pt_cmpR (op_eqP hu) (pv 2) pe_int (nomark _)) (pw_and1 (pt_cmpR (op_gtU hu) (pe_callB call_lenU (by rfl) T.m_len (by decide +kernel) (pa_cons (pv 4) pa_nil)) pe_int (nomark _))))) (pss_one (ps_expr (pe_bm PySem.F.plainAttrs_list PySem.F.slot_list_append PySem.F.type_list_append mt_append (pv 3) (pa_cons (pe_tup (pa_cons (pe_callB (cr_minU rfl) (by rfl) T.m_min (by decide +kernel) (pa_cons (pe_ix (ix_U hu) (pv 4) pe_int (fun _ _ => rfl)) (pa_cons (pe_ix (ix_U hu) (pv 4) (pe_un un_neg pe_int) (fun _ _ => rfl)) pa_nil))) (pa_cons (pe_callB (cr_maxU rfl) (by rfl) T.m_max (by decide +kernel) (pa_cons (pe_ix (ix_U hu) (pv 4) pe_int (fun _ _ => rfl)) (pa_cons (pe_ix (ix_U hu) (pv 4) (pe_un un_neg pe_int) (fun _ _ => rfl)) pa_nil))) pa_nil))) pa_nil)))) pss_nil)
      (pss_one (ps_ret (pe_tup (pa_cons (pe_callTy call_tupleU (by rfl) T.m_tuple (by decide +kernel) (pa_cons (pv 1) pa_nil)) (pa_cons (pe_callTy call_tupleU (by rfl) T.m_tuple (by decide +kernel) (pa_cons (pe_callB (cr_sortU rfl hu) (by rfl) T.m_sorted (by decide +kernel) (pa_cons (pv 3) pa_nil)) pa_nil)) pa_nil)))))))))
theorem d_Lwired (T : Tx K mg) : FnOk P w K mg base CX0 6 T.a_Lwired T.fd_Lwired ["_law_box_here", "_law_least", "_law_most"] (sp_Lwired K) := by
  refine T.F_Lwired.ok sc_Lwired l_Lwired (fun cdv A outer s H vs Q E hr h => ⟨t_Lwired K, PSs.nox ?_, r_Lwired vs H Q E h⟩)
  have hu := hu_room hr
  exact (pss_one (ps_ret (pe_call (d_Ltied T) (hr.mono (by decide)) (by rfl) T.g_Ltied T.F_Ltied.kp T.b_Ltied .nil pass0 (pa_cons (pv 0) (pa_cons (pe_call (d_Lnames T) (hr.mono (by decide)) (by rfl) T.g_Lnames T.F_Lnames.kp T.b_Lnames .nil pass0 (pa_cons (pv 0) (pa_cons (pe_op op_addU (pv 1) (pe_call (d_Ltake T) (hr.mono (by decide)) (by rfl) T.g_Ltake T.F_Ltake.kp T.b_Ltake .nil pass0 (pa_cons (pv 0) (pa_cons (pe_op op_addU (pe_op op_sub (pv 2) (pv 1)) pe_int) pa_nil)))) pa_nil))) pa_nil)))))
theorem d_Lpage (T : Tx K mg) : FnOk P w K mg base CX0 3 T.a_Lpage T.fd_Lpage ["_law_wired_here"] (sp_Lpage K) := by
  refine T.F_Lpage.ok sc_Lpage l_Lpage (fun cdv A outer s H vs Q E hr h => ⟨t_Lpage K, PSs.nox ?_, r_Lpage vs H Q E h⟩)
  have hu := hu_room hr
  exact (pss_cons (ps_set (i := 1) sc_Lpage.nd rfl (Or.inl rfl) (pe_ifExp (pt_cmpR (op_gtU hu) (pe_callB call_lenU (by rfl) T.m_len (by decide +kernel) (pa_cons (pe_ix (ix_U hu) (pv 0) pe_int (fun _ _ => rfl)) pa_nil)) pe_int (nomark _)) (pe_joinU pe_str (pe_lc (own := [("_law_name", 2), ("_law_mate", 3)]) rfl sc_Lpage.nd (pi_seq (pe_ix (ix_U hu) (pv 0) pe_int (fun _ _ => rfl))) (blkOk_by (own := [("_law_name", 2), ("_law_mate", 3)]) (N := N_Lpage) (sc := defScope s_Lpage) (by decide +kernel)) (fun _ _ _ _ _ => (pg_unp rfl (pgs_cons (pg_name (i := 2) sc_Lpage.nd rfl (by first | exact Or.inl rfl | exact Or.inr rfl)) (pgs_cons (pg_name (i := 3) sc_Lpage.nd rfl (by first | exact Or.inl rfl | exact Or.inr rfl)) pgs_nil)))) (fun _ _ _ _ _ => pts_nil) (fun _ _ _ _ _ => (pe_op op_addU (pe_op op_addU (pv 2) pe_str) (pv 3))))) pe_str))
      (pss_one (ps_ret (pe_op op_addU (pe_op op_addU (pe_joinU pe_str (pe_callTy (call_listU rfl) (by rfl) T.m_list (by decide +kernel) (pa_cons (pe_ix (ix_U hu) (pv 0) pe_int (fun _ _ => rfl)) pa_nil))) pe_str) (pv 1)))))
theorem d_Lis_name (T : Tx K mg) : FnOk P w K mg base CX0 3 T.a_Lis_name T.fd_Lis_name ["_law_word"] (sp_Lis_name K) := by
  refine T.F_Lis_name.ok sc_Lis_name l_Lis_name (fun cdv A outer s H vs Q E hr h => ⟨t_Lis_name K, PSs.nox ?_, r_Lis_name vs H Q E h⟩)
  have hu := hu_room hr
  exact (pss_one (ps_ret (pe_and (pe_chain (op_ltU hu) (op_ltU hu) pe_int (pe_callB call_lenU (by rfl) T.m_len (by decide +kernel) (pa_cons (pv 0) pa_nil)) pe_int) (pe_and (pe_cmpR (op_eqP hu) (pe_stripCU (pv 0) pe_str) pe_str (nomark _)) (pe_one (pe_isLowerU (pv 0)))))))
theorem d_Lnames_of (T : Tx K mg) : FnOk P w K mg base CX0 4 T.a_Lnames_of T.fd_Lnames_of ["_law_page_here"] (sp_Lnames_of K) := by
  refine T.F_Lnames_of.ok sc_Lnames_of l_Lnames_of (fun cdv A outer s H vs Q E hr h => ⟨t_Lnames_of K, PSs.nox ?_, r_Lnames_of vs H Q E h⟩)
  have hu := hu_room hr
  exact (pss_cons (ps_if (pt_cmpR (op_eqP hu) (pv 0) pe_str (nomark _)) (pss_one (ps_ret (pe_lst pa_nil))) pss_nil)
      (pss_cons (ps_set (i := 1) sc_Lnames_of.nd rfl (Or.inl rfl) (pe_splitU (pv 0) pe_str))
      (pss_cons (ps_setLc (i := 2) (own := [("_law_at", 3), ("_law_word", 4)]) rfl sc_Lnames_of.nd rfl rfl (sw_true rfl rfl rfl (by decide +kernel)) (pi_enum (by rfl) T.m_enumerate (pa_cons (pv 1) pa_nil)) (blkOk_by (own := [("_law_at", 3), ("_law_word", 4)]) (N := N_Lnames_of) (sc := defScope s_Lnames_of) (by decide +kernel)) (fun _ _ _ _ _ => (pg_unp rfl (pgs_cons (pg_name (i := 3) sc_Lnames_of.nd rfl (by first | exact Or.inl rfl | exact Or.inr rfl)) (pgs_cons (pg_name (i := 4) sc_Lnames_of.nd rfl (by first | exact Or.inl rfl | exact Or.inr rfl)) pgs_nil)))) (fun _ _ _ _ _ => (pts_one (pt_not (pt_val (pe_call (d_Lis_name T) (hr.mono (by decide)) (by rfl) T.g_Lis_name T.F_Lis_name.kp T.b_Lis_name .nil pass0 (pa_cons (pv 4) pa_nil)))))) (fun _ _ _ _ _ => (pv 3)))
      (pss_one (ps_ret (pe_ifExp (pt_cmpR (op_eqP hu) (pv 2) (pe_lst pa_nil) (nomark _)) (pv 1) (pe_ix (ix_U hu) (pv 2) pe_int (fun _ _ => rfl))))))))
theorem d_Lpanel_of (T : Tx K mg) : FnOk P w K mg base CX0 4 T.a_Lpanel_of T.fd_Lpanel_of ["_law_page_here"] (sp_Lpanel_of K) := by
  refine T.F_Lpanel_of.ok sc_Lpanel_of l_Lpanel_of (fun cdv A outer s H vs Q E hr h => ⟨t_Lpanel_of K, PSs.nox ?_, r_Lpanel_of vs H Q E h⟩)
  have hu := hu_room hr
  exact (pss_cons (ps_asg (pe_tup (pa_cons (pe_splitU (pv 0) pe_str) (pa_cons (pe_lst pa_nil) pa_nil))) (pg_unp rfl (pgs_cons (pg_name (i := 1) sc_Lpanel_of.nd rfl (Or.inl rfl)) (pgs_cons (pg_name (i := 2) sc_Lpanel_of.nd rfl (Or.inr rfl)) pgs_nil))))
      (pss_cons (ps_while PassesOwn.never (PW.pt (pw_and (pt_cmpR (op_ltU hu) (pe_callB call_lenU (by rfl) T.m_len (by decide +kernel) (pa_cons (pv 2) pa_nil)) (pe_callB call_lenU (by rfl) T.m_len (by decide +kernel) (pa_cons (pv 1) pa_nil)) (nomark _)) (pw_and (pt_val (pe_call (d_Lis_name T) (hr.mono (by decide)) (by rfl) T.g_Lis_name T.F_Lis_name.kp T.b_Lis_name .nil pass0 (pa_cons (pe_ix (ix_U hu) (pv 1) (pe_callB call_lenU (by rfl) T.m_len (by decide +kernel) (pa_cons (pv 2) pa_nil)) (fun _ _ => rfl)) pa_nil))) (pw_and1 (pt_cmpR (op_ltU hu) (pv 2) (pe_op op_addU (pe_slice sl_U (pv 2) po_none (po_some (pe_un un_neg pe_int))) (pe_lst (pa_cons (pe_ix (ix_U hu) (pv 1) (pe_callB call_lenU (by rfl) T.m_len (by decide +kernel) (pa_cons (pv 2) pa_nil)) (fun _ _ => rfl)) pa_nil))) (nomark _)))))) (pss_one (ps_expr (pe_bm PySem.F.plainAttrs_list PySem.F.slot_list_append PySem.F.type_list_append mt_append (pv 2) (pa_cons (pe_ix (ix_U hu) (pv 1) (pe_callB call_lenU (by rfl) T.m_len (by decide +kernel) (pa_cons (pv 2) pa_nil)) (fun _ _ => rfl)) pa_nil)))))
      (pss_cons (ps_set (i := 3) sc_Lpanel_of.nd rfl (Or.inl rfl) (pe_callB call_lenU (by rfl) T.m_len (by decide +kernel) (pa_cons (pv 2) pa_nil)))
      (pss_cons (ps_if (PW.pt (pw_or (pt_cmpR (op_eqP hu) (pv 3) (pe_callB call_lenU (by rfl) T.m_len (by decide +kernel) (pa_cons (pv 1) pa_nil)) (nomark _)) (pw_or (pt_cmpR (op_eqP hu) (pv 3) pe_int (nomark _)) (pw_or1 (pt_cmpR (op_neP hu) (pe_ix (ix_U hu) (pv 1) (pv 3) (fun _ _ => rfl)) pe_str (nomark _)))))) (pss_one (ps_ret (pv 3))) pss_nil)
      (pss_cons (ps_if (pt_cmpR (op_eqP hu) (pe_slice sl_U (pv 1) (po_some (pe_op op_addU (pv 3) pe_int)) (po_some (pe_op op_addU (pv 3) pe_int))) (pe_lst (pa_cons pe_str pa_nil)) (nomark _)) (pss_one (ps_ret (pe_ifExp (pt_cmpR (op_eqP hu) (pe_callB call_lenU (by rfl) T.m_len (by decide +kernel) (pa_cons (pv 1) pa_nil)) (pe_op op_addU (pv 3) pe_int) (nomark _)) (pe_tup (pa_cons (pe_callTy call_tupleU (by rfl) T.m_tuple (by decide +kernel) (pa_cons (pv 2) pa_nil)) (pa_cons (pe_tup pa_nil) pa_nil))) (pe_op op_addU (pv 3) pe_int)))) pss_nil)
      (pss_cons (ps_set (i := 4) sc_Lpanel_of.nd rfl (Or.inl rfl) (pe_lst pa_nil))
      (pss_cons (ps_for PassesOwn.never rfl (pi_enum (by rfl) T.m_enumerate (pa_cons (pv 1) pa_nil)) (pg_unp rfl (pgs_cons (pg_name (i := 5) sc_Lpanel_of.nd rfl (Or.inl rfl)) (pgs_cons (pg_name (i := 6) sc_Lpanel_of.nd rfl (Or.inl rfl)) pgs_nil))) (pss_cons (ps_set (i := 7) sc_Lpanel_of.nd rfl (Or.inl rfl) (pe_callTy call_tupleU (by rfl) T.m_tuple (by decide +kernel) (pa_cons (pe_splitU (pv 6) pe_str) pa_nil)))
      (pss_cons (ps_if (PW.pt (pw_and (pt_cmpR (op_gtU hu) (pv 5) (pv 3) (nomark _)) (pw_and1 (PW.pt (pw_or (pt_cmpR (op_neP hu) (pe_callB call_lenU (by rfl) T.m_len (by decide +kernel) (pa_cons (pv 7) pa_nil)) pe_int (nomark _)) (pw_or1 (pt_cmpR (op_neP hu) (pv 7) (pe_callTy call_tupleU (by rfl) T.m_tuple (by decide +kernel) (pa_cons (pe_sortSu rfl hu (by rfl) T.m_sorted (by rfl) T.m_set (pv 7)) pa_nil)) (nomark _)))))))) (pss_one (ps_ret (pv 5))) pss_nil)
      (pss_cons (ps_if (PW.pt (pw_and (pt_cmpR (op_gtU hu) (pv 5) (pv 3) (nomark _)) (pw_and1 (pt_cmpR (op_neP hu) (pe_lc (own := [("_law_name", 8)]) rfl sc_Lpanel_of.nd (pi_seq (pv 7)) (blkOk_by (own := [("_law_name", 8)]) (N := N_Lpanel_of) (sc := defScope s_Lpanel_of) (by decide +kernel)) (fun _ _ _ _ _ => (pg_name (i := 8) sc_Lpanel_of.nd rfl (by first | exact Or.inl rfl | exact Or.inr rfl))) (fun _ _ _ _ _ => (pts_one (pt_cmpR (op_notInU hu) (pv 8) (pv 2) (by rfl)))) (fun _ _ _ _ _ => (pv 8))) (pe_lst pa_nil) (nomark _))))) (pss_one (ps_ret (pv 5))) pss_nil)
      (pss_cons (ps_if (PW.pt (pw_and (pt_cmpR (op_gtU hu) (pv 5) (pv 3) (nomark _)) (pw_and (pt_cmpR (op_neP hu) (pv 4) (pe_lst pa_nil) (nomark _)) (pw_and1 (pt_cmpR (op_leU hu) (pv 7) (pe_ix (ix_U hu) (pv 4) (pe_un un_neg pe_int) (fun _ _ => rfl)) (nomark _)))))) (pss_one (ps_ret (pv 5))) pss_nil)
      (pss_one (ps_set (i := 4) sc_Lpanel_of.nd rfl (Or.inl rfl) (pe_op op_addU (pv 4) (pe_op op_mulU (pe_lst (pa_cons (pv 7) pa_nil)) (pe_callTy call_int1r (by rfl) T.m_int (by decide +kernel) (pa_cons (pe_cmpR (op_gtU hu) (pv 5) (pv 3) (nomark _)) pa_nil)))))))))))
      (pss_one (ps_ret (pe_ifExp (pt_cmpR (op_neP hu) (pv 4) (pe_lst pa_nil) (nomark _)) (pe_tup (pa_cons (pe_callTy call_tupleU (by rfl) T.m_tuple (by decide +kernel) (pa_cons (pv 2) pa_nil)) (pa_cons (pe_callTy call_tupleU (by rfl) T.m_tuple (by decide +kernel) (pa_cons (pv 4) pa_nil)) pa_nil))) (pe_callB call_lenU (by rfl) T.m_len (by decide +kernel) (pa_cons (pv 1) pa_nil))))))))))))
theorem d_Lread (T : Tx K mg) : FnOk P w K mg base CX0 7 T.a_Lread T.fd_Lread ["_law_page_here", "_law_way"] (sp_Lread K) := by
  refine T.F_Lread.ok sc_Lread l_Lread (fun cdv A outer s H vs Q E hr h => ⟨t_Lread K T.ce, PSs.nox ?_, r_Lread vs H Q E h⟩)
  have hu := hu_room hr
  exact (pss_cons (ps_asg (pe_tup (pa_cons pe_non (pa_cons pe_non pa_nil))) (pg_unp rfl (pgs_cons (pg_name (i := 2) sc_Lread.nd rfl (Or.inl rfl)) (pgs_cons (pg_name (i := 3) sc_Lread.nd rfl (Or.inl rfl)) pgs_nil))))
      (pss_cons (ps_try_hold2 (i := 4) rfl rfl rfl sc_Lread.nd rfl rfl ⟨by rfl, by decide, .inl T.gx_BadRow⟩ ⟨by rfl, by decide, .inl T.gx_BadText⟩ takes0 (fun W pn xe tk _ => (pss_one (ps_set (i := 3) sc_Lread.nd rfl (Or.inl rfl) (pe_ifExp (pt_cmpR (op_eqP hu) (pv 1) pe_int (nomark _)) (pe_callS (d_panel_inX T) (hr.mono (by decide)) (by rfl) T.g_panel_inX T.F_panel_inX.kp T.b_panel_inX (fun σ => passAt tk σ) (pa_cons (pv 0) pa_nil)) (pe_callS (d_names_inXF T) (hr.mono (by decide)) (by rfl) T.g_names_inXF T.F_names_inXF.kp T.b_names_inXF (fun σ => passAt tk σ) (pa_cons (pv 0) pa_nil)))))) (fun a oe cls d pn _ _ => (pss_one (ps_set (i := 2) sc_Lread.nd rfl (Or.inl rfl) (pv 4)))))
      (pss_cons (ps_if (pt_cmpR op_isNr (pv 2) pe_non (nomark _)) (pss_one (ps_ret (pv 3))) pss_nil)
      (pss_one (ps_ret (pe_ifExp (PW.pt (pw_and (pt_val (pe_callB call_isY (by rfl) T.m_isinstance (by decide +kernel) (pa_cons (pv 2) (pa_cons (pe_glob (by rfl) T.gx_BadText rfl) pa_nil)))) (pw_and1 (pt_val (pe_callB call_isY (by rfl) T.m_isinstance (by decide +kernel) (pa_cons (pv 2) (pa_cons (pe_bltn (v := .ty "ValueError") (by rfl) T.m_ValueError (by decide +kernel) rfl) pa_nil))))))) (pe_fldH (nsX T.ce 0 "BadText" "at" 0 rfl) (pv 2)) pe_non))))))
theorem d_Lchanged (T : Tx K mg) : FnOk P w K mg base CX0 5 T.a_Lchanged T.fd_Lchanged ["_law_box_here", "_law_page_here"] (sp_Lchanged K) := by
  refine T.F_Lchanged.ok sc_Lchanged l_Lchanged (fun cdv A outer s H vs Q E hr h => ⟨t_Lchanged K, PSs.nox ?_, r_Lchanged vs H Q E h⟩)
  have hu := hu_room hr
  exact (pss_cons (ps_par (i := 2) (j := 3) (by rfl) sc_Lchanged.nd rfl rfl (by decide) rfl rfl (pa_cons (pe_call (d_Ltake T) (hr.mono (by decide)) (by rfl) T.g_Ltake T.F_Ltake.kp T.b_Ltake .nil pass0 (pa_cons (pv 0) (pa_cons (pe_op op_addU (pe_callB call_lenU (by rfl) T.m_len (by decide +kernel) (pa_cons (pv 1) pa_nil)) pe_int) pa_nil))) (pa_cons (pe_call (d_Ltake T) (hr.mono (by decide)) (by rfl) T.g_Ltake T.F_Ltake.kp T.b_Ltake .nil pass0 (pa_cons (pv 0) (pa_cons pe_int pa_nil))) pa_nil)) (by rfl))
      (pss_cons (ps_set (i := 4) sc_Lchanged.nd rfl (Or.inl rfl) (pe_call (d_Lof T) (hr.mono (by decide)) (by rfl) T.g_Lof T.F_Lof.kp T.b_Lof .nil pass0 (pa_cons (pv 0) (pa_cons (pe_op op_addU (pe_callTy (call_listTx rfl) (by rfl) T.m_list (by decide +kernel) (pa_cons pe_str pa_nil)) (pe_lst (pa_cons pe_str (pa_cons pe_str (pa_cons pe_str (pa_cons pe_str pa_nil)))))) pa_nil))))
      (pss_cons (ps_if (pt_cmpR (op_ltU hu) (pv 3) pe_int (nomark _)) (pss_one (ps_ret (pe_op op_addU (pe_op op_addU (pe_slice sl_U (pv 1) po_none (po_some (pv 2))) (pe_ix (ix_U hu) (pe_lst (pa_cons (pv 4) (pa_cons pe_str (pa_cons (pv 4) pa_nil)))) (pv 3) (fun _ _ => rfl))) (pe_slice sl_U (pv 1) (po_some (pe_op op_addU (pv 2) (pe_ix (ix_U hu) (pe_lst (pa_cons pe_int (pa_cons pe_int (pa_cons pe_int pa_nil)))) (pv 3) (fun _ _ => rfl)))) po_none)))) pss_nil)
      (pss_cons (ps_set (i := 5) sc_Lchanged.nd rfl (Or.inl rfl) (pe_splitU (pv 1) pe_str))
      (pss_cons (ps_par (i := 2) (j := 6) (by rfl) sc_Lchanged.nd rfl rfl (by decide) rfl rfl (pa_cons (pe_call (d_Ltake T) (hr.mono (by decide)) (by rfl) T.g_Ltake T.F_Ltake.kp T.b_Ltake .nil pass0 (pa_cons (pv 0) (pa_cons (pe_callB call_lenU (by rfl) T.m_len (by decide +kernel) (pa_cons (pv 5) pa_nil)) pa_nil))) (pa_cons (pe_call (d_Ltake T) (hr.mono (by decide)) (by rfl) T.g_Ltake T.F_Ltake.kp T.b_Ltake .nil pass0 (pa_cons (pv 0) (pa_cons (pe_callB call_lenU (by rfl) T.m_len (by decide +kernel) (pa_cons (pv 5) pa_nil)) pa_nil))) pa_nil)) (by rfl))
      (pss_cons (ps_if (pt_cmpR (op_eqP hu) (pv 3) pe_int (nomark _)) (pss_one (ps_ret (pe_joinU pe_str (pe_op op_addU (pe_slice sl_U (pv 5) po_none (po_some (pv 2))) (pe_slice sl_U (pv 5) (po_some (pe_op op_addU (pv 2) pe_int)) po_none))))) pss_nil)
      (pss_cons (ps_if (pt_cmpR (op_eqP hu) (pv 3) pe_int (nomark _)) (pss_one (ps_ret (pe_joinU pe_str (pe_op op_addU (pe_op op_addU (pe_slice sl_U (pv 5) po_none (po_some (pv 2))) (pe_lst (pa_cons (pe_ix (ix_U hu) (pv 5) (pv 6) (fun _ _ => rfl)) pa_nil))) (pe_slice sl_U (pv 5) (po_some (pv 2)) po_none))))) pss_nil)
      (pss_cons (ps_asg (pe_tup (pa_cons (pe_ix (ix_U hu) (pv 5) (pv 6) (fun _ _ => rfl)) (pa_cons (pe_ix (ix_U hu) (pv 5) (pv 2) (fun _ _ => rfl)) pa_nil))) (pg_unp rfl (pgs_cons (pg_sub (pv 5) (pv 2) set_list) (pgs_cons (pg_sub (pv 5) (pv 6) set_list) pgs_nil))))
      (pss_one (ps_ret (pe_joinU pe_str (pv 5))))))))))))
theorem d_Lright (T : Tx K mg) : FnOk P w K mg base CX0 10 T.a_Lright T.fd_Lright ["_law_box_here"] (sp_Lright K) := by
  refine T.F_Lright.ok sc_Lright l_Lright (fun cdv A outer s H vs Q E hr h => ⟨t_Lright K, PSs.nox ?_, r_Lright vs H Q E h⟩)
  have hu := hu_room hr
  exact (pss_cons (ps_asg (pe_tup (pa_cons (pe_call (d_Lwired T) (hr.mono (by decide)) (by rfl) T.g_Lwired T.F_Lwired.kp T.b_Lwired .nil pass0 (pa_cons (pv 0) (pa_cons pe_int (pa_cons pe_int pa_nil)))) (pa_cons (pe_call (d_Lnames T) (hr.mono (by decide)) (by rfl) T.g_Lnames T.F_Lnames.kp T.b_Lnames .nil pass0 (pa_cons (pv 0) (pa_cons pe_int pa_nil))) pa_nil))) (pg_unp rfl (pgs_cons (pg_name (i := 1) sc_Lright.nd rfl (Or.inl rfl)) (pgs_cons (pg_name (i := 2) sc_Lright.nd rfl (Or.inr rfl)) pgs_nil))))
      (pss_cons (ps_setLc (i := 3) (own := [("_law_turn", 7)]) rfl sc_Lright.nd rfl rfl (sw_true rfl rfl rfl (by decide +kernel)) (pi_range1 (by rfl) T.m_range (pa_cons (pe_call (d_Ltake T) (hr.mono (by decide)) (by rfl) T.g_Ltake T.F_Ltake.kp T.b_Ltake .nil pass0 (pa_cons (pv 0) (pa_cons pe_int pa_nil))) pa_nil)) (blkOk_by (own := [("_law_turn", 7)]) (N := N_Lright) (sc := defScope s_Lright) (by decide +kernel)) (fun _ _ _ _ _ => (pg_name (i := 7) sc_Lright.nd rfl (by first | exact Or.inl rfl | exact Or.inr rfl))) (fun _ _ _ _ _ => pts_nil) (fun _ _ _ _ _ => (pe_call (d_Lof T) (hr.mono (by decide)) (by rfl) T.g_Lof T.F_Lof.kp T.b_Lof .nil pass0 (pa_cons (pv 0) (pa_cons (pv 2) pa_nil)))))
      (pss_cons (ps_set (i := 4) sc_Lright.nd rfl (Or.inl rfl) (pe_lst (pa_cons (pe_call (d_Lpage T) (hr.mono (by decide)) (by rfl) T.g_Lpage T.F_Lpage.kp T.b_Lpage .nil pass0 (pa_cons (pv 1) pa_nil)) (pa_cons (pe_ifExp (pt_cmpR (op_neP hu) (pv 3) (pe_lst pa_nil) (nomark _)) (pe_joinU pe_str (pv 3)) pe_str) pa_nil))))
      (pss_cons (ps_set (i := 5) sc_Lright.nd rfl (Or.inl rfl) (pe_lst (pa_cons (pe_call (d_panel_text T) (hr.mono (by decide)) (by rfl) T.g_panel_text T.F_panel_text.kp T.b_panel_text .nil pass0 (pa_cons (pv 1) pa_nil)) (pa_cons (pe_callK0_1 (d_panel_text T) (hr.mono (by decide)) (by rfl) T.g_panel_text T.F_panel_text.kp T.kw_panel_text_0 pass0 (pk_cons (pe_call (d_Llists T) (hr.mono (by decide)) (by rfl) T.g_Llists T.F_Llists.kp T.b_Llists .nil pass0 (pa_cons (pv 1) pa_nil)) pk_nil)) (pa_cons (pe_call (d_names_text T) (hr.mono (by decide)) (by rfl) T.g_names_text T.F_names_text.kp T.b_names_text .nil pass0 (pa_cons (pv 3) pa_nil)) (pa_cons (pe_callK0_1 (d_names_text T) (hr.mono (by decide)) (by rfl) T.g_names_text T.F_names_text.kp T.kw_names_text_0 pass0 (pk_cons (pe_callTy call_tupleU (by rfl) T.m_tuple (by decide +kernel) (pa_cons (pv 3) pa_nil)) pk_nil)) pa_nil))))))
      (pss_cons (ps_if (pt_not (pt_val (pe_call (d_Lsame T) (hr.mono (by decide)) (by rfl) T.g_Lsame T.F_Lsame.kp T.b_Lsame .nil pass0 (pa_cons (pv 5) (pa_cons (pe_lst (pa_cons (pe_ix (ix_U hu) (pv 4) pe_int (fun _ _ => rfl)) (pa_cons (pe_ix (ix_U hu) (pv 4) pe_int (fun _ _ => rfl)) (pa_cons (pe_ix (ix_U hu) (pv 4) pe_int (fun _ _ => rfl)) (pa_cons (pe_ix (ix_U hu) (pv 4) pe_int (fun _ _ => rfl)) pa_nil))))) pa_nil))))) (pss_one (ps_ret pe_bl)) pss_nil)
      (pss_cons (ps_if (pt_not (pt_val (pe_call (d_Lsame T) (hr.mono (by decide)) (by rfl) T.g_Lsame T.F_Lsame.kp T.b_Lsame .nil pass0 (pa_cons (pe_lst (pa_cons (pe_callK0_1 (d_panel_in T) (hr.mono (by decide)) (by rfl) T.g_panel_in T.F_panel_in.kp T.kw_panel_in_0 pass0 (pk_cons (pe_ix (ix_U hu) (pv 4) pe_int (fun _ _ => rfl)) pk_nil)) (pa_cons (pe_callK0_1 (d_names_inF T) (hr.mono (by decide)) (by rfl) T.g_names_inF T.F_names_inF.kp T.kw_names_inF_0 pass0 (pk_cons (pe_ix (ix_U hu) (pv 4) pe_int (fun _ _ => rfl)) pk_nil)) pa_nil))) (pa_cons (pe_lst (pa_cons (pv 1) (pa_cons (pv 3) pa_nil))) pa_nil))))) (pss_one (ps_ret pe_bl)) pss_nil)
      (pss_cons (ps_expr (pe_bm PySem.F.plainAttrs_list PySem.F.slot_list_append PySem.F.type_list_append mt_append (pe_call (d_names_inF T) (hr.mono (by decide)) (by rfl) T.g_names_inF T.F_names_inF.kp T.b_names_inF .nil pass0 (pa_cons (pe_ix (ix_U hu) (pv 4) pe_int (fun _ _ => rfl)) pa_nil)) (pa_cons pe_str pa_nil)))
      (pss_cons (ps_set (i := 6) sc_Lright.nd rfl (Or.inl rfl) (pe_lst (pa_cons pe_str (pa_cons pe_str (pa_cons pe_str (pa_cons pe_str (pa_cons pe_str (pa_cons pe_str (pa_cons pe_str (pa_cons pe_str (pa_cons pe_str (pa_cons pe_str (pa_cons pe_str (pa_cons pe_str pa_nil))))))))))))))
      (pss_cons (ps_set (i := 6) sc_Lright.nd rfl (Or.inl rfl) (pe_op op_addU (pv 6) (pe_lst (pa_cons pe_str (pa_cons pe_str (pa_cons pe_str (pa_cons pe_str (pa_cons pe_str (pa_cons pe_str (pa_cons pe_str (pa_cons pe_str pa_nil)))))))))))
      (pss_cons (ps_set (i := 6) sc_Lright.nd rfl (Or.inl rfl) (pe_op op_addU (pv 6) (pe_lst (pa_cons pe_str pa_nil))))
      (pss_cons (ps_set (i := 6) sc_Lright.nd rfl (Or.inl rfl) (pe_op op_addU (pv 6) (pe_lst (pa_cons pe_str (pa_cons pe_str (pa_cons pe_str (pa_cons pe_str (pa_cons pe_str (pa_cons pe_str (pa_cons pe_str (pa_cons pe_str (pa_cons pe_str (pa_cons pe_str pa_nil)))))))))))))
      (pss_cons (ps_for PassesOwn.never rfl (pi_range1 (by rfl) T.m_range (pa_cons pe_int pa_nil)) (pg_name (i := 7) sc_Lright.nd rfl (Or.inl rfl)) (pss_cons (ps_set (i := 8) sc_Lright.nd rfl (Or.inl rfl) (pe_call (d_Lchanged T) (hr.mono (by decide)) (by rfl) T.g_Lchanged T.F_Lchanged.kp T.b_Lchanged .nil pass0 (pa_cons (pv 0) (pa_cons (pe_ix (ix_U hu) (pv 4) (pe_op op_mod (pv 7) pe_int) (fun _ _ => rfl)) pa_nil))))
      (pss_one (ps_expr (pe_bm PySem.F.plainAttrs_list PySem.F.slot_list_append PySem.F.type_list_append mt_append (pv 6) (pa_cons (pe_ifExp (pt_cmpR (op_eqP hu) (pe_call (d_Ltake T) (hr.mono (by decide)) (by rfl) T.g_Ltake T.F_Ltake.kp T.b_Ltake .nil pass0 (pa_cons (pv 0) (pa_cons pe_int pa_nil))) pe_int (nomark _)) (pe_call (d_Lchanged T) (hr.mono (by decide)) (by rfl) T.g_Lchanged T.F_Lchanged.kp T.b_Lchanged .nil pass0 (pa_cons (pv 0) (pa_cons (pv 8) pa_nil))) (pv 8)) pa_nil))))))
      (pss_cons (ps_for PassesOwn.never rfl (pi_seq (pe_op op_addU (pv 6) (pv 4))) (pg_name (i := 8) sc_Lright.nd rfl (Or.inl rfl)) (pss_cons (ps_set (i := 9) sc_Lright.nd rfl (Or.inl rfl) (pe_lst (pa_cons (pe_call (d_Lpanel_of T) (hr.mono (by decide)) (by rfl) T.g_Lpanel_of T.F_Lpanel_of.kp T.b_Lpanel_of .nil pass0 (pa_cons (pv 8) pa_nil)) (pa_cons (pe_call (d_Lnames_of T) (hr.mono (by decide)) (by rfl) T.g_Lnames_of T.F_Lnames_of.kp T.b_Lnames_of .nil pass0 (pa_cons (pv 8) pa_nil)) pa_nil))))
      (pss_one (ps_if (pt_not (pt_val (pe_call (d_Lsame T) (hr.mono (by decide)) (by rfl) T.g_Lsame T.F_Lsame.kp T.b_Lsame .nil pass0 (pa_cons (pe_lst (pa_cons (pe_call (d_Lread T) (hr.mono (by decide)) (by rfl) T.g_Lread T.F_Lread.kp T.b_Lread .nil pass0 (pa_cons (pv 8) (pa_cons pe_int pa_nil))) (pa_cons (pe_call (d_Lread T) (hr.mono (by decide)) (by rfl) T.g_Lread T.F_Lread.kp T.b_Lread .nil pass0 (pa_cons (pv 8) (pa_cons pe_int pa_nil))) pa_nil))) (pa_cons (pv 9) pa_nil))))) (pss_one (ps_ret pe_bl)) pss_nil))))
      (pss_one (ps_ret pe_bl)))))))))))))))
theorem d_law (T : Tx K mg) : FnOk P w K mg base CX0 11 T.a_law T.fd_law ["_law_script"] (sp_law K) := by
  refine T.F_law.ok sc_law l_law (fun cdv A outer s H vs Q E hr h => ⟨t_law K, PSs.nox ?_, r_law vs H Q E h⟩)
  have hu := hu_room hr
  exact (pss_one (ps_ret (pe_callB (cr_all rfl) (by rfl) T.m_all (by decide +kernel) (pa_cons (pe_lc (own := [("_law_k", 1)]) rfl sc_law.nd (pi_range1 (by rfl) T.m_range (pa_cons (pe_op op_addU pe_int (pe_callB (cr_minU rfl) (by rfl) T.m_min (by decide +kernel) (pa_cons pe_int (pa_cons (pe_callB call_lenU (by rfl) T.m_len (by decide +kernel) (pa_cons (pv 0) pa_nil)) pa_nil)))) pa_nil)) (blkOk_by (own := [("_law_k", 1)]) (N := N_law) (sc := defScope s_law) (by decide +kernel)) (fun _ _ _ _ _ => (pg_name (i := 1) sc_law.nd rfl (by first | exact Or.inl rfl | exact Or.inr rfl))) (fun _ _ _ _ _ => pts_nil) (fun _ _ _ _ _ => (pe_call (d_Lright T) (hr.mono (by decide)) (by rfl) T.g_Lright T.F_Lright.kp T.b_Lright .nil pass0 (pa_cons (pe_call (d_Lbox T) (hr.mono (by decide)) (by rfl) T.g_Lbox T.F_Lbox.kp T.b_Lbox .nil pass0 (pa_cons (pv 0) (pa_cons (pv 1) pa_nil))) pa_nil)))) pa_nil))))
end
def D_is_name : He.DefD := ⟨("is_name", none), "is_name", "is_name", defArgs s_is_name, defBody s_is_name, defScope s_is_name, [], []⟩
def D_names_text : He.DefD := ⟨("names_text", none), "names_text", "names_text", defArgs s_names_text, defBody s_names_text, defScope s_names_text, [], []⟩
def D_names_inXF : He.DefD := ⟨("names_in", none), "names_in", "names_in", defArgs s_names_inXF, defBody s_names_inXF, defScope s_names_inXF, [], []⟩
def D_panel_text : He.DefD := ⟨("panel_text", none), "panel_text", "panel_text", defArgs s_panel_text, defBody s_panel_text, defScope s_panel_text, [], []⟩
def D_Reading_init : He.DefD := ⟨("Reading", some "__init__"), "__init__", "Reading.__init__", defArgs s_Reading_init, defBody s_Reading_init, defScope s_Reading_init, [], []⟩
def D_Reading_takes_switch : He.DefD := ⟨("Reading", some "takes_switch"), "takes_switch", "Reading.takes_switch", defArgs s_Reading_takes_switch, defBody s_Reading_takes_switch, defScope s_Reading_takes_switch, [], []⟩
def D_Reading_takes_pair : He.DefD := ⟨("Reading", some "takes_pair"), "takes_pair", "Reading.takes_pair", defArgs s_Reading_takes_pair, defBody s_Reading_takes_pair, defScope s_Reading_takes_pair, [], []⟩
def D_Reading_takes : He.DefD := ⟨("Reading", some "takes"), "takes", "Reading.takes", defArgs s_Reading_takes, defBody s_Reading_takes, defScope s_Reading_takes, [], []⟩
def D_Reading_is_whole : He.DefD := ⟨("Reading", some "is_whole"), "is_whole", "Reading.is_whole", defArgs s_Reading_is_whole, defBody s_Reading_is_whole, defScope s_Reading_is_whole, [], []⟩
def D_panel_inX : He.DefD := ⟨("panel_in", none), "panel_in", "panel_in", defArgs s_panel_inX, defBody s_panel_inX, defScope s_panel_inX, [], []⟩
def D_Lcell_at : He.DefD := ⟨("_law_cell_at", none), "_law_cell_at", "_law_cell_at", defArgs s_Lcell_at, defBody s_Lcell_at, defScope s_Lcell_at, [], []⟩
def D_Lbox : He.DefD := ⟨("_law_box", none), "_law_box", "_law_box", defArgs s_Lbox, defBody s_Lbox, defScope s_Lbox, [], []⟩
def D_Ltake : He.DefD := ⟨("_law_take", none), "_law_take", "_law_take", defArgs s_Ltake, defBody s_Ltake, defScope s_Ltake, [], []⟩
def D_Lof : He.DefD := ⟨("_law_of", none), "_law_of", "_law_of", defArgs s_Lof, defBody s_Lof, defScope s_Lof, [], []⟩
def D_Lsame : He.DefD := ⟨("_law_same", none), "_law_same", "_law_same", defArgs s_Lsame, defBody s_Lsame, defScope s_Lsame, [], []⟩
def D_Llists : He.DefD := ⟨("_law_lists", none), "_law_lists", "_law_lists", defArgs s_Llists, defBody s_Llists, defScope s_Llists, [], []⟩
def D_Lstrewn : He.DefD := ⟨("_law_strewn", none), "_law_strewn", "_law_strewn", defArgs s_Lstrewn, defBody s_Lstrewn, defScope s_Lstrewn, [], []⟩
def D_Lnames : He.DefD := ⟨("_law_names", none), "_law_names", "_law_names", defArgs s_Lnames, defBody s_Lnames, defScope s_Lnames, [], []⟩
def D_Ltied : He.DefD := ⟨("_law_tied", none), "_law_tied", "_law_tied", defArgs s_Ltied, defBody s_Ltied, defScope s_Ltied, [], []⟩
def D_Lwired : He.DefD := ⟨("_law_wired", none), "_law_wired", "_law_wired", defArgs s_Lwired, defBody s_Lwired, defScope s_Lwired, [], []⟩
def D_Lpage : He.DefD := ⟨("_law_page", none), "_law_page", "_law_page", defArgs s_Lpage, defBody s_Lpage, defScope s_Lpage, [], []⟩
def D_Lis_name : He.DefD := ⟨("_law_is_name", none), "_law_is_name", "_law_is_name", defArgs s_Lis_name, defBody s_Lis_name, defScope s_Lis_name, [], []⟩
def D_Lnames_of : He.DefD := ⟨("_law_names_of", none), "_law_names_of", "_law_names_of", defArgs s_Lnames_of, defBody s_Lnames_of, defScope s_Lnames_of, [], []⟩
def D_Lpanel_of : He.DefD := ⟨("_law_panel_of", none), "_law_panel_of", "_law_panel_of", defArgs s_Lpanel_of, defBody s_Lpanel_of, defScope s_Lpanel_of, [], []⟩
def D_Lread : He.DefD := ⟨("_law_read", none), "_law_read", "_law_read", defArgs s_Lread, defBody s_Lread, defScope s_Lread, [], []⟩
def D_Lchanged : He.DefD := ⟨("_law_changed", none), "_law_changed", "_law_changed", defArgs s_Lchanged, defBody s_Lchanged, defScope s_Lchanged, [], []⟩
def D_Lright : He.DefD := ⟨("_law_right", none), "_law_right", "_law_right", defArgs s_Lright, defBody s_Lright, defScope s_Lright, [], []⟩
def D_law : He.DefD := ⟨("law", none), "law", "law", defArgs s_law, defBody s_law, defScope s_law, [], []⟩
def D_init_BadText : He.DefD := ⟨("BadText", some "__init__"), "__init__", "BadText.__init__", defArgs s_init_BadText, defBody s_init_BadText, defScope s_init_BadText, [], []⟩
def D_init_BadRow : He.DefD := ⟨("BadRow", some "__init__"), "__init__", "BadRow.__init__", defArgs s_init_BadRow, defBody s_init_BadRow, defScope s_init_BadRow, [], []⟩
def fn : List He.DefD := [D_is_name, D_names_text, D_names_inXF, D_panel_text, D_Reading_init, D_Reading_takes_switch, D_Reading_takes_pair, D_Reading_takes, D_Reading_is_whole, D_panel_inX, D_Lcell_at, D_Lbox, D_Ltake, D_Lof, D_Lsame, D_Llists, D_Lstrewn, D_Lnames, D_Ltied, D_Lwired, D_Lpage, D_Lis_name, D_Lnames_of, D_Lpanel_of, D_Lread, D_Lchanged, D_Lright, D_law, D_init_BadText, D_init_BadRow]
def fa : List He.Fa := [.glo "is_name", .glo "names_text", .glo "names_in", .glo "panel_text", .mkr "Reading", .meth "Reading" "takes_switch", .meth "Reading" "takes_pair", .meth "Reading" "takes", .meth "Reading" "is_whole", .glo "panel_in", .glo "_law_cell_at", .glo "_law_box", .glo "_law_take", .glo "_law_of", .glo "_law_same", .glo "_law_lists", .glo "_law_strewn", .glo "_law_names", .glo "_law_tied", .glo "_law_wired", .glo "_law_page", .glo "_law_is_name", .glo "_law_names_of", .glo "_law_panel_of", .glo "_law_read", .glo "_law_changed", .glo "_law_right", .glo "law", .free "ValueError", .free "abs", .free "all", .free "bool", .free "enumerate", .free "int", .free "isinstance", .free "len", .free "list", .free "max", .free "min", .free "range", .free "set", .free "sorted", .free "str", .free "tuple", .free "zip", .int "MOST_LETTERS" 6, .str "BLANK" " ", .str "HYPHEN" "-", .str "LETTERS" "abcdefghijklmnopqrstuvwxyz", .str "PARTING" "/", .glo "BadText", .glo "BadRow", .cls "Reading", .glo "Reading", .noat "Reading" "switches", .noat "Reading" "exclusions", .noat "Reading" "is_parted", .noat "Reading" "is_closed"]
def loose : List Str := (["BadText", "BadRow", "is_name", "names_text", "names_in", "panel_text", "Reading", "panel_in", "_law_cell_at", "_law_box", "_law_take", "_law_of", "_law_same", "_law_lists", "_law_strewn", "_law_names", "_law_tied", "_law_wired", "_law_page", "_law_is_name"] : List Str) ++ (["_law_names_of", "_law_panel_of", "_law_read", "_law_changed", "_law_right", "LETTERS", "MOST_LETTERS", "PARTING", "HYPHEN", "BLANK"] : List Str)
abbrev R : PySem.W.OpenRow := PySem.W.OpenLaw.row PySem.Challenge.rw_offbyon_k87_panels_and_names_as_texts
def tf : List He.Defn := []
abbrev hk : PySem.W.Hook := He.hookX 5 fa fn [] tf (okX rows87)
def ob (s : PySem.W.SharedT) : He.AlX := He.obsX 5 fa fn [] tf (okX rows87) (HandSHeadRun.getT s)
theorem ob_eq (s : PySem.W.SharedT) : ob s = hk.obs s.abs := He.obsX_eq (HandSHeadRun.getT_eq s)
theorem run (w : World) : HandSHeadRun.RunEq R (PySem.W.view R.prog [34]) hk ob 40000 loose w := by
  intro os
  kernel_rfl
theorem facts {P : Program} {w : World} {K : PySem.W.Frag} {h : Heap} {mg : Str → Option Value} {f : Addr} (X : K.In h) (G : h.Ns mainGlobals mg) (hfa : mg ("law" : Str) = some (.ref f)) (c : He.SaysD fa fn K) (cm : (okX rows87) K = true) :
    ∃ fd : FuncData, (∀ (s : Shared) (v : Value), BindsTo s fd ⟨[v], []⟩ [("_law_script", v)]) ∧ ∀ base : Heap, K.In base → base.Ns mainGlobals mg → FnOk P w K mg base CX0 11 f fd ["_law_script"] (sp_law K) := by
  obtain ⟨fd_is_name, F_is_name⟩ := c.def_ 0 (d := D_is_name) rfl
  obtain ⟨fd_names_text, F_names_text⟩ := c.def_ 1 (d := D_names_text) rfl
  obtain ⟨fd_names_inXF, F_names_inXF⟩ := c.def_ 2 (d := D_names_inXF) rfl
  obtain ⟨fd_panel_text, F_panel_text⟩ := c.def_ 3 (d := D_panel_text) rfl
  obtain ⟨fd_Reading_init, F_Reading_init⟩ := c.def_ 4 (d := D_Reading_init) rfl
  obtain ⟨fd_Reading_takes_switch, F_Reading_takes_switch⟩ := c.def_ 5 (d := D_Reading_takes_switch) rfl
  obtain ⟨fd_Reading_takes_pair, F_Reading_takes_pair⟩ := c.def_ 6 (d := D_Reading_takes_pair) rfl
  obtain ⟨fd_Reading_takes, F_Reading_takes⟩ := c.def_ 7 (d := D_Reading_takes) rfl
  obtain ⟨fd_Reading_is_whole, F_Reading_is_whole⟩ := c.def_ 8 (d := D_Reading_is_whole) rfl
  obtain ⟨fd_panel_inX, F_panel_inX⟩ := c.def_ 9 (d := D_panel_inX) rfl
  obtain ⟨fd_Lcell_at, F_Lcell_at⟩ := c.def_ 10 (d := D_Lcell_at) rfl
  obtain ⟨fd_Lbox, F_Lbox⟩ := c.def_ 11 (d := D_Lbox) rfl
  obtain ⟨fd_Ltake, F_Ltake⟩ := c.def_ 12 (d := D_Ltake) rfl
  obtain ⟨fd_Lof, F_Lof⟩ := c.def_ 13 (d := D_Lof) rfl
  obtain ⟨fd_Lsame, F_Lsame⟩ := c.def_ 14 (d := D_Lsame) rfl
  obtain ⟨fd_Llists, F_Llists⟩ := c.def_ 15 (d := D_Llists) rfl
  obtain ⟨fd_Lstrewn, F_Lstrewn⟩ := c.def_ 16 (d := D_Lstrewn) rfl
  obtain ⟨fd_Lnames, F_Lnames⟩ := c.def_ 17 (d := D_Lnames) rfl
  obtain ⟨fd_Ltied, F_Ltied⟩ := c.def_ 18 (d := D_Ltied) rfl
  obtain ⟨fd_Lwired, F_Lwired⟩ := c.def_ 19 (d := D_Lwired) rfl
  obtain ⟨fd_Lpage, F_Lpage⟩ := c.def_ 20 (d := D_Lpage) rfl
  obtain ⟨fd_Lis_name, F_Lis_name⟩ := c.def_ 21 (d := D_Lis_name) rfl
  obtain ⟨fd_Lnames_of, F_Lnames_of⟩ := c.def_ 22 (d := D_Lnames_of) rfl
  obtain ⟨fd_Lpanel_of, F_Lpanel_of⟩ := c.def_ 23 (d := D_Lpanel_of) rfl
  obtain ⟨fd_Lread, F_Lread⟩ := c.def_ 24 (d := D_Lread) rfl
  obtain ⟨fd_Lchanged, F_Lchanged⟩ := c.def_ 25 (d := D_Lchanged) rfl
  obtain ⟨fd_Lright, F_Lright⟩ := c.def_ 26 (d := D_Lright) rfl
  obtain ⟨fd_law, F_law⟩ := c.def_ 27 (d := D_law) rfl
  have e := hfa.symm.trans (He.glo_ok X G (c.fact 27 (f := .glo "law") rfl))
  cases e
  obtain ⟨fd_init_BadText, F_init_BadText⟩ := c.def_ 28 (d := D_init_BadText) rfl
  obtain ⟨fd_init_BadRow, F_init_BadRow⟩ := c.def_ 29 (d := D_init_BadRow) rfl
  obtain ⟨u_MOST_LETTERS, hu_MOST_LETTERS⟩ := He.int_ok X G (c.fact 45 (f := .int "MOST_LETTERS" 6) rfl)
  obtain ⟨u_BLANK, hu_BLANK⟩ := He.str_ok X G (c.fact 46 (f := .str "BLANK" " ") rfl)
  obtain ⟨u_HYPHEN, hu_HYPHEN⟩ := He.str_ok X G (c.fact 47 (f := .str "HYPHEN" "-") rfl)
  obtain ⟨u_LETTERS, hu_LETTERS⟩ := He.str_ok X G (c.fact 48 (f := .str "LETTERS" "abcdefghijklmnopqrstuvwxyz") rfl)
  obtain ⟨u_PARTING, hu_PARTING⟩ := He.str_ok X G (c.fact 49 (f := .str "PARTING" "/") rfl)
  have b := FunD.bindsA (ps := ["_law_script"]) F_law fun _ _ _ _ _ _ us hl => match us, hl with | [_], _ => rfl
  exact ⟨fd_law, fun s v => b s [v] rfl, fun base _ _ => d_law (⟨⟨He.ga K "Reading", He.cls_ok (c.fact 52 (f := .cls "Reading") rfl), no_cons (He.noat_ok (c.fact 54 (f := .noat "Reading" "switches") rfl)) (no_cons (He.noat_ok (c.fact 55 (f := .noat "Reading" "exclusions") rfl)) (no_cons (He.noat_ok (c.fact 56 (f := .noat "Reading" "is_parted") rfl)) (no_cons (He.noat_ok (c.fact 57 (f := .noat "Reading" "is_closed") rfl)) (no_nil))))⟩, He.glo_ok X G (c.fact 53 (f := .glo "Reading") rfl),
    _, fd_is_name, F_is_name, He.glo_ok X G (c.fact 0 (f := .glo "is_name") rfl), FunD.bindsN F_is_name (fun _ _ _ _ _ _ us hl => match us, hl with | [_], _ => rfl),
    _, fd_names_text, F_names_text, He.glo_ok X G (c.fact 1 (f := .glo "names_text") rfl), FunD.bindsN F_names_text (fun _ _ _ _ _ _ us hl => match us, hl with | [_], _ => rfl),
    kbinds0 (ps := ["names"]) F_names_text ["names"] [0] (fun _ _ _ _ _ _ ws hl => match ws, hl with | [_], _ => rfl),
    _, fd_names_inXF, F_names_inXF, He.glo_ok X G (c.fact 2 (f := .glo "names_in") rfl), FunD.bindsN F_names_inXF (fun _ _ _ _ _ _ us hl => match us, hl with | [_], _ => rfl),
    kbinds0 (ps := ["text"]) F_names_inXF ["text"] [0] (fun _ _ _ _ _ _ ws hl => match ws, hl with | [_], _ => rfl),
    _, fd_panel_text, F_panel_text, He.glo_ok X G (c.fact 3 (f := .glo "panel_text") rfl), FunD.bindsN F_panel_text (fun _ _ _ _ _ _ us hl => match us, hl with | [_], _ => rfl),
    kbinds0 (ps := ["panel"]) F_panel_text ["panel"] [0] (fun _ _ _ _ _ _ ws hl => match ws, hl with | [_], _ => rfl),
    _, fd_Reading_init, F_Reading_init, He.mkr_ok (c.fact 4 (f := .mkr "Reading") rfl), FunD.bindsN F_Reading_init (fun _ _ _ _ _ _ us hl => match us, hl with | [_], _ => rfl),
    _, fd_Reading_takes_switch, F_Reading_takes_switch, He.meth_ok (c.fact 5 (f := .meth "Reading" "takes_switch") rfl), FunD.bindsN F_Reading_takes_switch (fun _ _ _ _ _ _ us hl => match us, hl with | [_, _], _ => rfl),
    _, fd_Reading_takes_pair, F_Reading_takes_pair, He.meth_ok (c.fact 6 (f := .meth "Reading" "takes_pair") rfl), FunD.bindsN F_Reading_takes_pair (fun _ _ _ _ _ _ us hl => match us, hl with | [_, _], _ => rfl),
    _, fd_Reading_takes, F_Reading_takes, He.meth_ok (c.fact 7 (f := .meth "Reading" "takes") rfl), FunD.bindsN F_Reading_takes (fun _ _ _ _ _ _ us hl => match us, hl with | [_, _], _ => rfl),
    _, fd_Reading_is_whole, F_Reading_is_whole, He.meth_ok (c.fact 8 (f := .meth "Reading" "is_whole") rfl), FunD.bindsN F_Reading_is_whole (fun _ _ _ _ _ _ us hl => match us, hl with | [_], _ => rfl),
    _, fd_panel_inX, F_panel_inX, He.glo_ok X G (c.fact 9 (f := .glo "panel_in") rfl), FunD.bindsN F_panel_inX (fun _ _ _ _ _ _ us hl => match us, hl with | [_], _ => rfl),
    kbinds0 (ps := ["text"]) F_panel_inX ["text"] [0] (fun _ _ _ _ _ _ ws hl => match ws, hl with | [_], _ => rfl),
    _, fd_Lcell_at, F_Lcell_at, He.glo_ok X G (c.fact 10 (f := .glo "_law_cell_at") rfl), FunD.bindsN F_Lcell_at (fun _ _ _ _ _ _ us hl => match us, hl with | [_, _], _ => rfl),
    _, fd_Lbox, F_Lbox, He.glo_ok X G (c.fact 11 (f := .glo "_law_box") rfl), FunD.bindsN F_Lbox (fun _ _ _ _ _ _ us hl => match us, hl with | [_, _], _ => rfl),
    _, fd_Ltake, F_Ltake, He.glo_ok X G (c.fact 12 (f := .glo "_law_take") rfl), FunD.bindsN F_Ltake (fun _ _ _ _ _ _ us hl => match us, hl with | [_, _], _ => rfl),
    _, fd_Lof, F_Lof, He.glo_ok X G (c.fact 13 (f := .glo "_law_of") rfl), FunD.bindsN F_Lof (fun _ _ _ _ _ _ us hl => match us, hl with | [_, _], _ => rfl),
    _, fd_Lsame, F_Lsame, He.glo_ok X G (c.fact 14 (f := .glo "_law_same") rfl), FunD.bindsN F_Lsame (fun _ _ _ _ _ _ us hl => match us, hl with | [_, _], _ => rfl),
    _, fd_Llists, F_Llists, He.glo_ok X G (c.fact 15 (f := .glo "_law_lists") rfl), FunD.bindsN F_Llists (fun _ _ _ _ _ _ us hl => match us, hl with | [_], _ => rfl),
    _, fd_Lstrewn, F_Lstrewn, He.glo_ok X G (c.fact 16 (f := .glo "_law_strewn") rfl), FunD.bindsN F_Lstrewn (fun _ _ _ _ _ _ us hl => match us, hl with | [_, _], _ => rfl),
    _, fd_Lnames, F_Lnames, He.glo_ok X G (c.fact 17 (f := .glo "_law_names") rfl), FunD.bindsN F_Lnames (fun _ _ _ _ _ _ us hl => match us, hl with | [_, _], _ => rfl),
    _, fd_Ltied, F_Ltied, He.glo_ok X G (c.fact 18 (f := .glo "_law_tied") rfl), FunD.bindsN F_Ltied (fun _ _ _ _ _ _ us hl => match us, hl with | [_, _], _ => rfl),
    _, fd_Lwired, F_Lwired, He.glo_ok X G (c.fact 19 (f := .glo "_law_wired") rfl), FunD.bindsN F_Lwired (fun _ _ _ _ _ _ us hl => match us, hl with | [_, _, _], _ => rfl),
    _, fd_Lpage, F_Lpage, He.glo_ok X G (c.fact 20 (f := .glo "_law_page") rfl), FunD.bindsN F_Lpage (fun _ _ _ _ _ _ us hl => match us, hl with | [_], _ => rfl),
    _, fd_Lis_name, F_Lis_name, He.glo_ok X G (c.fact 21 (f := .glo "_law_is_name") rfl), FunD.bindsN F_Lis_name (fun _ _ _ _ _ _ us hl => match us, hl with | [_], _ => rfl),
    _, fd_Lnames_of, F_Lnames_of, He.glo_ok X G (c.fact 22 (f := .glo "_law_names_of") rfl), FunD.bindsN F_Lnames_of (fun _ _ _ _ _ _ us hl => match us, hl with | [_], _ => rfl),
    _, fd_Lpanel_of, F_Lpanel_of, He.glo_ok X G (c.fact 23 (f := .glo "_law_panel_of") rfl), FunD.bindsN F_Lpanel_of (fun _ _ _ _ _ _ us hl => match us, hl with | [_], _ => rfl),
    _, fd_Lread, F_Lread, He.glo_ok X G (c.fact 24 (f := .glo "_law_read") rfl), FunD.bindsN F_Lread (fun _ _ _ _ _ _ us hl => match us, hl with | [_, _], _ => rfl),
    _, fd_Lchanged, F_Lchanged, He.glo_ok X G (c.fact 25 (f := .glo "_law_changed") rfl), FunD.bindsN F_Lchanged (fun _ _ _ _ _ _ us hl => match us, hl with | [_, _], _ => rfl),
    _, fd_Lright, F_Lright, He.glo_ok X G (c.fact 26 (f := .glo "_law_right") rfl), FunD.bindsN F_Lright (fun _ _ _ _ _ _ us hl => match us, hl with | [_], _ => rfl),
    _, fd_law, F_law, He.glo_ok X G (c.fact 27 (f := .glo "law") rfl), FunD.bindsN F_law (fun _ _ _ _ _ _ us hl => match us, hl with | [_], _ => rfl),
    cm,
    He.glo_ok X G (c.fact 50 (f := .glo "BadText") rfl),
    fd_init_BadText,
    F_init_BadText,
    FunD.bindsN F_init_BadText (fun _ _ _ _ _ _ us hl => match us, hl with | [_, _], _ => rfl),
    kbindsN (ps := ["self", "at"]) F_init_BadText 1 ["at"] (fun kV doc pm an cdv ct us ws l1 l2 => match us, ws, l1, l2 with | [_], [_], _, _ => rfl),
    He.glo_ok X G (c.fact 51 (f := .glo "BadRow") rfl),
    fd_init_BadRow,
    F_init_BadRow,
    FunD.bindsN F_init_BadRow (fun _ _ _ _ _ _ us hl => match us, hl with | [_, _], _ => rfl),
    kbindsN (ps := ["self", "number"]) F_init_BadRow 1 ["number"] (fun kV doc pm an cdv ct us ws l1 l2 => match us, ws, l1, l2 with | [_], [_], _, _ => rfl),
    He.free_ok X G (c.fact 28 (f := .free "ValueError") rfl),
    He.free_ok X G (c.fact 29 (f := .free "abs") rfl),
    He.free_ok X G (c.fact 30 (f := .free "all") rfl),
    He.free_ok X G (c.fact 31 (f := .free "bool") rfl),
    He.free_ok X G (c.fact 32 (f := .free "enumerate") rfl),
    He.free_ok X G (c.fact 33 (f := .free "int") rfl),
    He.free_ok X G (c.fact 34 (f := .free "isinstance") rfl),
    He.free_ok X G (c.fact 35 (f := .free "len") rfl),
    He.free_ok X G (c.fact 36 (f := .free "list") rfl),
    He.free_ok X G (c.fact 37 (f := .free "max") rfl),
    He.free_ok X G (c.fact 38 (f := .free "min") rfl),
    He.free_ok X G (c.fact 39 (f := .free "range") rfl),
    He.free_ok X G (c.fact 40 (f := .free "set") rfl),
    He.free_ok X G (c.fact 41 (f := .free "sorted") rfl),
    He.free_ok X G (c.fact 42 (f := .free "str") rfl),
    He.free_ok X G (c.fact 43 (f := .free "tuple") rfl),
    He.free_ok X G (c.fact 44 (f := .free "zip") rfl),
    ⟨u_MOST_LETTERS, hu_MOST_LETTERS⟩,
    ⟨u_BLANK, hu_BLANK⟩,
    ⟨u_HYPHEN, hu_HYPHEN⟩,
    ⟨u_LETTERS, hu_LETTERS⟩,
    ⟨u_PARTING, hu_PARTING⟩⟩ : Tx K mg)⟩
theorem ex_refl (H : Hp) : Ex H H := Ex.refl H
end Ob
open PySem PySem.W PySem.Calls PyProof.Rows
theorem PySem.Challenge.cw_offbyon_k87_panels_and_names_as_texts_holds : PySem.Challenge.rw_offbyon_k87_panels_and_names_as_texts.Holds := by
  w_on; o_law
  refine HandSHeadRun.head_any (r := OpenLaw.row PySem.Challenge.rw_offbyon_k87_panels_and_names_as_texts) (q := view (OpenLaw.row PySem.Challenge.rw_offbyon_k87_panels_and_names_as_texts).prog [34]) (H := Ob.hk) (ob := Ob.ob) (M := 40000) (loose := Ob.loose) (d := HandSHeadRun.topDef (OpenLaw.row PySem.Challenge.rw_offbyon_k87_panels_and_names_as_texts).prog 34) (kwd := []) Ob.ob_eq
    (by kernel_rfl) (fun s => by kernel_rfl) Ob.run (by kernel_rfl) (by kernel_rfl) (by kernel_rfl) (by rfl) (by first | assumption | decide +kernel) (by decide +kernel) ⟨rfl, rfl, rfl, rfl, rfl, by decide +kernel⟩ ?hw ?hc
  case hw => w_witness2
  case hc =>

    refine L2.walk_ofE (l := PySem.Challenge.rw_offbyon_k87_panels_and_names_as_texts) (n := 63) (k := 11) (x := "_law_script") (CX := L2.CX0) rfl (by decide) (by kernel_rfl) ⟨rfl, by decide, by decide⟩ ?F (fun _ _ _ _ z => z)
    intro w mg fa h Y G hmg0
    obtain ⟨K, KX, c⟩ := Y
    have hmg : mg ("law" : PySem.Str) = some (.ref fa) := by
      have e : (HandSHeadRun.topDef (OpenLaw.row PySem.Challenge.rw_offbyon_k87_panels_and_names_as_texts).prog 34).name = ("law" : PySem.Str) := by kernel_rfl
      rw [← e]
      exact hmg0
    obtain ⟨fd, hb, hF⟩ := Ob.facts (P := (PySem.Challenge.rw_offbyon_k87_panels_and_names_as_texts).prog) (w := w) KX G hmg c.t.d c.more
    exact ⟨K, fd, Ob.sp_law K, KX, hb, fun H a ns hl _ hS => ⟨⟨ns⟩, H, Ob.ex_refl H, ⟨_, _, rfl, ⟨a, _, rfl, .inl hS, Ob.ints_atAll ns⟩, rfl⟩, trivial, fun v B2 H2 u hv => Ob.at_bl.mp hv⟩, hF⟩
