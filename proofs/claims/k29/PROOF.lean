import PyProof.Rows.All
import Wide.All
import OpenK.AllK
import Wide.FinOn
import HandS.ForMost
import HandS.ForExc
import HandS.Evl
import HandS.Walk
import HandS.Zip
import HandS.Deep
import HandS.DictComp
import HandS.Style
import HandS.IsInst
import KE.Datum
import KE.DatumOrd
import KE.SortData
import HandS.TupAny
import HandS.NoneIn
import HandS.Defaults
import KE.GoesEnum
import KE.GoesMore
import PyProof.EnumMake
import HandS.FltList
import HandS.SetFor
import HandS.SetTxt0
import HandS.Strs
import PyProof.AutoSeq1
import HandS.Steps
import HandS.ExcIs
import HandS.ExcOwn
import HandS.ExcValue
import HandS.TryMany
import KE.KTryMore
import PyProof.ExcBaseAll.LookupError
import HandS.Lambda
import KE.SortUse
import PyProof.Rows.CallKwBuiltin
import PyProof.Rows.CallKw2
import HandS.Dict
import HandS.Small
import PyProof.Rows.TupDisplay
import HandS.HeadHook4
import HandS.ExcInit
import KE.KExcInit
import KE.KExcIs
import HandS.Codes
import PyProof.Rows.NestShow
import PyProof.Rows.ReprR
import HandS.Ends
import HandS.HeadEnd
import HandS.Text
import HandS.MakeKwOnly
import PyProof.ExcBaseAll.OverflowError
import PyProof.ExcBaseAll.RuntimeError
import KE.KxIndex
import HandS.More
import HandS.Words
import HandS.WordsExc
import HandS.Head0
import HandS.Head1
import HandS.Head2
import HandS.HeadHook1
import HandS.HeadHook2
import KE.KStateDown
import PySem.Challenge.RW_offbyon_k29_error_classes
set_option Elab.async false
set_option linter.all false
set_option maxRecDepth 100000
set_option maxHeartbeats 4000000
/-! Ob1: data with a Lean type over the layer: at_ K H v x: v holds x in the abstract heap H; Pe: a reading gives data by allocating only; walks over data; comprehensions. -/
namespace Ob
open PySem L2
open Evl (Ex)
open PySem.W (Datum Tup)
/-! ### heaps: B, what is frozen, within H, what stands -/
structure Up (B H B2 H2 : Hp) : Prop where
  bb : Ex B B2
  bh : Ex B2 H2
  hh : Ex H H2
  nw : ∀ a, B2 a ≠ none → B a ≠ none ∨ H a = none
theorem Up.refl {B H : Hp} (e : Ex B H) : Up B H B H := ⟨Ex.refl B, e, Ex.refl H, fun _ h => .inl h⟩
theorem Up.trans {B H B1 H1 B2 H2 : Hp} (a : Up B H B1 H1) (b : Up B1 H1 B2 H2) : Up B H B2 H2 :=
  ⟨a.bb.trans b.bb, b.bh, a.hh.trans b.hh, fun x h => by
    rcases b.nw x h with h | h
    · exact a.nw x h
    · refine .inr ?_
      cases q : H x with
      | none => rfl
      | some o =>
        rw [a.hh x o q] at h
        cases h⟩
/-- a new object, frozen -/
theorem Up.new {B H : Hp} {p : Addr} {o : HO} (e : Ex B H) (hp : H p = none) : Up B H (upd B p o) (upd H p o) := by
  have hb : B p = none := Evl.fresh_back e hp
  refine ⟨Ex.new hb, fun a u h => ?_, Ex.new hp, fun a h => ?_⟩
  · by_cases ha : a = p
    · subst ha
      rw [upd_same] at h ⊢
      exact h
    · rw [upd_ne ha] at h ⊢
      exact e a u h
  · by_cases ha : a = p
    · subst ha
      exact .inr hp
    · rw [upd_ne ha] at h
      exact .inl h
theorem Up.then {B H B1 H1 : Hp} {p : Addr} {o : HO} (a : Up B H B1 H1) (hp : H1 p = none) : Up B H (upd B1 p o) (upd H1 p o) := a.trans (Up.new a.bh hp)
/-- an object that is not frozen stays so, and as it was -/
theorem Up.out {B H B2 H2 : Hp} (u : Up B H B2 H2) {a : Addr} {o : HO} (hb : B a = none) (h : H a = some o) : B2 a = none ∧ H2 a = some o := by
  refine ⟨?_, u.hh a o h⟩
  cases q : B2 a with
  | none => rfl
  | some x =>
    rcases u.nw a (by rw [q]; exact fun z => nomatch z) with z | z
    · exact absurd hb z
    · rw [h] at z
      cases z
theorem ex_upd {B H : Hp} {p : Addr} {o : HO} (e : Ex B H) (hb : B p = none) : Ex B (upd H p o) := fun a u h => by
  rw [upd_ne (ne_of_none h hb)]
  exact e a u h
/-- a frozen part may take in an object that stands -/
theorem ex_in {B H : Hp} {p : Addr} {o : HO} (e : Ex B H) (h : H p = some o) : Ex (upd B p o) H := fun a u q => by
  by_cases ha : a = p
  · subst ha
    rw [upd_same] at q
    cases q
    exact h
  · rw [upd_ne ha] at q
    exact e a u q
/-! ### what reads as it did: also behind a lock or an unlock of a dict -/
def plainO : HO → Bool
  | .lst _ => true
  | .tup _ => true
  | .dK _ => true
  | .dT _ => true
  | .ext _ => true
  | _ => false
def ExR (H H' : Hp) : Prop := (∀ a u, plainO u = true → Rd H a u → Rd H' a u) ∧ (∀ a us, H a = some (.tup us) → H' a = some (.tup us)) ∧ ∀ a C dx fs, H a = some (.ins C dx fs) → H' a = some (.ins C dx fs)
theorem ExR.of {H H' : Hp} (e : Ex H H') : ExR H H' := ⟨fun _ _ _ h => Evl.ex_rd e h, fun _ _ h => e _ _ h, fun _ _ _ _ h => e _ _ h⟩
/-- a tuple that stands there as it is reads as a tuple -/
theorem ex_tx {K : PySem.W.Frag} {H H' : Hp} {a : Addr} {xs : List V} (e : Ex H H') (h : H a = some (.tup xs)) : SqT K H' a xs := Evl.st_of (e _ _ h)
theorem exr_l {K : PySem.W.Frag} {H H' : Hp} {a : Addr} {xs : List V} (e : ExR H H') (h : SqL K H a xs) : SqL K H' a xs := h.imp (fun h => e.1 a _ rfl h) id
theorem exr_t {K : PySem.W.Frag} {H H' : Hp} {a : Addr} {xs : List V} (e : ExR H H') (h : SqT K H a xs) : SqT K H' a xs := h.imp (fun h => e.1 a _ rfl h) id
/-! ### data in the heap -/
section
variable {K : PySem.W.Frag} {H H' : Hp}
mutual
theorem dp_monoR (e : ExR H H') : ∀ (d : PyData) (v : V), Dp K H v d → Dp K H' v d
  | .none, _, h => by cases h; exact .non
  | .bool _, _, h => by cases h; exact .bl _
  | .int _, _, h => by cases h; exact .int _
  | .str _, _, h => by cases h; exact .str _
  | .list ds, _, h => by
    cases h with
    | lst a b => exact .lst (exr_l e a) (dpAll_monoR e ds _ b)
  | .tuple ds, _, h => by
    cases h with
    | tup a b => exact .tup (exr_t e a) (dpAll_monoR e ds _ b)
  | .dict _, _, h => by cases h
theorem dpAll_monoR (e : ExR H H') : ∀ (ds : List PyData) (vs : List V), DpAll K H vs ds → DpAll K H' vs ds
  | [], _, h => by cases h; exact .nil
  | d :: ds, _, h => by
    cases h with
    | cons a b => exact .cons (dp_monoR e d _ a) (dpAll_monoR e ds _ b)
end
end
/-! data, each tuple as it stands -/
mutual
inductive Dq (K : PySem.W.Frag) (H : Hp) : V → PyData → Prop
  | non : Dq K H .non .none
  | bl (b : Bool) : Dq K H (.bl b) (.bool b)
  | int (i : Int) : Dq K H (.int i) (.int i)
  | str (x : Str) : Dq K H (.str x) (.str x)
  | lst {a : Addr} {xs : List V} {ds : List PyData} : SqL K H a xs → DqAll K H xs ds → Dq K H (.ref a) (.list ds)
  | tup {a : Addr} {xs : List V} {ds : List PyData} : H a = some (.tup xs) → DqAll K H xs ds → Dq K H (.ref a) (.tuple ds)
inductive DqAll (K : PySem.W.Frag) (H : Hp) : List V → List PyData → Prop
  | nil : DqAll K H [] []
  | cons {v : V} {vs : List V} {d : PyData} {ds : List PyData} : Dq K H v d → DqAll K H vs ds → DqAll K H (v :: vs) (d :: ds)
end
section
variable {K : PySem.W.Frag} {H H' : Hp}
mutual
theorem Dq.dp : ∀ (d : PyData) (v : V), Dq K H v d → Dp K H v d
  | .none, _, h => by cases h; exact .non
  | .bool _, _, h => by cases h; exact .bl _
  | .int _, _, h => by cases h; exact .int _
  | .str _, _, h => by cases h; exact .str _
  | .list ds, _, h => by
    cases h with
    | lst a b => exact .lst a (DqAll.dp ds _ b)
  | .tuple ds, _, h => by
    cases h with
    | tup a b => exact .tup (Evl.st_of a) (DqAll.dp ds _ b)
  | .dict _, _, h => by cases h
theorem DqAll.dp : ∀ (ds : List PyData) (vs : List V), DqAll K H vs ds → DpAll K H vs ds
  | [], _, h => by cases h; exact .nil
  | d :: ds, _, h => by
    cases h with
    | cons a b => exact .cons (Dq.dp d _ a) (DqAll.dp ds _ b)
end
mutual
theorem dq_monoR (e : ExR H H') : ∀ (d : PyData) (v : V), Dq K H v d → Dq K H' v d
  | .none, _, h => by cases h; exact .non
  | .bool _, _, h => by cases h; exact .bl _
  | .int _, _, h => by cases h; exact .int _
  | .str _, _, h => by cases h; exact .str _
  | .list ds, _, h => by
    cases h with
    | lst a b => exact .lst (exr_l e a) (dqAll_monoR e ds _ b)
  | .tuple ds, _, h => by
    cases h with
    | tup a b => exact .tup (e.2.1 _ _ a) (dqAll_monoR e ds _ b)
  | .dict _, _, h => by cases h
theorem dqAll_monoR (e : ExR H H') : ∀ (ds : List PyData) (vs : List V), DqAll K H vs ds → DqAll K H' vs ds
  | [], _, h => by cases h; exact .nil
  | d :: ds, _, h => by
    cases h with
    | cons a b => exact .cons (dq_monoR e d _ a) (dqAll_monoR e ds _ b)
end
theorem dp_mono (e : Ex H H') (d : PyData) (v : V) (h : Dq K H v d) : Dp K H' v d := dp_monoR (ExR.of e) d v (Dq.dp d v h)
end
class Rep (α : Type) where
  at_ : PySem.W.Frag → Hp → V → α → Prop
  monoR : ∀ {K : PySem.W.Frag} {H H' : Hp} {v : V} {x : α}, ExR H H' → at_ K H v x → at_ K H' v x
theorem Rep.mono {α : Type} [Rep α] {K : PySem.W.Frag} {H H' : Hp} {v : V} {x : α} (e : Ex H H') (h : Rep.at_ K H v x) : Rep.at_ K H' v x := Rep.monoR (ExR.of e) h
instance (priority := low) repDatum {α : Type} [DecidableEq α] [Datum α] : Rep α := ⟨fun K H v x => Dq K H v (Datum.toD x), fun e h => dq_monoR e _ _ h⟩
/-- a dict with text keys -/
structure Dic (α : Type) where
  kvs : List (Str × α)
def DicAt {α : Type} [Rep α] (K : PySem.W.Frag) (H : Hp) (ks : List (Key × V)) (d : List (Str × α)) : Prop := Paired (fun (p : Key × V) (q : Str × α) => p.1 = .inr q.1 ∧ Rep.at_ K H p.2 q.2) ks d
instance {α : Type} [Rep α] : Rep (Dic α) := ⟨fun K H v d => ∃ a ks, v = .ref a ∧ Rd H a (.dK ks) ∧ ks.length ≤ 1000000 ∧ DicAt K H ks d.kvs,
  fun e ⟨a, ks, h1, h2, hz, h3⟩ => ⟨a, ks, h1, e.1 a _ rfl h2, hz, Paired.mapP h3 fun _ _ h => ⟨h.1, Rep.monoR e h.2⟩⟩⟩
/-- any value at all -/
structure Any where
  v : V
instance : Rep Any := ⟨fun _ _ v x => v = x.v, fun _ h => h⟩
section
variable {K : PySem.W.Frag} {H H' : Hp} {v : V}
abbrev AtAll {α : Type} [Rep α] (K : PySem.W.Frag) (H : Hp) (vs : List V) (xs : List α) : Prop := Paired (Rep.at_ K H) vs xs
theorem AtAll.monoR {α : Type} [Rep α] (e : ExR H H') {vs : List V} {xs : List α} (h : AtAll K H vs xs) : AtAll K H' vs xs := Paired.mapP h fun _ _ q => Rep.monoR e q
theorem AtAll.mono {α : Type} [Rep α] (e : Ex H H') {vs : List V} {xs : List α} (h : AtAll K H vs xs) : AtAll K H' vs xs := Paired.mapP h fun _ _ q => Rep.mono e q
section
variable {α β : Type} [DecidableEq α] [Datum α] [DecidableEq β] [Datum β]
theorem dqAll_at : ∀ {vs : List V} {xs : List α}, DqAll K H vs (xs.map Datum.toD) → AtAll K H vs xs
  | _, [], h => by
    have h' : DqAll K H _ [] := h
    cases h'
    exact .nil
  | _, x :: xs, h => by
    have h' : DqAll K H _ (Datum.toD x :: xs.map Datum.toD) := h
    cases h' with
    | cons a b => exact .cons a (dqAll_at b)
theorem at_dqAll : ∀ {vs : List V} {xs : List α}, AtAll K H vs xs → DqAll K H vs (xs.map Datum.toD)
  | _, _, .nil => .nil
  | _, _, .cons a b => .cons a (at_dqAll b)
theorem at_int {i : Int} : Rep.at_ K H v i ↔ v = .int i := ⟨fun h => by cases (show Dq K H v (.int i) from h); rfl, fun h => by rw [h]; exact Dq.int i⟩
theorem at_bl {i : Bool} : Rep.at_ K H v i ↔ v = .bl i := ⟨fun h => by cases (show Dq K H v (.bool i) from h); rfl, fun h => by rw [h]; exact Dq.bl i⟩
theorem at_str {i : Str} : Rep.at_ K H v i ↔ v = .str i := ⟨fun h => by cases (show Dq K H v (.str i) from h); rfl, fun h => by rw [h]; exact Dq.str i⟩
theorem at_non {i : Unit} : Rep.at_ K H v i ↔ v = .non := ⟨fun h => by cases (show Dq K H v .none from h); rfl, fun h => by rw [h]; exact Dq.non⟩
theorem at_list {xs : List α} : Rep.at_ K H v xs ↔ ∃ a vs, v = .ref a ∧ SqL K H a vs ∧ AtAll K H vs xs :=
  ⟨fun h => by cases (show Dq K H v (.list (xs.map Datum.toD)) from h) with
    | lst a b => exact ⟨_, _, rfl, a, dqAll_at b⟩, fun ⟨a, vs, e, h1, h2⟩ => by
    rw [e]
    exact Dq.lst h1 (at_dqAll h2)⟩
theorem at_tup {t : Tup α} : Rep.at_ K H v t ↔ ∃ a vs, v = .ref a ∧ H a = some (.tup vs) ∧ AtAll K H vs t.items :=
  ⟨fun h => by cases (show Dq K H v (.tuple (t.items.map Datum.toD)) from h) with
    | tup a b => exact ⟨_, _, rfl, a, dqAll_at b⟩, fun ⟨a, vs, e, h1, h2⟩ => by
    rw [e]
    exact Dq.tup h1 (at_dqAll h2)⟩
theorem at_pair {p : α × β} : Rep.at_ K H v p ↔ ∃ a v1 v2, v = .ref a ∧ H a = some (.tup [v1, v2]) ∧ Rep.at_ K H v1 p.1 ∧ Rep.at_ K H v2 p.2 :=
  ⟨fun h => by cases (show Dq K H v (.tuple [Datum.toD p.1, Datum.toD p.2]) from h) with
    | tup a b =>
      cases b with
      | cons b1 b2 =>
        cases b2 with
        | cons b2 b3 =>
          cases b3
          exact ⟨_, _, _, rfl, a, b1, b2⟩, fun ⟨a, v1, v2, e, h1, h2, h3⟩ => by
    rw [e]
    exact Dq.tup h1 (.cons h2 (.cons h3 .nil))⟩
end
theorem AtAll.length {α : Type} [Rep α] {vs : List V} {xs : List α} (h : AtAll K H vs xs) : vs.length = xs.length := Paired.length h
theorem AtAll.get {α : Type} [Rep α] : ∀ {vs : List V} {xs : List α} {i : Nat} {x : α}, AtAll K H vs xs → xs[i]? = some x → ∃ v, vs[i]? = some v ∧ Rep.at_ K H v x
  | _, _, _, _, .nil, h => by simp at h
  | _, _, 0, x, .cons (a := v) q _, h => by
    simp at h
    subst h
    exact ⟨v, rfl, q⟩
  | _, _, i + 1, x, .cons _ t, h => by
    obtain ⟨v, h1, h2⟩ := AtAll.get (i := i) t (by simpa using h)
    exact ⟨v, by simpa using h1, h2⟩
theorem AtAll.get' {α : Type} [Rep α] : ∀ {vs : List V} {xs : List α} {i : Nat} {v : V}, AtAll K H vs xs → vs[i]? = some v → ∃ x, xs[i]? = some x ∧ Rep.at_ K H v x
  | _, _, _, _, .nil, h => by simp at h
  | _, _, 0, x, .cons (b := y) q _, h => by
    simp at h
    subst h
    exact ⟨y, rfl, q⟩
  | _, _, i + 1, x, .cons _ t, h => by
    obtain ⟨v, h1, h2⟩ := AtAll.get' (i := i) t (by simpa using h)
    exact ⟨v, by simpa using h1, h2⟩
theorem AtAll.append {α : Type} [Rep α] : ∀ {vs ws : List V} {xs ys : List α}, AtAll K H vs xs → AtAll K H ws ys → AtAll K H (vs ++ ws) (xs ++ ys)
  | _, _, _, _, .nil, k => k
  | _, _, _, _, .cons q t, k => .cons q (AtAll.append t k)
theorem AtAll.snoc {α : Type} [Rep α] {vs : List V} {v : V} {xs : List α} {x : α} (h : AtAll K H vs xs) (k : Rep.at_ K H v x) : AtAll K H (vs ++ [v]) (xs ++ [x]) := h.append (.cons k .nil)
theorem AtAll.take {α : Type} [Rep α] : ∀ {vs : List V} {xs : List α} (n : Nat), AtAll K H vs xs → AtAll K H (vs.take n) (xs.take n)
  | _, _, 0, _ => .nil
  | _, _, _ + 1, .nil => .nil
  | _, _, n + 1, .cons q t => .cons q (AtAll.take n t)
theorem AtAll.drop {α : Type} [Rep α] : ∀ {vs : List V} {xs : List α} (n : Nat), AtAll K H vs xs → AtAll K H (vs.drop n) (xs.drop n)
  | _, _, 0, h => h
  | _, _, _ + 1, .nil => .nil
  | _, _, n + 1, .cons _ t => AtAll.drop n t
theorem AtAll.set {α : Type} [Rep α] {v : V} {x : α} (k : Rep.at_ K H v x) : ∀ {vs : List V} {xs : List α} (n : Nat), AtAll K H vs xs → AtAll K H (vs.set n v) (xs.set n x)
  | _, _, _, .nil => .nil
  | _, _, 0, .cons _ t => .cons k t
  | _, _, n + 1, .cons q t => .cons q (AtAll.set k n t)
theorem AtAll.eraseIdx {α : Type} [Rep α] : ∀ {vs : List V} {xs : List α} (n : Nat), AtAll K H vs xs → AtAll K H (vs.eraseIdx n) (xs.eraseIdx n)
  | _, _, _, .nil => .nil
  | _, _, 0, .cons _ t => t
  | _, _, n + 1, .cons q t => .cons q (AtAll.eraseIdx n t)
theorem atAll_strs : ∀ {vs : List V} {xs : List Str}, AtAll K H vs xs → vs = xs.map V.str
  | _, _, .nil => rfl
  | _, _, .cons q t => by
    rw [List.map_cons, ← atAll_strs t, at_str.mp q]
theorem strs_atAll : ∀ (xs : List Str), AtAll K H (xs.map V.str) xs
  | [] => .nil
  | x :: xs => .cons (at_str.mpr rfl) (strs_atAll xs)
theorem ints_atAll : ∀ (xs : List Int), AtAll K H (xs.map V.int) xs
  | [] => .nil
  | x :: xs => .cons (at_int.mpr rfl) (ints_atAll xs)
theorem atAll_bls : ∀ {vs : List V} {xs : List Bool}, AtAll K H vs xs → vs = xs.map V.bl
  | _, _, .nil => rfl
  | _, _, .cons q t => by
    rw [List.map_cons, ← atAll_bls t, at_bl.mp q]
end
/-! ### a reading gives data by allocating alone -/
section
variable (K : PySem.W.Frag)
def Pe {α : Type} [Rep α] (te : TE) (σ : L2.St) (B : Hp) (x : α) : Prop := ∀ H, Ex B H → ∀ Q : VK, (∀ v B2 H2, Up B H B2 H2 → Rep.at_ K B2 v x → Q v H2) → te σ H Q
def Pt (tt : TT) (σ : L2.St) (B : Hp) (b : Bool) : Prop := ∀ H, Ex B H → ∀ Q : Bool → Hp → Prop, (∀ B2 H2, Up B H B2 H2 → Q b H2) → tt σ H Q
def Pa (ta : TA) (σ : L2.St) (B : Hp) (R : List V → Hp → Prop) : Prop := ∀ H, Ex B H → ∀ Q : List V → Hp → Prop, (∀ vs B2 H2, Up B H B2 H2 → R vs B2 → Q vs H2) → ta σ H Q
def Po (to : TO) (σ : L2.St) (B : Hp) (o : Option Int) : Prop := ∀ H, Ex B H → ∀ Q : Option Int → Hp → Prop, (∀ B2 H2, Up B H B2 H2 → Q o H2) → to σ H Q
end
section
variable {K : PySem.W.Frag} {σ : L2.St} {B B' H : Hp} {te ta tb : TE} {tt tu : TT}
variable {α β γ : Type} [Rep α] [Rep β] [Rep γ]
theorem Pe.mono {x : α} (h : Pe K te σ B x) (e : Ex B B') : Pe K te σ B' x := fun H a Q q => h H (e.trans a) Q fun v B2 H2 u hv => by
  -- the new part: what the reading froze, joined with B'
  refine q v (fun a => match B2 a with | some o => some o | none => B' a) H2 ⟨fun c o hc => ?_, fun c o hc => ?_, u.hh, fun c hc => ?_⟩ (Rep.mono (fun c o hc => ?_) hv)
  · show (match B2 c with | some o => some o | none => B' c) = some o
    cases z : B2 c with
    | none => exact hc
    | some o' =>
      rcases u.nw c (by rw [z]; exact fun w => nomatch w) with n | n
      · cases zb : B c with
        | none => exact absurd zb n
        | some ob =>
          have h1 := u.bb c ob zb
          have h2 := e c ob zb
          rw [z] at h1
          rw [hc] at h2
          show some o' = some o
          rw [h1, h2]
      · have := a c o hc
        rw [n] at this
        cases this
  · have hc' : (match B2 c with | some o => some o | none => B' c) = some o := hc
    cases z : B2 c with
    | none =>
      rw [z] at hc'
      exact u.hh c o (a c o hc')
    | some o' =>
      rw [z] at hc'
      rw [← hc']
      exact u.bh c o' z
  · have hc' : (match B2 c with | some o => some o | none => B' c) ≠ none := hc
    cases z : B2 c with
    | none =>
      rw [z] at hc'
      exact .inl hc'
    | some o' =>
      rcases u.nw c (by rw [z]; exact fun w => nomatch w) with n | n
      · refine .inl ?_
        cases zb : B c with
        | none => exact absurd zb n
        | some ob =>
          rw [e c ob zb]
          exact fun w => nomatch w
      · exact .inr n
  · show (match B2 c with | some o => some o | none => B' c) = some o
    rw [hc]
theorem Pt.mono {b : Bool} (h : Pt tt σ B b) (e : Ex B B') : Pt tt σ B' b := fun H a Q q => h H (e.trans a) Q fun B2 H2 u =>
  q B' H2 ⟨Ex.refl _, a.trans u.hh, u.hh, fun _ h => .inl h⟩
theorem Pe.is {x y : α} (h : Pe K te σ B x) (e : x = y) : Pe K te σ B y := e ▸ h
theorem Pt.is {x y : Bool} (h : Pt tt σ B x) (e : x = y) : Pt tt σ B y := e ▸ h
/-! names, constants -/
theorem e_var {i : Nat} {v : V} {x : α} (h : σ[i]? = some (some v)) (hv : Rep.at_ K B v x) : Pe K (tVar i) σ B x := fun H e Q q => ⟨v, h, q v B H (Up.refl e) hv⟩
theorem e_int {i : Int} : Pe K (tC (.int i)) σ B i := fun H e Q q => q _ B H (Up.refl e) (at_int.mpr rfl)
theorem e_str {i : Str} : Pe K (tC (.str i)) σ B i := fun H e Q q => q _ B H (Up.refl e) (at_str.mpr rfl)
theorem e_bl {i : Bool} : Pe K (tC (.bl i)) σ B i := fun H e Q q => q _ B H (Up.refl e) (at_bl.mpr rfl)
theorem e_non : Pe K (tC .non) σ B () := fun H e Q q => q _ B H (Up.refl e) (at_non.mpr rfl)
/-! two readings, one behind the other -/
theorem Pe.both {x : α} {y : β} (ha : Pe K ta σ B x) (hb : Pe K tb σ B y) {H : Hp} (e : Ex B H) {Q : V → V → Hp → Prop} (q : ∀ v w B2 H2, Up B H B2 H2 → Rep.at_ K B2 v x → Rep.at_ K B2 w y → Q v w H2) :
    ta σ H fun v H1 => tb σ H1 fun w H2 => Q v w H2 := ha H e _ fun v B1 H1 u1 h1 => (hb.mono u1.bb) H1 u1.bh _ fun w B2 H2 u2 h2 => q v w B2 H2 (u1.trans u2) (Rep.mono u2.bb h1) h2
/-- an operation on data -/
def RD (K : PySem.W.Frag) (r : R2) (x : α) (y : β) (z : γ) : Prop := ∀ B H v w, Ex B H → Rep.at_ K B v x → Rep.at_ K B w y → ∀ Q : VK, (∀ u B2 H2, Up B H B2 H2 → Rep.at_ K B2 u z → Q u H2) → r v w H Q
theorem e_op {r : R2} {x : α} {y : β} {z : γ} (ha : Pe K ta σ B x) (hb : Pe K tb σ B y) (hr : RD K r x y z) : Pe K (tOp r ta tb) σ B z := fun H e Q q =>
  ha.both hb e fun v w B2 H2 u h1 h2 => hr B2 H2 v w u.bh h1 h2 Q fun z B3 H3 u3 h3 => q z B3 H3 (u.trans u3) h3
/-- an operation whose answer is no object -/
theorem rd_val {r : R2} {x : α} {y : β} {z : γ} (c : V) (hc : ∀ B, Rep.at_ K B c z) (h : ∀ B H v w, Ex B H → Rep.at_ K B v x → Rep.at_ K B w y → ∀ Q : VK, Q c H → r v w H Q) : RD K r x y z := fun B H v w e h1 h2 Q q =>
  h B H v w e h1 h2 Q (q c B H (Up.refl e) (hc B))
/-! tests -/
theorem t_test {b : Bool} (h : Pe K te σ B b) : Pt (tTest te) σ B b := fun H e Q q => h H e _ fun v B2 H2 u hv => ⟨b, at_bl.mp hv, q B2 H2 u⟩
theorem t_B {b : Bool} (h : Pe K te σ B b) : Pt (tB te) σ B b := fun H e Q q => h H e _ fun v B2 H2 u hv => ⟨b, at_bl.mp hv, q B2 H2 u⟩
theorem t_not {b : Bool} (h : Pt tt σ B b) : Pt (tNot tt) σ B (!b) := fun H e Q q => h H e _ fun B2 H2 u => q B2 H2 u
theorem t_yes : Pt tYes σ B true := fun H e Q q => q B H (Up.refl e)
theorem t_or {a b : Bool} (h1 : Pt tt σ B a) (h2 : a = false → Pt tu σ B b) : Pt (tOr tt tu) σ B (a || b) := fun H e Q q => h1 H e _ fun B2 H2 u => by
  cases a with
  | true => exact q B2 H2 u
  | false => exact (h2 rfl).mono u.bb H2 u.bh _ fun B3 H3 u3 => q B3 H3 (u.trans u3)
theorem e_andV {a b : Bool} (h1 : Pe K ta σ B a) (h2 : a = true → Pe K tb σ B b) : Pe K (tAndV ta tb) σ B (a && b) := fun H e Q q => h1 H e _ fun v B2 H2 u hv => ⟨a, at_bl.mp hv, by
  cases a with
  | true => exact (h2 rfl).mono u.bb H2 u.bh _ fun v B3 H3 u3 h3 => q v B3 H3 (u.trans u3) h3
  | false => exact q _ B2 H2 u (at_bl.mpr rfl)⟩
theorem e_notV {a : Bool} (h1 : Pe K ta σ B a) : Pe K (tNotV ta) σ B (!a) := fun H e Q q => h1 H e _ fun v B2 H2 u hv => ⟨a, at_bl.mp hv, q _ B2 H2 u (at_bl.mpr rfl)⟩
theorem e_if {b : Bool} {x : α} (h : Pt tt σ B b) (h1 : b = true → Pe K ta σ B x) (h2 : b = false → Pe K tb σ B x) : Pe K (tIf tt ta tb) σ B x := fun H e Q q => h H e _ fun B2 H2 u => by
  cases b with
  | true => exact (h1 rfl).mono u.bb H2 u.bh _ fun v B3 H3 u3 h3 => q v B3 H3 (u.trans u3) h3
  | false => exact (h2 rfl).mono u.bb H2 u.bh _ fun v B3 H3 u3 h3 => q v B3 H3 (u.trans u3) h3
/-! arguments -/
def RNil : List V → Hp → Prop := fun vs _ => vs = []
def RCons (K : PySem.W.Frag) (x : α) (R : List V → Hp → Prop) : List V → Hp → Prop := fun vs B => ∃ v r, vs = v :: r ∧ Rep.at_ K B v x ∧ R r B
theorem a_nil : Pa tNil σ B RNil := fun H e Q q => q [] B H (Up.refl e) rfl
theorem a_cons {x : α} {R : List V → Hp → Prop} {tr : TA} (h : Pe K te σ B x) (hr : ∀ B', Ex B B' → Pa tr σ B' R) : Pa (tCons te tr) σ B (RCons K x R) := fun H e Q q =>
  h H e _ fun v B1 H1 u1 h1 => hr B1 u1.bb H1 u1.bh _ fun vs B2 H2 u2 h2 => q _ B2 H2 (u1.trans u2) ⟨v, vs, rfl, Rep.mono u2.bb h1, h2⟩
theorem a_1 {x : α} (h : Pe K te σ B x) : Pa (tCons te tNil) σ B (RCons K x RNil) := a_cons h fun _ _ => a_nil
theorem a_2 {x : α} {y : β} (h : Pe K ta σ B x) (h2 : Pe K tb σ B y) : Pa (tCons ta (tCons tb tNil)) σ B (RCons K x (RCons K y RNil)) := a_cons h fun _ e => a_1 (h2.mono e)
theorem a_3 {tc : TE} {x : α} {y : β} {z : γ} (h : Pe K ta σ B x) (h2 : Pe K tb σ B y) (h3 : Pe K tc σ B z) : Pa (tCons ta (tCons tb (tCons tc tNil))) σ B (RCons K x (RCons K y (RCons K z RNil))) := a_cons h fun _ e => a_2 (h2.mono e) (h3.mono e)
theorem o_none : Po tNoPart σ B none := fun H e Q q => q B H (Up.refl e)
theorem o_some {i : Int} (h : Pe K te σ B i) : Po (tPart te) σ B (some i) := fun H e Q q => h H e _ fun v B2 H2 u hv => ⟨i, at_int.mp hv, q B2 H2 u⟩
end
end Ob
set_option Elab.async false
set_option linter.all false
set_option maxRecDepth 100000
set_option maxHeartbeats 4000000
/-! Ts: sorting tuples of which some may be empty. -/
set_option Elab.async false
set_option linter.all false
set_option maxRecDepth 100000
set_option maxHeartbeats 4000000
/-! Ob2: operators and built-ins by data. -/
namespace Ob
open PySem L2
open Evl (Ex)
open PySem.W (Datum Tup DatumOrd)
theorem hu_room {k : Nat} {A : Around} (hr : Room k A) : A.units + 150 < cLine := by have := hr.un; omega
section
variable {X : Cx}
/-! == and != -/
def rEqP (K : PySem.W.Frag) : R2 := fun x y H Q => ∃ d e, Dp K H x d ∧ Dp K H y e ∧ d.plain = true ∧ e.plain = true ∧ d.depth ≤ 64 ∧ Q (.bl (PyData.eqv d e)) H
def rNeP (K : PySem.W.Frag) : R2 := fun x y H Q => ∃ d e, Dp K H x d ∧ Dp K H y e ∧ d.plain = true ∧ e.plain = true ∧ d.depth ≤ 64 ∧ Q (.bl (!PyData.eqv d e)) H
theorem op_eqP (hu : X.A.units + 150 < cLine) : OpR X (compareOp .Eq) (rEqP X.K) := by
  intro pins s σ H x y v u Q I rx ry h
  obtain ⟨d, e, hd, he, pd, pe, hz, q⟩ := h
  obtain ⟨as, r1⟩ := Dp.reads I d x v hd rx
  obtain ⟨bs, r2⟩ := Dp.reads I e y u he ry
  exact PySem.SeqAt.eq_plain r1 r2 pd pe (by have := Nat.min_le_left d.depth e.depth; omega) ⟨.bl _, H, I, rfl, q⟩
theorem op_neP (hu : X.A.units + 150 < cLine) : OpR X (compareOp .NotEq) (rNeP X.K) := by
  intro pins s σ H x y v u Q I rx ry h
  obtain ⟨d, e, hd, he, pd, pe, hz, q⟩ := h
  obtain ⟨as, r1⟩ := Dp.reads I d x v hd rx
  obtain ⟨bs, r2⟩ := Dp.reads I e y u he ry
  exact PySem.SeqAt.ne_plain r1 r2 pd pe (by have := Nat.min_le_left d.depth e.depth; omega) ⟨.bl _, H, I, rfl, q⟩
/-! in, not in: a list or tuple of data; a dict's key; a text in a text -/
/-! the order -/
def rLtU (K : PySem.W.Frag) : R2 := fun x y H Q => ∃ (α : Type) (_ : DecidableEq α) (_ : DatumOrd α) (a b : α), Dp K H x (Datum.toD a) ∧ Dp K H y (Datum.toD b) ∧ Datum.depth α ≤ 64 ∧ Q (.bl (DatumOrd.lt a b)) H
def rGtU (K : PySem.W.Frag) : R2 := fun x y H Q => ∃ (α : Type) (_ : DecidableEq α) (_ : DatumOrd α) (a b : α), Dp K H x (Datum.toD a) ∧ Dp K H y (Datum.toD b) ∧ Datum.depth α ≤ 64 ∧ Q (.bl (DatumOrd.lt b a)) H
def rGeU (K : PySem.W.Frag) : R2 := fun x y H Q => ∃ (α : Type) (_ : DecidableEq α) (_ : DatumOrd α) (a b : α), Dp K H x (Datum.toD a) ∧ Dp K H y (Datum.toD b) ∧ Datum.depth α ≤ 64 ∧ Q (.bl (!DatumOrd.lt a b)) H
theorem op_ltU (hu : X.A.units + 150 < cLine) : OpR X (compareOp .Lt) (rLtU X.K) := by
  intro pins s σ H x y v u Q I rx ry h
  obtain ⟨α, i1, i2, a, b, ha, hb, hz, q⟩ := h
  exact PySem.W.lt_datum (Dp.reads I _ x v ha rx) (Dp.reads I _ y u hb ry) (by omega) ⟨.bl _, H, I, rfl, q⟩
theorem op_gtU (hu : X.A.units + 150 < cLine) : OpR X (compareOp .Gt) (rGtU X.K) := by
  intro pins s σ H x y v u Q I rx ry h
  obtain ⟨α, i1, i2, a, b, ha, hb, hz, q⟩ := h
  exact PySem.W.gt_datum (Dp.reads I _ x v ha rx) (Dp.reads I _ y u hb ry) (by omega) ⟨.bl _, H, I, rfl, q⟩
theorem op_geU (hu : X.A.units + 150 < cLine) : OpR X (compareOp .GtE) (rGeU X.K) := by
  intro pins s σ H x y v u Q I rx ry h
  obtain ⟨α, i1, i2, a, b, ha, hb, hz, q⟩ := h
  exact PySem.W.ge_datum (Dp.reads I _ x v ha rx) (Dp.reads I _ y u hb ry) (by omega) ⟨.bl _, H, I, rfl, q⟩
/-! + -/
def rCatL (K : PySem.W.Frag) : R2 := fun x y H Q => ∃ l b xs zs, x = .ref l ∧ y = .ref b ∧ SqL K H l xs ∧ SqL K H b zs ∧ xs.length + zs.length ≤ sizeLine ∧ ∀ p, H p = none → Q (.ref p) (upd H p (.lst (xs ++ zs)))
theorem op_catL : OpR X (binaryOp .Add) (rCatL X.K) := by
  intro pins s σ H x y v u Q I rx ry h
  obtain ⟨l, b, xs, zs, rfl, rfl, hH, hB, hz, q⟩ := h
  cases rx
  cases ry
  obtain ⟨its, r, hl, _⟩ := I.list hH
  obtain ⟨its2, r2, hl2, _⟩ := I.list hB
  obtain ⟨⟨cls, dd, data, sl⟩, n, ho, hc, _, hd⟩ := hl
  obtain ⟨⟨cls2, dd2, data2, sl2⟩, n2, ho2, hc2, _, hd2⟩ := hl2
  simp only at hc hd hc2 hd2
  subst hc hd hc2 hd2
  have e : its.toArray ++ its2.toArray = (its ++ its2).toArray := by simp
  refine concat_meets ⟨_, ho, rfl⟩ ⟨_, ho2, rfl⟩ noFill_list_add seq_list_add PySem.F.slot_list_add PySem.F.entry_list_add (PySem.F.args_list_add_2 _ _) (PyProof.Rows.list_addW l b its.toArray its2.toArray n n2 dd dd2 sl sl2 (by rw [List.size_toArray, List.size_toArray, ← r.length, ← r2.length]; exact hz)) ⟨ho, ho2, ?_⟩
  rw [e]
  exact ⟨.ref _, _, I.lnew (t' := s.toks) (r.append r2) (by rw [List.length_append]; exact hz), rfl, q _ I.fresh⟩
def rStAdd : R2 := fun x y H Q => ∃ i j, x = .str i ∧ y = .str j ∧ i.length + j.length ≤ sizeLine ∧ Q (.str (i ++ j)) H
def rAddU (K : PySem.W.Frag) : R2 := fun x y H Q => (rI0 fun i j => .int (i + j)) x y H Q ∨ (rStAdd x y H Q ∨ (rCatL K x y H Q ∨ rCatA K x y H Q))
theorem op_addU : OpR X (binaryOp .Add) (rAddU X.K) := op_add.or (OpR.or (r := rStAdd) op_add_str (op_catL.or op_catA))
/-! * -/
def rMulU : R2 := fun x y H Q => (rI CMul fun i j => .int (i * j)) x y H Q ∨ rRep x y H Q
theorem op_mulU : OpR X (binaryOp .Mult) rMulU := op_mul.or op_rep
/-! len -/
def rLenU (K : PySem.W.Frag) : List V → Hp → VK → Prop := fun xs H Q => (∃ x n, xs = [x] ∧ LenV K x H n ∧ Q (.int n) H) ∨ ∃ a kvs, xs = [V.ref a] ∧ H a = some (.dK kvs) ∧ Q (.int kvs.length) H
theorem call_lenU : CallR X (.builtin "len") (rLenU X.K) := CallR.or call_len call_lenD
/-! sorted -/
/-- in ascending order, equal ones as they stood -/
def sortD {α : Type} [DecidableEq α] [DatumOrd α] (xs : List α) : List α := xs.mergeSort fun a b => !DatumOrd.lt b a
end
end Ob
set_option Elab.async false
set_option linter.all false
set_option maxRecDepth 100000
set_option maxHeartbeats 4000000
/-! Ob3: walks over data, comprehensions, loops, statements. -/
namespace Ob
open PySem L2
open Evl (Ex)
open PySem.W (Datum Tup DatumOrd)
/-! ### a list or a tuple walked -/
def iSeq (K : PySem.W.Frag) (tl : TE) : TI := fun σ H R => tl σ H fun x H1 => ∃ a, x = .ref a ∧ (((∃ xs, SqL K H1 a xs) ∧ R (Itl K a) H1) ∨ ((∃ xs, SqT K H1 a xs) ∧ R (Itt K a) H1))
section
variable {X : Cx} {tg : Expr}
theorem pi_seq {l : Expr} {tl : TE} (hl : PE X l tl) : PI X tg l (iSeq X.K tl) := by
  refine ⟨fun pins s σ H R I h => ?_⟩
  refine thn (hl.run pins s σ H _ I h) fun v s1 ⟨x, H1, I1, r1, q1⟩ => ?_
  obtain ⟨a, e, q⟩ := q1
  subst e
  cases r1
  rcases q with ⟨⟨xs, hq⟩, q⟩ | ⟨⟨xs, hq⟩, q⟩
  · obtain ⟨its, rv, p, hz⟩ := I1.list hq
    refine wpAny_pyIter_list p.isList ?_
    refine ⟨s1.heap.objs.size, [s1.heap.objs.size], _, _, H1, rfl, I1.kept (t' := s1.toks) fun b o e => Heap.get?_push_of_some _ e, turn_list a _, ⟨_, Heap.get?_push_size _ rfl, rfl, rfl⟩, fun b hb => ?_, q⟩
    have e : b = s1.heap.objs.size := by simpa using hb
    subst e
    exact I1.fpOk (Nat.le_refl _) (I1.hok.fresh (Nat.le_refl _))
  · obtain ⟨its, rv, p, hz⟩ := I1.tuple hq
    refine wpAny_pyIter_tuple (show s1.heap.IsTuple a its.toArray from p) ?_
    refine ⟨s1.heap.objs.size, [s1.heap.objs.size], _, _, H1, rfl, I1.kept (t' := s1.toks) fun b o e => Heap.get?_push_of_some _ e, turn_tuple a _, ⟨_, Heap.get?_push_size _ rfl, rfl, rfl⟩, fun b hb => ?_, q⟩
    have e : b = s1.heap.objs.size := by simpa using hb
    subst e
    exact I1.fpOk (Nat.le_refl _) (I1.hok.fresh (Nat.le_refl _))
end
/-! ### walks over data -/
section
variable (K : PySem.W.Frag) {α : Type} [Rep α]
/-- wi walks the data xs; what it gives may be a new object -/
def ItD (wi : TI) (σ : L2.St) (B : Hp) (xs : List α) : Prop := ∀ H, Ex B H → ∀ R : It → Hp → Prop,
  (∀ J B1 H1 G Y, Up B H B1 H1 → Walk J xs.length G Y → (∀ H', Ex B1 H' → G H') →
    (∀ i x Hx H', i < xs.length → Ex B1 Hx → Y i Hx x H' → ∃ d, xs[i]? = some d ∧ ∀ B', Ex B1 B' → Ex B' Hx → ∃ B2, Up B' Hx B2 H' ∧ Rep.at_ K B2 x d) → R J H1) → wi σ H R
end
section
variable {K : PySem.W.Frag} {σ : L2.St} {B B' H : Hp} {te ta tb : TE} {tt tu : TT}
variable {α β γ : Type} [DecidableEq α] [Datum α] [DecidableEq β] [Datum β]
theorem walk_zipT {K : PySem.W.Frag} {a b : Addr} {xs ys : List V} {n : Nat} (hn : n = min xs.length ys.length) : Walk (RZ.ItzT K a b) n (fun H => SqT K H a xs ∧ SqT K H b ys) (YPair (fun i => xs[i]?) (fun i => ys[i]?)) := by
  subst hn
  refine ⟨fun i _ hi q => ?_, fun _ q => ⟨xs, ys, q.1, q.2, by omega⟩, fun i H v H' _ q y => ?_⟩
  · have h1 : i < xs.length := by omega
    have h2 : i < ys.length := by omega
    exact ⟨xs, ys, xs[i], ys[i], q.1, q.2, by simp [h1], by simp [h2]⟩
  · obtain ⟨T, x, z, h1, h2, h3, h4, h5⟩ := y
    exact ⟨T, x, z, h1, h2, h3, h4 xs q.1, h5 ys q.2⟩
def rangeI (lo : Int) (n : Nat) : List Int := (List.range n).map fun (i : Nat) => lo + (i : Int)
theorem it_rng1 {n : Int} (h : Pe K te σ B n) (hn : n < 2 ^ 62) (hn0 : -(2 ^ 62) ≤ n) : ItD K (iRng1 (tCons te tNil)) σ B (rangeI 0 n.toNat) := fun H e R q => h H e _ fun v B1 H1 u hv => by
  cases at_int.mp hv
  refine ⟨n, rfl, hn0, hn, ?_⟩
  refine q (Itr 0 n.toNat) B1 H1 (fun _ => True) (YFn fun i => .int (0 + i)) u ?_ (fun _ _ => trivial) fun i x Hx H' hi ex y => ?_
  · have e : (rangeI 0 n.toNat).length = n.toNat := by simp [rangeI]
    rw [e]
    exact walk_range
  · obtain ⟨y1, y2⟩ := y
    have hi' : i < n.toNat := by simpa [rangeI] using hi
    refine ⟨0 + (i : Int), by simp [rangeI, hi'], fun B' b1 b2 => ⟨B', ?_, by rw [y2]; exact at_int.mpr rfl⟩⟩
    rw [y1]
    exact Up.refl b2
/-! ### one turn of a comprehension: the slots behind its target, its test, its item -/
def TurnD (K : PySem.W.Frag) {β : Type} [Rep β] (g : TG) (tt : TT) (te : TE) (vs : List Nat) (σ : L2.St) (B : Hp) (v : V) (b : Bool) (r : β) : Prop :=
  ∃ σ2, (∀ H (Q : L2.St → Hp → Prop), Ex B H → Q σ2 H → g v (wipe σ vs) H Q) ∧ wipe σ2 vs = wipe σ vs ∧ Pt tt σ2 B b ∧ (b = true → Pe K te σ2 B r)
theorem mem_of_get {xs : List γ} {i : Nat} {x : γ} (h : xs[i]? = some x) : x ∈ xs := List.mem_of_getElem? h
theorem take_snoc {xs : List γ} {i : Nat} {x : γ} (h : xs[i]? = some x) : xs.take (i + 1) = xs.take i ++ [x] := by
  rw [List.take_add_one, h]
  rfl
theorem e_lc [Rep γ] {wi : TI} {g : TG} {vs : List Nat} {xs : List γ} (f : γ → Bool) (y : γ → β) (h : ItD K wi σ B xs) (hz : xs.length ≤ 1000000)
    (ht : ∀ x ∈ xs, ∀ v B1, Ex B B1 → Rep.at_ K B1 v x → TurnD K g tt te vs σ B1 v (f x) (y x)) : Pe K (tLc wi g tt te vs) σ B ((xs.filter f).map y) := fun H e Q q =>
  h H e _ fun J B1 H1 G Y up W hG hY D hD => by
    have hDH : H D = none := Evl.fresh_back up.hh hD
    have hDB : B1 D = none := Evl.fresh_back up.bh hD
    refine lc_it W (fun i H' => ∃ Bi ws, Ex B1 Bi ∧ (∀ a, Bi a ≠ none → B1 a ≠ none ∨ H1 a = none) ∧ Bi D = none ∧ Ex Bi H' ∧ Ex H1 H' ∧ H' D = some (.lst ws) ∧ AtAll K Bi ws (((xs.take i).filter f).map y))
      ⟨B1, [], Ex.refl _, fun _ h => .inl h, hDB, ex_upd up.bh hDB, Ex.new hD, upd_same, .nil⟩ (fun i H' _ p => ?_) (fun i x Hx H' hi p hy => ?_) (fun H' p => ?_)
    · obtain ⟨Bi, ws, b1, _, _, b2, _⟩ := p
      exact hG H' (b1.trans b2)
    · obtain ⟨Bi, ws, b1, nw, bD, b2, hh, eD, hA⟩ := p
      obtain ⟨d, hd, hB⟩ := hY i x Hx H' hi (b1.trans b2) hy
      obtain ⟨B2, u2, hx⟩ := hB Bi b1 b2
      obtain ⟨o1, o2⟩ := u2.out bD eD
      obtain ⟨σ2, hg, hw, htt, hte⟩ := ht d (mem_of_get hd) x B2 ((up.bb.trans b1).trans u2.bb) hx
      refine hg H' _ u2.bh ⟨hw, htt H' u2.bh _ fun B3 H3 u3 => ?_⟩
      obtain ⟨o3, o4⟩ := u3.out o1 o2
      have nw3 : ∀ a, B3 a ≠ none → B1 a ≠ none ∨ H1 a = none := fun a ha => by
        rcases (u2.trans u3).nw a ha with z | z
        · exact nw a z
        · exact .inr (Evl.fresh_back hh z)
      cases hf : f d with
      | true =>
        rw [hf] at hte
        refine ((hte rfl).mono u3.bb) H3 u3.bh _ fun w B4 H4 u4 hw4 => ⟨ws, (u4.out o3 o4).2, ?_, B4, ws ++ [w], ?_, ?_, (u4.out o3 o4).1, ex_upd u4.bh (u4.out o3 o4).1, ?_, upd_same, ?_⟩
        · have := hA.length
          rw [List.length_map] at this
          have h2 := List.length_filter_le f (xs.take i)
          have h3 := List.length_take_le i xs
          have : (sizeLine : Nat) = 16777216 := sizeLine_eq
          omega
        · exact ((b1.trans u2.bb).trans u3.bb).trans u4.bb
        · intro a ha
          rcases ((u2.trans u3).trans u4).nw a ha with z | z
          · exact nw a z
          · exact .inr (Evl.fresh_back hh z)
        · exact Ex.mut (((hh.trans u2.hh).trans u3.hh).trans u4.hh) hD
        · rw [take_snoc hd, List.filter_append, List.map_append, List.filter_cons, if_pos hf]
          exact AtAll.snoc (hA.mono ((u2.bb.trans u3.bb).trans u4.bb)) hw4
      | false =>
        refine ⟨B3, ws, (b1.trans u2.bb).trans u3.bb, nw3, o3, u3.bh, (hh.trans u2.hh).trans u3.hh, o4, ?_⟩
        rw [take_snoc hd, List.filter_append, List.map_append, List.filter_cons, if_neg (by rw [hf]; decide)]
        show AtAll K B3 ws (_ ++ [])
        rw [List.append_nil]
        exact hA.mono (u2.bb.trans u3.bb)
    · obtain ⟨Bi, ws, b1, nw, bD, b2, hh, eD, hA⟩ := p
      rw [List.take_length] at hA
      refine q (.ref D) (upd Bi D (.lst ws)) H' ⟨(up.bb.trans b1).trans (Ex.new bD), ex_in b2 eD, up.hh.trans hh, fun a ha => ?_⟩ (at_list.mpr ⟨D, ws, rfl, Evl.sq_of upd_same, hA.mono (Ex.new bD)⟩)
      by_cases hDa : a = D
      · exact .inr (hDa ▸ hDH)
      · rw [upd_ne hDa] at ha
        rcases nw a ha with z | z
        · exact up.nw a z
        · exact .inr (Evl.fresh_back up.hh z)
/-- the target a name -/
theorem turn_name [Rep γ] {σ2 : L2.St} {vs : List Nat} {v : V} {b : Bool} {r : γ} {j : Nat} (e : (wipe σ vs).set j (some v) = σ2) (hw : wipe σ2 vs = wipe σ vs) (ht : Pt tt σ2 B b) (he : b = true → Pe K te σ2 B r) : TurnD K (gName j) tt te vs σ B v b r :=
  ⟨σ2, fun H Q _ q => by rw [← e] at q; exact q, hw, ht, he⟩
end
end Ob
set_option Elab.async false
set_option linter.all false
set_option maxRecDepth 100000
set_option maxHeartbeats 4000000
/-! Ob4: expressions by type; statements; loops. -/
namespace Ob
open PySem L2
open Evl (Ex)
open PySem.W (Datum Tup DatumOrd)
section
variable {K : PySem.W.Frag} {σ : L2.St} {B B' H : Hp} {te ta tb : TE} {tt tu : TT}
variable {α β γ : Type} [DecidableEq α] [Datum α] [DecidableEq β] [Datum β]
/-! comparisons -/
theorem e_eq {x y : α} (ha : Pe K ta σ B x) (hb : Pe K tb σ B y) (hz : Datum.depth α ≤ 64 := by decide) : Pe K (tOp (rEqP K) ta tb) σ B (decide (x = y)) :=
  e_op ha hb (rd_val (.bl (decide (x = y))) (fun _ => at_bl.mpr rfl) fun B H v w e h1 h2 Q q => ⟨_, _, dp_mono e _ _ h1, dp_mono e _ _ h2, Datum.plain x, Datum.plain y, Nat.le_trans (Datum.depth_le x) hz, by rw [Datum.eqv]; exact q⟩)
theorem e_ne {x y : α} (ha : Pe K ta σ B x) (hb : Pe K tb σ B y) (hz : Datum.depth α ≤ 64 := by decide) : Pe K (tOp (rNeP K) ta tb) σ B (!decide (x = y)) :=
  e_op ha hb (rd_val (.bl (!decide (x = y))) (fun _ => at_bl.mpr rfl) fun B H v w e h1 h2 Q q => ⟨_, _, dp_mono e _ _ h1, dp_mono e _ _ h2, Datum.plain x, Datum.plain y, Nat.le_trans (Datum.depth_le x) hz, by rw [Datum.eqv]; exact q⟩)
theorem e_lt {α : Type} [DecidableEq α] [DatumOrd α] {x y : α} (ha : Pe K ta σ B x) (hb : Pe K tb σ B y) (hz : Datum.depth α ≤ 64 := by decide) : Pe K (tOp (rLtU K) ta tb) σ B (DatumOrd.lt x y) :=
  e_op ha hb (rd_val (.bl _) (fun _ => at_bl.mpr rfl) fun B H v w e h1 h2 Q q => ⟨α, inferInstance, inferInstance, x, y, dp_mono e _ _ h1, dp_mono e _ _ h2, hz, q⟩)
theorem e_gt {α : Type} [DecidableEq α] [DatumOrd α] {x y : α} (ha : Pe K ta σ B x) (hb : Pe K tb σ B y) (hz : Datum.depth α ≤ 64 := by decide) : Pe K (tOp (rGtU K) ta tb) σ B (DatumOrd.lt y x) :=
  e_op ha hb (rd_val (.bl _) (fun _ => at_bl.mpr rfl) fun B H v w e h1 h2 Q q => ⟨α, inferInstance, inferInstance, x, y, dp_mono e _ _ h1, dp_mono e _ _ h2, hz, q⟩)
theorem e_ge {α : Type} [DecidableEq α] [DatumOrd α] {x y : α} (ha : Pe K ta σ B x) (hb : Pe K tb σ B y) (hz : Datum.depth α ≤ 64 := by decide) : Pe K (tOp (rGeU K) ta tb) σ B (!DatumOrd.lt x y) :=
  e_op ha hb (rd_val (.bl _) (fun _ => at_bl.mpr rfl) fun B H v w e h1 h2 Q q => ⟨α, inferInstance, inferInstance, x, y, dp_mono e _ _ h1, dp_mono e _ _ h2, hz, q⟩)
/-! numbers -/
theorem e_addI {i j : Int} (ha : Pe K ta σ B i) (hb : Pe K tb σ B j) : Pe K (tOp (rAddU K) ta tb) σ B (i + j) :=
  e_op ha hb (rd_val (.int (i + j)) (fun _ => at_int.mpr rfl) fun B H v w e h1 h2 Q q => .inl ⟨i, j, at_int.mp h1, at_int.mp h2, q⟩)
theorem e_subI {i j : Int} (ha : Pe K ta σ B i) (hb : Pe K tb σ B j) : Pe K (tOp (rI0 fun i j => .int (i - j)) ta tb) σ B (i - j) :=
  e_op ha hb (rd_val (.int (i - j)) (fun _ => at_int.mpr rfl) fun B H v w e h1 h2 Q q => ⟨i, j, at_int.mp h1, at_int.mp h2, q⟩)
theorem e_mulI {i j : Int} (ha : Pe K ta σ B i) (hb : Pe K tb σ B j) (hc : CMul i j) : Pe K (tOp (rMulU) ta tb) σ B (i * j) :=
  e_op ha hb (rd_val (.int (i * j)) (fun _ => at_int.mpr rfl) fun B H v w e h1 h2 Q q => .inl ⟨i, j, at_int.mp h1, at_int.mp h2, hc, q⟩)
theorem e_modI {i j : Int} (ha : Pe K ta σ B i) (hb : Pe K tb σ B j) (hc : 0 < j) : Pe K (tOp (rI (fun _ j => 0 < j) fun i j => .int (i % j)) ta tb) σ B (i % j) :=
  e_op ha hb (rd_val (.int (i % j)) (fun _ => at_int.mpr rfl) fun B H v w e h1 h2 Q q => ⟨i, j, at_int.mp h1, at_int.mp h2, hc, q⟩)
theorem e_divI {i j : Int} (ha : Pe K ta σ B i) (hb : Pe K tb σ B j) (hc : CDiv i j) : Pe K (tOp (rI CDiv fun i j => .int (i / j)) ta tb) σ B (i / j) :=
  e_op ha hb (rd_val (.int (i / j)) (fun _ => at_int.mpr rfl) fun B H v w e h1 h2 Q q => ⟨i, j, at_int.mp h1, at_int.mp h2, hc, q⟩)
theorem e_powI {i j : Int} (ha : Pe K ta σ B i) (hb : Pe K tb σ B j) (hc : CPow i j) : Pe K (tOp (rI CPow fun i j => .int (i ^ j.toNat)) ta tb) σ B (i ^ j.toNat) :=
  e_op ha hb (rd_val (.int (i ^ j.toNat)) (fun _ => at_int.mpr rfl) fun B H v w e h1 h2 Q q => ⟨i, j, at_int.mp h1, at_int.mp h2, hc, q⟩)
/-! lists and tuples made -/
theorem e_addL {xs ys : List α} (ha : Pe K ta σ B xs) (hb : Pe K tb σ B ys) (hz : xs.length + ys.length ≤ 1000000) : Pe K (tOp (rAddU K) ta tb) σ B (xs ++ ys) :=
  e_op ha hb fun B H v w e h1 h2 Q q => by
    obtain ⟨a, vs, rfl, hs, hx⟩ := at_list.mp h1
    obtain ⟨b, ws, rfl, hs2, hy⟩ := at_list.mp h2
    refine .inr (.inr (.inl ⟨a, b, vs, ws, rfl, rfl, Evl.ex_l e hs, Evl.ex_l e hs2, ?_, fun p hp => ?_⟩))
    · rw [hx.length, hy.length]
      exact Nat.le_trans hz (by rw [sizeLine_eq]; decide)
    · have u := Up.new (o := .lst (vs ++ ws)) e hp
      exact q _ _ _ u (at_list.mpr ⟨p, _, rfl, Evl.sq_of upd_same, (hx.append hy).mono u.bb⟩)
/-! calls of built-ins -/
theorem e_all {bs : List Bool} (h : Pe K te σ B bs) : Pe K (tCB (rAll K) (tCons te tNil)) σ B (bs.all id) := fun H e Q q => h H e _ fun v B1 H1 u hv => by
  obtain ⟨a, vs, rfl, hs, hx⟩ := at_list.mp hv
  rw [atAll_bls hx] at hs
  exact ⟨a, bs, rfl, Evl.ex_l u.bh hs, q _ B1 H1 u (at_bl.mpr rfl)⟩
end
/-! ### statements -/
section
variable {K : PySem.W.Frag} {σ : L2.St} {B B' H : Hp} {te ta tb tl : TE} {tt : TT} {D : Ends} {tu tw tz : TS} {g : TG}
variable {α β γ : Type} [Rep α] [Rep β] [Rep γ]
theorem q_set {i : Nat} {x : α} (h : Pe K te σ B x) (e : Ex B H) (k : ∀ v B1 H1, Up B H B1 H1 → Rep.at_ K B1 v x → tz D (σ.set i (some v)) H1) : tSeq (tAsg te (gName i)) tz D σ H := h H e _ fun v B1 H1 u hv => k v B1 H1 u hv
theorem p_ret {x : α} (h : Pe K te σ B x) (e : Ex B H) (k : ∀ v B1 H1, Up B H B1 H1 → Rep.at_ K B1 v x → D.rt v H1) : tRet te D σ H := h H e _ fun v B1 H1 u hv => k v B1 H1 u hv
theorem p_if {b : Bool} (h : Pt tt σ B b) (e : Ex B H) (h1 : b = true → ∀ B1 H1, Up B H B1 H1 → tu D σ H1) (h2 : b = false → ∀ B1 H1, Up B H B1 H1 → tw D σ H1) : tIfS tt tu tw D σ H := h H e _ fun B1 H1 u => by
  cases b with
  | true => exact h1 rfl B1 H1 u
  | false => exact h2 rfl B1 H1 u
theorem q_if {b : Bool} (h : Pt tt σ B b) (e : Ex B H) (h1 : b = true → ∀ B1 H1, Up B H B1 H1 → tu { D with nx := tz D } σ H1) (h2 : b = false → ∀ B1 H1, Up B H B1 H1 → tw { D with nx := tz D } σ H1) : tSeq (tIfS tt tu tw) tz D σ H := p_if (D := { D with nx := tz D }) h e h1 h2
/-- behind a turn -/
def LoopN (B1 : Hp) (P : L2.St → Hp → Hp → Prop) : L2.St → Hp → Prop := fun σ3 H3 => ∃ B3, Ex B1 B3 ∧ Ex B3 H3 ∧ P σ3 B3 H3
/-- a for over data: Pv: what is done, the slots, what is frozen, the heap -/
theorem p_for {wi : TI} {xs : List α} (h : ItD K wi σ B xs) (e : Ex B H)
    (k : ∀ B1 H1, Up B H B1 H1 → ∃ Pv : List α → L2.St → Hp → Hp → Prop, Pv [] σ B1 H1 ∧
      (∀ done x rest v σ' B' Hx B2 H', xs = done ++ x :: rest → Ex B1 B' → Ex B' Hx → Pv done σ' B' Hx → Up B' Hx B2 H' → Rep.at_ K B2 v x →
        g v σ' H' fun σ2 H2 => tu { D with nx := LoopN B1 (Pv (done ++ [x])), ct := LoopN B1 (Pv (done ++ [x])), bk := D.nx } σ2 H2) ∧
      ∀ σ' B' H', Ex B1 B' → Ex B' H' → Pv xs σ' B' H' → D.nx σ' H') : tFor wi g tu D σ H :=
  h H e _ fun J B1 H1 G Y up W hG hY => by
    obtain ⟨Pv, h0, hs, hd⟩ := k B1 H1 up
    refine for_it W (fun i => LoopN B1 (Pv (xs.take i))) ⟨B1, Ex.refl _, up.bh, h0⟩ (fun i σ' H' _ p => ?_) (fun i x σ' Hx H' hi p hy => ?_) (fun σ' H' p => ?_)
    · obtain ⟨B', b1, b2, _⟩ := p
      exact hG H' (b1.trans b2)
    · obtain ⟨B', b1, b2, hp⟩ := p
      obtain ⟨d, hd', hB⟩ := hY i x Hx H' hi (b1.trans b2) hy
      obtain ⟨B2, u2, hx⟩ := hB B' b1 b2
      have hlt := (List.getElem?_eq_some_iff.mp hd').1
      have exs : xs = xs.take i ++ d :: xs.drop (i + 1) := by
        have e1 : xs.drop i = d :: xs.drop (i + 1) := by
          rw [List.drop_eq_getElem_cons hlt]
          congr 1
          exact (List.getElem?_eq_some_iff.mp hd').2
        rw [← e1, List.take_append_drop]
      have z := hs (xs.take i) d (xs.drop (i + 1)) x σ' B' Hx B2 H' exs b1 b2 hp u2 hx
      have et : xs.take i ++ [d] = xs.take (i + 1) := by
        rw [List.take_add_one, hd']
        rfl
      rw [et] at z
      exact z
    · obtain ⟨B', b1, b2, hp⟩ := p
      rw [List.take_length] at hp
      exact hd σ' B' H' b1 b2 hp
end
end Ob
set_option Elab.async false
set_option linter.all false
set_option maxRecDepth 100000
set_option maxHeartbeats 4000000
/-! Ob5: subscripts, slices, conversions, min and max, dicts, what the readings of the generator name. -/
namespace Ob
open PySem L2
open Evl (Ex)
open PySem.W (Datum Tup DatumOrd)
section
variable {X : Cx}
/-! subscripts -/
def rIxD : R2 := fun x y H Q => ∃ a v, x = .ref a ∧ DGet H a y (some v) ∧ Q v H
def rIxU (K : PySem.W.Frag) : R2 := fun x y H Q => rIxL K x y H Q ∨ (rIxT K x y H Q ∨ (rIxS x y H Q ∨ rIxD x y H Q))
theorem ix_dict (hu : X.A.units + 150 < cLine) : IxR X rIxD := by
  intro value slice pins s σ H x y v u Q I rx ry h hs
  obtain ⟨a, z, rfl, g, q⟩ := h
  cases rx
  exact PyProof.Rows.tail_any (dict_typeIs I g) PySem.F.slot_dict_getitem.lookup (d_getItem (by omega) I g ry fun w' s3 I3 rw' => ⟨z, H, I3, rw', q⟩) hs
theorem ix_U (hu : X.A.units + 150 < cLine) : IxR X (rIxU X.K) := ix_list.or (ix_tup.or (ix_str.or (ix_dict hu)))
/-! slices -/
def rSlU (K : PySem.W.Frag) : V → Option Int → Option Int → Hp → VK → Prop := fun x lo hi H Q => rSlL K x lo hi H Q ∨ (rSlA K x lo hi H Q ∨ rSlS x lo hi H Q)
theorem sl_U : SlR X (rSlU X.K) := sl_list.or (sl_tupA.or sl_str)
/-! tuple(x), list(x) -/
/-! sorted: a list or tuple of data; a dict with text keys -/
/-! abs, int -/
def rAbs : List V → Hp → VK → Prop := fun xs H Q => ∃ i, xs = [.int i] ∧ Q (.int (if i < 0 then -i else i)) H
theorem call_absr : CallR X (.builtin "abs") rAbs := call_abs
def rInt1 : List V → Hp → VK → Prop := fun xs H Q => (∃ i, xs = [.int i] ∧ Q (.int i) H) ∨ ∃ k, xs = [.bl k] ∧ Q (.int (if k then 1 else 0)) H
theorem call_int1r : CallR X (.type "int") rInt1 := call_int1
/-! min, max of two ints, of two texts -/
def ltS (x y : Str) : Bool := decide (x.cps.toList < y.cps.toList)
theorem cmpS_lt {prog : Program} {w : World} {A : Around} {P : Nat → Value → Prop} (val : Nat → Str) (hval : ∀ i v, P i v → ∃ t, v = .str (val i) t) : CmpOf prog w A .Lt P (fun i j => ltS (val i) (val j)) := by
  intro i j vi vj s Q E hi hj h
  obtain ⟨t, rfl⟩ := hval i vi hi
  obtain ⟨u, rfl⟩ := hval j vj hj
  have h2 : Q (.bool (decide ((val i).cps.toList < (val j).cps.toList))) s := h
  exact PyProof.Rows.lt_str h2
def s2 (x y : Str) : Nat → Str := fun i => if i = 0 then x else y
theorem s2_at {x y : Str} {t u : Tok} (i : Nat) (v : Value) (h : (#[Value.str x t, Value.str y u] : Array Value)[i]? = some v) : ∃ t, v = .str (s2 x y i) t := by
  match i, h with
  | 0, h => simp at h; exact ⟨t, by rw [← h]; rfl⟩
  | 1, h => simp at h; exact ⟨u, by rw [← h]; rfl⟩
  | i + 2, h => simp at h
theorem min_two_strs {prog : Program} {w : World} {A : Around} {E : Value → Shared → Prop} {s : Shared} {a b : Str} {t u : Tok} {Q : Value → Shared → Prop} (hh : A.handled = none)
    (h : ∀ h' tk, (∀ c o, s.heap.get? c = some o → h'.get? c = some o) → Q (if ltS b a then .str b u else .str a t) { s with heap := h', toks := tk }) :
    wpAny (model prog w) A (call (.builtin "min") [.str a t, .str b u]) Q E s := by
  have hT : (s.heap.push { cls := .type "tuple", data := .seq #[.str a t, .str b u] }).IsTuple s.heap.objs.size #[.str a t, .str b u] := ⟨_, Heap.get?_push_size _ rfl, rfl, 0, rfl⟩
  refine call_min_two (wpAny_pyIter_tuple hT ?_)
  have hsz : (s.heap.push { cls := .type "tuple", data := .seq #[.str a t, .str b u] }).objs.size = s.heap.objs.size + 1 := Heap.size_push ..
  refine ⟨_, [_, s.heap.objs.size], [_], _, _, _, _, rfl, Walks.tuple (A := A.in1) hh _ s.heap.objs.size (by rw [hsz]; exact Nat.ne_of_lt (Nat.lt_succ_self _)) #[.str a t, .str b u],
    ⟨⟨_, Heap.get?_push_size _ rfl, rfl, rfl⟩, hT.push _⟩, fun c hc => ?_, by simp, cmpS_lt (s2 a b) s2_at, fun v h' tk hP hk => ?_⟩
  · show c < ((s.heap.push _).push _).objs.size
    rw [Heap.size_push, hsz]
    rcases List.mem_cons.mp hc with rfl | hc
    · rw [hsz]; exact Nat.lt_succ_self _
    · rcases List.mem_cons.mp hc with rfl | hc
      · exact Nat.lt_succ_of_lt (Nat.lt_succ_self _)
      · cases hc
  · have hold : ∀ c o, s.heap.get? c = some o → h'.get? c = some o := fun c o e => by
      refine hk c o (fun hm => ?_) (Heap.get?_push_of_some _ (Heap.get?_push_of_some _ e))
      rcases List.mem_cons.mp hm with e1 | hm
      · have := Heap.lt_size e; rw [e1, hsz] at this; exact Nat.lt_irrefl _ (Nat.lt_of_succ_lt this)
      · cases hm
    have := h h' tk hold
    have hv : v = if ltS b a then Value.str b u else Value.str a t := by
      cases hc : ltS b a <;> simp [argBest, s2, hc] at hP <;> simp [hP]
    rw [hv]; exact this
def rMinI : List V → Hp → VK → Prop := fun xs H Q => ∃ i j, xs = [.int i, .int j] ∧ Q (.int (if j < i then j else i)) H
def rMinS : List V → Hp → VK → Prop := fun xs H Q => ∃ i j, xs = [.str i, .str j] ∧ Q (.str (if ltS j i then j else i)) H
def rMinU : List V → Hp → VK → Prop := fun xs H Q => rMinI xs H Q ∨ rMinS xs H Q
theorem call_min2S (hc : X.calm = true) : CallR X (.builtin "min") rMinS := by
  intro pins s σ H xs us Q I r h
  obtain ⟨i, j, rfl, q⟩ := h
  obtain ⟨u, w', rfl, ⟨t, rfl⟩, ⟨t', rfl⟩⟩ := vals2 r
  refine min_two_strs (I.ok.hd hc) fun h' tk k => ⟨_, H, I.kept k, ?_, q⟩
  cases ltS j i <;> exact ⟨_, rfl⟩
theorem cr_minU (hc : X.calm = true) : CallR X (.builtin "min") rMinU := CallR.or (call_min2 hc) (call_min2S hc)
/-! dict(pairs), d.update(e), name = {..} -/
end
end Ob
set_option Elab.async false
set_option linter.all false
set_option maxRecDepth 100000
set_option maxHeartbeats 4000000
/-! Ob6: sequences (lists or tuples), panels; promises of pure defs; more expressions by type. -/
namespace Ob
open PySem L2
open Evl (Ex)
open PySem.W (Datum Tup DatumOrd)
/-! ### unpacking a tuple or a list -/
def gUnp (K : PySem.W.Frag) (n : Nat) (t : TGs) : TG := fun v σ H Q => gTup K n t v σ H Q ∨ gUnl K n t v σ H Q
theorem pg_unp {X : Cx} {pos : Pos} {es : List Expr} {k : Nat} {t : TGs} {n : Nat} (hc : X.calm = true) (h : PGs X es t)
    (hn : (assignEach es X.env).length = n := by rfl) (hst : (assignEach es X.env).findIdx? (·.1) = none := by rfl) : PG X (.Tuple es k pos) (gUnp X.K n t) :=
  ⟨fun pins s σ H v u Q I r hw => hw.elim (fun hw => (pg_tup hc h hn hst).run pins s σ H v u Q I r hw) (fun hw => (pg_unl hc h hn hst).run pins s σ H v u Q I r hw)⟩
/-! ### a list or a tuple of things -/
structure Sq (α : Type) where
  items : List α
instance {α : Type} [Rep α] : Rep (Sq α) := ⟨fun K H v s => ∃ a vs, v = .ref a ∧ (SqL K H a vs ∨ H a = some (.tup vs)) ∧ AtAll K H vs s.items,
  fun e ⟨a, vs, h1, h2, h3⟩ => ⟨a, vs, h1, h2.imp (exr_l e) (e.2.1 _ _), h3.monoR e⟩⟩
/-- a pair of names, as a tuple or a list -/
structure Pr where
  a : Str
  b : Str
  deriving DecidableEq
instance : Rep Pr := ⟨fun K H v p => ∃ a, v = .ref a ∧ (SqL K H a [.str p.a, .str p.b] ∨ H a = some (.tup [.str p.a, .str p.b])),
  fun e ⟨a, h1, h2⟩ => ⟨a, h1, h2.imp (exr_l e) (e.2.1 _ _)⟩⟩
/-- a panel, as tuples or lists at any depth -/
structure Pan where
  sw : List Str
  ex : List (Str × Str)
  deriving DecidableEq
def prs (xs : List (Str × Str)) : List Pr := xs.map fun p => ⟨p.1, p.2⟩
instance : Rep Pan := ⟨fun K H v p => ∃ a v1 v2, v = .ref a ∧ (SqL K H a [v1, v2] ∨ H a = some (.tup [v1, v2])) ∧ Rep.at_ K H v1 (Sq.mk p.sw) ∧ Rep.at_ K H v2 (Sq.mk (prs p.ex)),
  fun e ⟨a, v1, v2, h1, h2, h3, h4⟩ => ⟨a, v1, v2, h1, h2.imp (exr_l e) (e.2.1 _ _), Rep.monoR e h3, Rep.monoR e h4⟩⟩
/-- a panel as tuples -/
abbrev PanT : Type := Tup Str × Tup (Str × Str)
def Pan.t (p : Pan) : PanT := (⟨p.sw⟩, ⟨p.ex⟩)
section
variable {K : PySem.W.Frag} {H B B' : Hp} {v : V} {σ : L2.St} {te ta tb tc : TE} {tt tu : TT}
theorem sq_list {α : Type} [DecidableEq α] [Datum α] {xs : List α} (h : Rep.at_ K H v xs) : Rep.at_ K H v (Sq.mk xs) := by
  obtain ⟨a, vs, h1, h2, h3⟩ := at_list.mp h
  exact ⟨a, vs, h1, .inl h2, h3⟩
theorem Pe.imp {α β : Type} [Rep α] [Rep β] {x : α} {y : β} (h : Pe K te σ B x) (k : ∀ {H v}, Rep.at_ K H v x → Rep.at_ K H v y) : Pe K te σ B y := fun H e Q q => h H e Q fun v B2 H2 u hv => q v B2 H2 u (k hv)
theorem it_sq {α : Type} [Rep α] {xs : List α} (h : Pe K te σ B (Sq.mk xs)) : ItD K (iSeq K te) σ B xs := fun H e R q => h H e _ fun v B1 H1 u hv => by
  obtain ⟨a, vs, rfl, hs, hx⟩ := hv
  rcases hs with hs | hs
  · refine ⟨a, rfl, .inl ⟨⟨vs, Evl.ex_l u.bh hs⟩, ?_⟩⟩
    refine q (Itl K a) B1 H1 (fun H => SqL K H a vs) (YAt vs) u ?_ (fun H' e' => Evl.ex_l e' hs) fun i x Hx H' hi ex y => ?_
    · rw [← AtAll.length hx]
      exact walk_list
    · obtain ⟨y1, y2⟩ := y
      obtain ⟨d, hd, hxd⟩ := AtAll.get' hx y2
      refine ⟨d, hd, fun B' b1 b2 => ⟨B', ?_, Rep.mono b1 hxd⟩⟩
      rw [y1]
      exact Up.refl b2
  · refine ⟨a, rfl, .inr ⟨⟨vs, ex_tx u.bh hs⟩, ?_⟩⟩
    refine q (Itt K a) B1 H1 (fun H => SqT K H a vs) (YAt vs) u ?_ (fun H' e' => ex_tx e' hs) fun i x Hx H' hi ex y => ?_
    · rw [← AtAll.length hx]
      exact walk_tup
    · obtain ⟨y1, y2⟩ := y
      obtain ⟨d, hd, hxd⟩ := AtAll.get' hx y2
      refine ⟨d, hd, fun B' b1 b2 => ⟨B', ?_, Rep.mono b1 hxd⟩⟩
      rw [y1]
      exact Up.refl b2
/-! subscripts -/
theorem atI_of {α : Type} [Rep α] {vs : List V} {xs : List α} (h : AtAll K H vs xs) {i : Int} {x : α} (ha : atI xs i = some x) : ∃ v, atI vs i = some v ∧ Rep.at_ K H v x := by
  unfold atI at ha ⊢
  rw [h.length]
  cases e : ixN xs.length i with
  | none =>
    rw [e] at ha
    cases ha
  | some j =>
    rw [e] at ha
    exact h.get (i := j) ha
theorem e_ixSq {α : Type} [Rep α] {xs : List α} {i : Int} {x : α} (ha : Pe K ta σ B (Sq.mk xs)) (hb : Pe K tb σ B i) (hi : atI xs i = some x) : Pe K (tOp (rIxU K) ta tb) σ B x :=
  e_op ha hb fun B H v w e h1 h2 Q q => by
    obtain ⟨a, vs, rfl, hs, hx⟩ := h1
    obtain ⟨z, hz, hzx⟩ := atI_of hx hi
    cases at_int.mp h2
    rcases hs with hs | hs
    · exact .inl ⟨a, vs, i, z, rfl, rfl, Evl.ex_l e hs, hz, q z B H (Up.refl e) hzx⟩
    · exact .inr (.inl ⟨a, vs, i, z, rfl, rfl, ex_tx e hs, hz, q z B H (Up.refl e) hzx⟩)
theorem e_ixL {α : Type} [DecidableEq α] [Datum α] {xs : List α} {i : Int} {x : α} (ha : Pe K ta σ B xs) (hb : Pe K tb σ B i) (hi : atI xs i = some x) : Pe K (tOp (rIxU K) ta tb) σ B x := e_ixSq (ha.imp sq_list) hb hi
/-! a dict with text keys -/
/-! in, for sequences of either kind -/
/-! conversions -/
theorem e_lenSq {α : Type} [Rep α] {xs : List α} (h : Pe K te σ B (Sq.mk xs)) : Pe K (tCB (rLenU K) (tCons te tNil)) σ B (xs.length : Int) := fun H e Q q => h H e _ fun v B1 H1 u hv => by
  obtain ⟨a, vs, rfl, hs, hx⟩ := hv
  exact .inl ⟨.ref a, xs.length, rfl, hs.imp (fun hs => ⟨vs, Evl.ex_l u.bh hs, hx.length.symm⟩) (fun hs => ⟨vs, ex_tx u.bh hs, hx.length.symm⟩), q _ B1 H1 u (at_int.mpr rfl)⟩
/-! slices from a place on, to a place -/
/-! min, max of texts, of ints; abs, int of a bool -/
def minS (x y : Str) : Str := if ltS y x then y else x
def maxS (x y : Str) : Str := if ltS x y then y else x
theorem e_minI {x y : Int} (h : Pe K ta σ B x) (h2 : Pe K tb σ B y) : Pe K (tCB rMinU (tCons ta (tCons tb tNil))) σ B (if y < x then y else x) := fun H e Q q => h.both h2 e fun v w B1 H1 u hv hw => by
  cases at_int.mp hv
  cases at_int.mp hw
  exact .inl ⟨x, y, rfl, q _ B1 H1 u (at_int.mpr rfl)⟩
theorem e_abs {x : Int} (h : Pe K te σ B x) : Pe K (tCB rAbs (tCons te tNil)) σ B (if x < 0 then -x else x) := fun H e Q q => h H e _ fun v B1 H1 u hv => by
  cases at_int.mp hv
  exact ⟨x, rfl, q _ B1 H1 u (at_int.mpr rfl)⟩
theorem e_intB {x : Bool} (h : Pe K te σ B x) : Pe K (tCB rInt1 (tCons te tNil)) σ B (if x then 1 else 0 : Int) := fun H e Q q => h H e _ fun v B1 H1 u hv => by
  cases at_bl.mp hv
  exact .inr ⟨x, rfl, q _ B1 H1 u (at_int.mpr rfl)⟩
/-! ### promises of pure defs -/
section
variable {α β γ δ : Type} [Rep α] [Rep β] [Rep γ] [Rep δ]
def Fn1 (K : PySem.W.Frag) (pre : α → Prop) (f : α → β) : Sp := fun vs H Q _ => ∃ x B, Ex B H ∧ RCons K x RNil vs B ∧ pre x ∧ ∀ v B2 H2, Up B H B2 H2 → Rep.at_ K B2 v (f x) → Q v H2
def Fn2 (K : PySem.W.Frag) (pre : α → β → Prop) (f : α → β → γ) : Sp := fun vs H Q _ => ∃ x y B, Ex B H ∧ RCons K x (RCons K y RNil) vs B ∧ pre x y ∧ ∀ v B2 H2, Up B H B2 H2 → Rep.at_ K B2 v (f x y) → Q v H2
def Fn3 (K : PySem.W.Frag) (pre : α → β → γ → Prop) (f : α → β → γ → δ) : Sp := fun vs H Q _ => ∃ x y z B, Ex B H ∧ RCons K x (RCons K y (RCons K z RNil)) vs B ∧ pre x y z ∧ ∀ v B2 H2, Up B H B2 H2 → Rep.at_ K B2 v (f x y z) → Q v H2
theorem Fn1.len {pre : α → Prop} {f : α → β} (vs : List V) (H : Hp) (Q : VK) (E : XK) (h : Fn1 K pre f vs H Q E) : vs.length = 1 := by
  obtain ⟨x, B, e, ⟨v, r, rfl, h1, rfl⟩, _⟩ := h
  rfl
theorem Fn2.len {pre : α → β → Prop} {f : α → β → γ} (vs : List V) (H : Hp) (Q : VK) (E : XK) (h : Fn2 K pre f vs H Q E) : vs.length = 2 := by
  obtain ⟨x, y, B, e, ⟨v, r, rfl, h1, v2, r2, rfl, h2, rfl⟩, _⟩ := h
  rfl
theorem Fn3.len {pre : α → β → γ → Prop} {f : α → β → γ → δ} (vs : List V) (H : Hp) (Q : VK) (E : XK) (h : Fn3 K pre f vs H Q E) : vs.length = 3 := by
  obtain ⟨x, y, z, B, e, ⟨v, r, rfl, h1, v2, r2, rfl, h2, v3, r3, rfl, h3, rfl⟩, _⟩ := h
  rfl
theorem e_call1 {pre : α → Prop} {f : α → β} {E : XK} {x : α} (h : Pe K ta σ B x) (hp : pre x) : Pe K (tCall (Fn1 K pre f) [] E (tCons ta tNil)) σ B (f x) := fun H e Q q => a_1 h H e _ fun vs B1 H1 u hv => by
  rw [List.append_nil]
  exact ⟨x, B1, u.bh, hv, hp, fun v B2 H2 u2 h2 => q v B2 H2 (u.trans u2) h2⟩
theorem e_call2 {pre : α → β → Prop} {f : α → β → γ} {E : XK} {x : α} {y : β} (h : Pe K ta σ B x) (h2 : Pe K tb σ B y) (hp : pre x y) : Pe K (tCall (Fn2 K pre f) [] E (tCons ta (tCons tb tNil))) σ B (f x y) := fun H e Q q => a_2 h h2 H e _ fun vs B1 H1 u hv => by
  rw [List.append_nil]
  exact ⟨x, y, B1, u.bh, hv, hp, fun v B2 H2 u2 h2 => q v B2 H2 (u.trans u2) h2⟩
end
end
end Ob
set_option Elab.async false
set_option linter.all false
set_option maxRecDepth 100000
set_option maxHeartbeats 4000000
/-! Ob7: dict comprehensions, locks, freezing, lists that a loop grows. -/
namespace Ob
open PySem L2
open Evl (Ex)
open PySem.W (Datum Tup DatumOrd)
section
variable {K : PySem.W.Frag} {H B B' : Hp} {v : V} {σ : L2.St} {te ta tb tc tk tv : TE} {tt tu : TT}
/-! freezing, changing what is not frozen -/
theorem Up.mut {B H B2 H2 : Hp} (u : Up B H B2 H2) {a : Addr} {o : HO} (hf : H a = none) (hb : B2 a = none) : Up B H B2 (upd H2 a o) :=
  ⟨u.bb, ex_upd u.bh hb, Ex.mut u.hh hf, u.nw⟩
/-- a new object that is not frozen -/
theorem Up.hold {B H B2 H2 : Hp} (u : Up B H B2 H2) {a : Addr} {o : HO} (h : H2 a = none) : Up B H B2 (upd H2 a o) := u.mut (Evl.fresh_back u.hh h) (Evl.fresh_back u.bh h)
/-! dict comprehensions -/
theorem DicAt.mono {α : Type} [Rep α] (e : Ex H B) {ks : List (Key × V)} {d : List (Str × α)} (h : DicAt K H ks d) : DicAt K B ks d := Paired.mapP h fun _ _ q => ⟨q.1, Rep.mono e q.2⟩
/-! the keys of a locked dict -/
/-! a list grown -/
end
end Ob
set_option Elab.async false
set_option linter.all false
set_option maxRecDepth 100000
set_option maxHeartbeats 4000000
/-! P1: the defs of panels.py, effects.py, states.py: readings and promises. -/
namespace Ob
open PySem L2
open Evl (Ex)
open PySem.W (Datum Tup DatumOrd)
abbrev Ends.ret (Q : VK) : Ends := { nx := fun _ H' => Q .non H', rt := Q }
section
variable {K : PySem.W.Frag}
/-! ### are_ascending -/
theorem all_map_id {α : Type} (xs : List α) (f : α → Bool) : ((xs.filter fun _ => true).map f).all id = xs.all f := by
  rw [List.filter_eq_self.mpr fun _ _ => rfl, List.all_map]
  rfl
/-! ### look_switches (where the panel has them all) -/
/-! ### rival_table -/
/-- what the panel functions ask of a panel -/
structure PanOk (p : Pan) : Prop where
  nd : p.sw.Nodup
  ex : ∀ e ∈ p.ex, e.1 ∈ p.sw ∧ e.2 ∈ p.sw
  n1 : p.sw.length ≤ 100000
  n2 : p.ex.length ≤ 100000
/-- the dict's pairs -/
def kvOf (es : List (Str × Addr)) : List (Key × V) := es.map fun p => (.inr p.1, .ref p.2)
structure TabAt (es : List (Str × Addr)) (c : Str → List Str) (D : Addr) (B H : Hp) : Prop where
  dD : H D = some (.dK (kvOf es))
  dl : ∀ p ∈ es, H p.2 = some (.lst ((c p.1).map V.str))
  bD : B D = none
  bl : ∀ p ∈ es, B p.2 = none
  nd : (es.map (·.2)).Nodup
  ne : ∀ p ∈ es, p.2 ≠ D
theorem TabAt.up {es : List (Str × Addr)} {c : Str → List Str} {D : Addr} {B H B2 H2 : Hp} (t : TabAt es c D B H) (u : Up B H B2 H2) : TabAt es c D B2 H2 :=
  ⟨(u.out t.bD t.dD).2, fun p hp => (u.out (t.bl p hp) (t.dl p hp)).2, (u.out t.bD t.dD).1, fun p hp => (u.out (t.bl p hp) (t.dl p hp)).1, t.nd, t.ne⟩
end
end Ob
set_option Elab.async false
set_option linter.all false
set_option maxRecDepth 100000
set_option maxHeartbeats 4000000
/-! P2: rival_table. -/
set_option Elab.async false
set_option linter.all false
set_option maxRecDepth 100000
set_option maxHeartbeats 4000000
/-! M1: texts are ordered; sorted lists; filters by what follows. Plain Lean. -/
namespace Ob
open PySem L2
open PySem.W (Datum Tup DatumOrd)
/-! ### the order of texts -/
theorem str_ext {x y : Str} (h : x.cps.toList = y.cps.toList) : x = y := by
  cases x
  cases y
  simp at h
  rw [h]
theorem ltS_irr (x : Str) : ltS x x = false := decide_eq_false (List.lt_irrefl _)
theorem ltS_tr {x y z : Str} (h : ltS x y = true) (k : ltS y z = true) : ltS x z = true := decide_eq_true (List.lt_trans (of_decide_eq_true h) (of_decide_eq_true k))
theorem ltS_tri (x y : Str) : ltS x y = true ∨ x = y ∨ ltS y x = true := by
  by_cases h : x.cps.toList < y.cps.toList
  · exact .inl (decide_eq_true h)
  · by_cases k : y.cps.toList < x.cps.toList
    · exact .inr (.inr (decide_eq_true k))
    · exact .inr (.inl (str_ext (List.le_antisymm (List.not_lt.mp k) (List.not_lt.mp h))))
theorem ltS_asy {x y : Str} (h : ltS x y = true) : ltS y x = false := by
  cases k : ltS y x with
  | false => rfl
  | true =>
    have := ltS_tr h k
    rw [ltS_irr] at this
    cases this
/-- x is not behind y -/
def leS (x y : Str) : Bool := !ltS y x
theorem leS_total (x y : Str) : (leS x y || leS y x) = true := by
  unfold leS
  rcases ltS_tri x y with h | h | h
  · rw [ltS_asy h]; rfl
  · rw [h, ltS_irr]; rfl
  · rw [ltS_asy h]; simp
theorem leS_trans (x y z : Str) (h : leS x y = true) (k : leS y z = true) : leS x z = true := by
  unfold leS at *
  simp only [Bool.not_eq_true'] at *
  rcases ltS_tri z x with a | a | a
  · rcases ltS_tri y z with b | b | b
    · rw [ltS_tr b a] at h; cases h
    · rw [b] at h; rw [h] at a; cases a
    · rw [b] at k; cases k
  · rw [a]; exact ltS_irr _
  · exact ltS_asy a
theorem leS_anti {x y : Str} (h : leS x y = true) (k : leS y x = true) : x = y := by
  unfold leS at *
  simp only [Bool.not_eq_true'] at *
  rcases ltS_tri x y with a | a | a
  · rw [a] at k; cases k
  · exact a
  · rw [a] at h; cases h
theorem sortD_perm {α : Type} [DecidableEq α] [DatumOrd α] (xs : List α) : (sortD xs).Perm xs := List.mergeSort_perm xs _
theorem mem_sortD {α : Type} [DecidableEq α] [DatumOrd α] {xs : List α} {x : α} : x ∈ sortD xs ↔ x ∈ xs := (sortD_perm xs).mem_iff
theorem sortD_sorted (xs : List Str) : (sortD xs).Pairwise fun x y => leS x y = true := List.pairwise_mergeSort leS_trans leS_total xs
theorem sorted_uniq : ∀ {xs ys : List Str}, xs.Perm ys → xs.Pairwise (fun x y => leS x y = true) → ys.Pairwise (fun x y => leS x y = true) → xs = ys := fun h a b =>
  h.eq_of_pairwise (fun x y _ _ h k => leS_anti h k) a b
/-- strictly ascending -/
def Asc (xs : List Str) : Prop := xs.Pairwise fun x y => ltS x y = true
theorem asc_nodup {xs : List Str} (h : Asc xs) : xs.Nodup := h.imp fun {a b} hab e => by
  rw [e, ltS_irr] at hab
  cases hab
theorem asc_le {xs : List Str} (h : Asc xs) : xs.Pairwise fun x y => leS x y = true := h.imp fun {a b} hab => by
  unfold leS
  rw [ltS_asy hab]
  rfl
theorem sortD_asc {xs : List Str} (h : xs.Nodup) : Asc (sortD xs) := by
  have h1 := sortD_sorted xs
  have h2 : (sortD xs).Nodup := (sortD_perm xs).nodup_iff.mpr h
  refine (h1.and h2).imp fun {a b} hab => ?_
  obtain ⟨hle, hne⟩ := hab
  rcases ltS_tri a b with z | z | z
  · exact z
  · exact absurd z hne
  · unfold leS at hle
    rw [z] at hle
    cases hle
/-- two ascending lists of the same members are one -/
theorem asc_ext {xs ys : List Str} (hx : Asc xs) (hy : Asc ys) (h : ∀ z, z ∈ xs ↔ z ∈ ys) : xs = ys :=
  sorted_uniq ((List.perm_ext_iff_of_nodup (asc_nodup hx) (asc_nodup hy)).mpr h) (asc_le hx) (asc_le hy)
end Ob
set_option Elab.async false
set_option linter.all false
set_option maxRecDepth 100000
set_option maxHeartbeats 4000000
/-! Ob8: sets as dicts, two fors in one comprehension, isinstance of data, two names set at once. -/
namespace Ob
open PySem L2
open Evl (Ex)
open PySem.W (Datum Tup DatumOrd)
/-! ### keys in the order in which they came -/
section
variable {K : PySem.W.Frag} {H B B' : Hp} {v : V} {σ : L2.St} {te ta tb tc tk tv : TE} {tt tt1 tu : TT}
/-! ### what grows at D -/
structure Gw {β : Type} [Rep β] (K : PySem.W.Frag) (B1 H1 : Hp) (D : Addr) (Bi H' : Hp) (ws : List V) (out : List β) : Prop where
  nw : ∀ a, Bi a ≠ none → B1 a ≠ none ∨ H1 a = none
  bD : Bi D = none
  bh : Ex Bi H'
  hh : Ex H1 H'
  eD : H' D = some (.lst ws)
  al : AtAll K Bi ws out
theorem Gw.up {β : Type} [Rep β] {B1 H1 : Hp} {D : Addr} {Bi H' B2 H2 : Hp} {ws : List V} {out : List β} (g : Gw K B1 H1 D Bi H' ws out) (u : Up Bi H' B2 H2) : Gw K B1 H1 D B2 H2 ws out :=
  ⟨fun a ha => (u.nw a ha).elim (g.nw a) fun z => .inr (Evl.fresh_back g.hh z), (u.out g.bD g.eD).1, u.bh, g.hh.trans u.hh, (u.out g.bD g.eD).2, g.al.mono u.bb⟩
theorem Gw.push {β : Type} [Rep β] {B1 H1 : Hp} {D : Addr} {Bi H' : Hp} {ws : List V} {out : List β} {w : V} {y : β} (g : Gw K B1 H1 D Bi H' ws out) (hD : H1 D = none) (h : Rep.at_ K Bi w y) : Gw K B1 H1 D Bi (upd H' D (.lst (ws ++ [w]))) (ws ++ [w]) (out ++ [y]) :=
  ⟨g.nw, g.bD, ex_upd g.bh g.bD, Ex.mut g.hh hD, upd_same, AtAll.snoc g.al h⟩
end
end Ob
set_option Elab.async false
set_option linter.all false
set_option maxRecDepth 100000
set_option maxHeartbeats 4000000
/-! M2: more on sorted texts; filters by what follows; sorting a dict; names set in pairs. -/
namespace Ob
open PySem L2
open Evl (Ex)
open PySem.W (Datum Tup DatumOrd)
section
variable {K : PySem.W.Frag} {H B B' : Hp} {v : V} {σ : L2.St} {te ta tb tc tk tv : TE} {tt tt1 tu : TT}
/-! ### sorted(dict) -/
/-! ### {x: True for x in xs} -/
/-! ### two names at once -/
/-! ### isinstance of data -/
def tyD : PyData → String
  | .none => "NoneType"
  | .bool _ => "bool"
  | .int _ => "int"
  | .str _ => "str"
  | .list _ => "list"
  | .tuple _ => "tuple"
  | .dict _ => "dict"
theorem dp_ty : ∀ {d : PyData} {v : V}, Dp K H v d → TyX K H v (.type (tyD d))
  | _, _, .non => .base .non
  | _, _, .bl _ => .base (.bl _)
  | _, _, .int _ => .base (.int _)
  | _, _, .str _ => .base (.str _)
  | _, _, .lst h _ => by
    rcases h with (h | ⟨o, h⟩) | ⟨o, its, n, h1, h2, _⟩
    · exact .base (.lst h)
    · exact .base (.frz h)
    · exact .kList h1 h2
  | _, _, .tup h _ => by
    rcases h with (h | ⟨o, h⟩) | ⟨o, its, n, h1, h2, _⟩
    · exact .base (.tup h)
    · exact .fTuple h
    · exact .kTuple h1 h2
end
end Ob
set_option Elab.async false
set_option linter.all false
set_option maxRecDepth 100000
set_option maxHeartbeats 4000000
/-! M3: reading a list that still grows: frozen for the reading, thawed behind it. -/
namespace Ob
open PySem L2
open Evl (Ex)
open PySem.W (Datum Tup DatumOrd)
def cutH (B : Hp) (l : Addr) : Hp := fun a => if a = l then none else B a
theorem cutH_ne {B : Hp} {l a : Addr} (h : a ≠ l) : cutH B l a = B a := if_neg h
theorem cutH_same {B : Hp} {l : Addr} : cutH B l l = none := if_pos rfl
theorem up_cut {B H B2 H2 : Hp} {l : Addr} {o : HO} (hb : B l = none) (u : Up (upd B l o) H B2 H2) : Up B H (cutH B2 l) H2 := by
  refine ⟨fun a x h => ?_, fun a x h => ?_, u.hh, fun a h => ?_⟩
  · have ha : a ≠ l := fun z => by rw [z, hb] at h; cases h
    rw [cutH_ne ha]
    exact u.bb a x (by rw [upd_ne ha]; exact h)
  · by_cases ha : a = l
    · rw [ha, cutH_same] at h
      cases h
    · rw [cutH_ne ha] at h
      exact u.bh a x h
  · by_cases ha : a = l
    · rw [ha, cutH_same] at h
      exact absurd rfl h
    · rw [cutH_ne ha] at h
      have := u.nw a h
      rw [upd_ne ha] at this
      exact this
/-- data in which no list lies -/
class Thaw (α : Type) [Rep α] : Prop where
  thaw : ∀ {K : PySem.W.Frag} {B : Hp} {l : Addr} {ws : List V} {v : V} {x : α}, B l = some (.lst ws) → Rep.at_ K B v x → Rep.at_ K (cutH B l) v x
instance : Thaw Int := ⟨fun _ h => at_int.mpr (at_int.mp h)⟩
instance : Thaw Str := ⟨fun _ h => at_str.mpr (at_str.mp h)⟩
instance : Thaw Bool := ⟨fun _ h => at_bl.mpr (at_bl.mp h)⟩
theorem tup_thaw {B : Hp} {l : Addr} {ws : List V} {a : Addr} {vs : List V} (hl : B l = some (.lst ws)) (h : B a = some (.tup vs)) : cutH B l a = some (.tup vs) := by
  have ha : a ≠ l := fun z => by rw [z, hl] at h; cases h
  rw [cutH_ne ha]
  exact h
instance {α : Type} [DecidableEq α] [Datum α] [Thaw α] : Thaw (Tup α) := ⟨fun hl h => by
  obtain ⟨a, vs, e, h1, h2⟩ := at_tup.mp h
  exact at_tup.mpr ⟨a, vs, e, tup_thaw hl h1, Paired.mapP h2 fun _ _ q => Thaw.thaw hl q⟩⟩
instance {α β : Type} [DecidableEq α] [Datum α] [Thaw α] [DecidableEq β] [Datum β] [Thaw β] : Thaw (α × β) := ⟨fun hl h => by
  obtain ⟨a, v1, v2, e, h1, h2, h3⟩ := at_pair.mp h
  exact at_pair.mpr ⟨a, v1, v2, e, tup_thaw hl h1, Thaw.thaw hl h2, Thaw.thaw hl h3⟩⟩
section
variable {K : PySem.W.Frag} {H B B' : Hp} {v : V} {σ : L2.St} {te ta tb tc tk tv : TE} {tt tt1 tu : TT}
theorem Pe.thaw {α : Type} [Rep α] [Thaw α] {x : α} {l : Addr} {ws : List V} (h : Pe K te σ (upd B l (.lst ws)) x) (hb : B l = none) (e : Ex B H) (hl : H l = some (.lst ws)) {Q : VK}
    (q : ∀ v B2 H2, Up B H B2 H2 → B2 l = none → H2 l = some (.lst ws) → Rep.at_ K B2 v x → Q v H2) : te σ H Q :=
  h H (ex_in e hl) Q fun v B2 H2 u hv => q v (cutH B2 l) H2 (up_cut hb u) cutH_same (u.hh l _ hl) (Thaw.thaw (u.bb l _ upd_same) hv)
theorem Pt.thaw {b : Bool} {l : Addr} {o : HO} (h : Pt tt σ (upd B l o) b) (hb : B l = none) (e : Ex B H) (hl : H l = some o) {Q : Bool → Hp → Prop} (q : ∀ H2, Up B H B H2 → H2 l = some o → Q b H2) : tt σ H Q :=
  h H (ex_in e hl) Q fun B2 H2 u => q H2 ⟨Ex.refl _, e.trans u.hh, u.hh, fun _ h => .inl h⟩ (u.hh l _ hl)
theorem p_ift {b : Bool} {D : Ends} {t1 t2 : TS} {l : Addr} {o : HO} (h : Pt tt σ (upd B l o) b) (hb : B l = none) (e : Ex B H) (hl : H l = some o) (h1 : b = true → ∀ H1, Up B H B H1 → H1 l = some o → t1 D σ H1) (h2 : b = false → ∀ H1, Up B H B H1 → H1 l = some o → t2 D σ H1) : tIfS tt t1 t2 D σ H := h.thaw hb e hl fun H1 u hl1 => by
  cases b with
  | true => exact h1 rfl H1 u hl1
  | false => exact h2 rfl H1 u hl1
end
end Ob
set_option Elab.async false
set_option linter.all false
set_option maxRecDepth 100000
set_option maxHeartbeats 4000000
/-! P3: with_press, states_after, run, last_presses, left_on, touched, effect_of, is_state. -/
namespace Ob
open PySem L2
open Evl (Ex)
open PySem.W (Datum Tup DatumOrd)
/-- a small panel -/
structure PanS (p : Pan) : Prop extends PanOk p where
  s1 : p.sw.length < 60
  s2 : p.ex.length ≤ 400
/-! ### what presses do -/
/-! ### effects -/
abbrev Eff : Type := Tup Str × Tup Str
end Ob
set_option Elab.async false
set_option linter.all false
set_option maxRecDepth 100000
set_option maxHeartbeats 4000000
set_option Elab.async false
set_option linter.all false
set_option maxRecDepth 100000
set_option maxHeartbeats 4000000
/-! En: enumerate over a tuple, or over a list or a tuple. -/
namespace PySem
open Sem (wp)
end PySem
namespace L2
open PySem PySem.Spec PyProof.Rows
end L2
set_option Elab.async false
set_option linter.all false
set_option maxRecDepth 100000
set_option maxHeartbeats 4000000
set_option Elab.async false
set_option linter.all false
set_option maxRecDepth 100000
set_option maxHeartbeats 4000000
/-! D1: the law's box of drawn numbers: what may change it; take, of. -/
namespace Ob
open PySem L2
open Evl (Ex)
open PySem.W (Datum Tup DatumOrd)
/-- as Up, but the object at b may change -/
structure Ub (b : Addr) (B H B2 H2 : Hp) : Prop where
  bb : Ex B B2
  bh : Ex B2 H2
  hh : ∀ a u, a ≠ b → H a = some u → H2 a = some u
  nw : ∀ a, B2 a ≠ none → B a ≠ none ∨ H a = none
structure BoxAt (c : Int) (B H : Hp) (b : Addr) : Prop where
  fb : B b = none
  bx : ∃ g m k : Int, H b = some (.lst [.int g, .int m, .int k]) ∧ 0 ≤ g ∧ 0 ≤ m ∧ m < 2 ^ 62 ∧ 0 ≤ k ∧ k ≤ c
theorem BoxAt.le {c d : Int} {B H : Hp} {b : Addr} (h : BoxAt c B H b) (hd : c ≤ d) : BoxAt d B H b := by
  obtain ⟨f, g, m, k, h1, h2, h3, h4, h5, h6⟩ := h
  exact ⟨f, g, m, k, h1, h2, h3, h4, h5, Int.le_trans h6 hd⟩
theorem BoxAt.ne {c : Int} {B H : Hp} {b : Addr} (h : BoxAt c B H b) : H b ≠ none := by
  obtain ⟨f, g, m, k, h1, _⟩ := h
  rw [h1]
  exact fun z => nomatch z
theorem Up.ub {b : Addr} {B H B2 H2 : Hp} (u : Up B H B2 H2) : Ub b B H B2 H2 := ⟨u.bb, u.bh, fun a o _ h => u.hh a o h, u.nw⟩
theorem Ub.refl {b : Addr} {B H : Hp} (e : Ex B H) : Ub b B H B H := (Up.refl e).ub
theorem Up.box {c : Int} {b : Addr} {B H B2 H2 : Hp} (u : Up B H B2 H2) (x : BoxAt c B H b) : BoxAt c B2 H2 b := by
  obtain ⟨f, g, m, k, h1, h2⟩ := x
  exact ⟨(u.out f h1).1, g, m, k, (u.out f h1).2, h2⟩
theorem Ub.trans {b : Addr} {B H B1 H1 B2 H2 : Hp} (u : Ub b B H B1 H1) (hb : H1 b ≠ none) (w : Ub b B1 H1 B2 H2) : Ub b B H B2 H2 :=
  ⟨u.bb.trans w.bb, w.bh, fun a o ne h => w.hh a o ne (u.hh a o ne h), fun x h => by
    rcases w.nw x h with z | z
    · exact u.nw x z
    · cases q : H x with
      | none => exact .inr rfl
      | some o =>
        by_cases e : x = b
        · subst e
          exact absurd z hb
        · rw [u.hh x o e q] at z
          cases z⟩
theorem Ub.up {b : Addr} {B H B1 H1 B2 H2 : Hp} (u : Ub b B H B1 H1) (hb : H1 b ≠ none) (w : Up B1 H1 B2 H2) : Ub b B H B2 H2 := u.trans hb w.ub
theorem Ub.mut {b : Addr} {B H B2 H2 : Hp} (u : Ub b B H B2 H2) {o : HO} (hb : B2 b = none) : Ub b B H B2 (upd H2 b o) :=
  ⟨u.bb, ex_upd u.bh hb, fun a x ne h => by rw [upd_ne ne]; exact u.hh a x ne h, u.nw⟩
theorem Ub.fb {b : Addr} {B H B2 H2 : Hp} (u : Ub b B H B2 H2) {a : Addr} {o : HO} (hb : B a = none) (h : H a = some o) : B2 a = none := by
  cases q : B2 a with
  | none => rfl
  | some x =>
    rcases u.nw a (by rw [q]; exact fun z => nomatch z) with z | z
    · exact absurd hb z
    · rw [h] at z
      cases z
theorem Ub.out {b : Addr} {B H B2 H2 : Hp} (u : Ub b B H B2 H2) {a : Addr} {o : HO} (hb : B a = none) (h : H a = some o) (ne : a ≠ b) : B2 a = none ∧ H2 a = some o := ⟨u.fb hb h, u.hh a o ne h⟩
/-- a mutation elsewhere of what is new -/
theorem Ub.put {b : Addr} {B H B2 H2 : Hp} (u : Ub b B H B2 H2) {a : Addr} {o : HO} (hf : H a = none) (hb : B2 a = none) : Ub b B H B2 (upd H2 a o) :=
  ⟨u.bb, ex_upd u.bh hb, fun c x ne h => by
    have : c ≠ a := fun z => by rw [z, hf] at h; cases h
    rw [upd_ne this]
    exact u.hh c x ne h, u.nw⟩
/-- back to a heap in which b is new -/
theorem Ub.new {b : Addr} {B H B1 H1 B2 H2 : Hp} (u : Up B H B1 H1) (hn : H b = none) (hb : H1 b ≠ none) (w : Ub b B1 H1 B2 H2) : Up B H B2 H2 :=
  ⟨u.bb.trans w.bb, w.bh, fun a o h => by
    have ne : a ≠ b := fun z => by rw [z, hn] at h; cases h
    exact w.hh a o ne (u.hh a o h), ((Up.ub u).trans hb w).nw⟩
section
variable (K : PySem.W.Frag)
/-- a reading that draws at most n numbers from the box at b: what it gives is R -/
def Pb {α : Type} [Rep α] (b : Addr) (n : Int) (te : TE) (σ : L2.St) (B : Hp) (R : α → Prop) : Prop := ∀ H c, Ex B H → BoxAt c B H b → c + n ≤ 2 ^ 40 → ∀ Q : VK, (∀ v x B2 H2, Ub b B H B2 H2 → BoxAt (c + n) B2 H2 b → R x → Rep.at_ K B2 v x → Q v H2) → te σ H Q
def FnB1 {α β : Type} [Rep α] [Rep β] (n : Int) (pre : α → Prop) (R : α → β → Prop) : Sp := fun vs H Q _ => ∃ b B c x, Ex B H ∧ BoxAt c B H b ∧ c + n ≤ 2 ^ 40 ∧ (∃ v, vs = [.ref b, v] ∧ Rep.at_ K B v x) ∧ pre x ∧ ∀ v y B2 H2, Ub b B H B2 H2 → BoxAt (c + n) B2 H2 b → R x y → Rep.at_ K B2 v y → Q v H2
def FnB2 {α β γ : Type} [Rep α] [Rep β] [Rep γ] (n : Int) (pre : α → β → Prop) (R : α → β → γ → Prop) : Sp := fun vs H Q _ => ∃ b B c x y, Ex B H ∧ BoxAt c B H b ∧ c + n ≤ 2 ^ 40 ∧ (∃ v w, vs = [.ref b, v, w] ∧ Rep.at_ K B v x ∧ Rep.at_ K B w y) ∧ pre x y ∧ ∀ v z B2 H2, Ub b B H B2 H2 → BoxAt (c + n) B2 H2 b → R x y z → Rep.at_ K B2 v z → Q v H2
end
section
variable {K : PySem.W.Frag} {H B B' : Hp} {v : V} {σ : L2.St} {te ta tb tc tk tv : TE} {tt tt1 tu : TT} {b : Addr} {n m : Int}
section
variable {α β γ : Type} [Rep α] [Rep β] [Rep γ]
theorem FnB1.len {pre : α → Prop} {R : α → β → Prop} (vs : List V) (H : Hp) (Q : VK) (E : XK) (h : FnB1 K n pre R vs H Q E) : vs.length = 2 := by
  obtain ⟨b, B, c, x, _, _, _, ⟨v, rfl, _⟩, _⟩ := h
  rfl
theorem FnB2.len {pre : α → β → Prop} {R : α → β → γ → Prop} (vs : List V) (H : Hp) (Q : VK) (E : XK) (h : FnB2 K n pre R vs H Q E) : vs.length = 3 := by
  obtain ⟨b, B, c, x, y, _, _, _, ⟨v, w, rfl, _⟩, _⟩ := h
  rfl
theorem Pe.pb {x : α} (h : Pe K te σ B x) : Pb K b 0 te σ B (fun y => y = x) := fun H c e bx hc Q q => h H e Q fun v B2 H2 u hv => q v x B2 H2 u.ub ((u.box bx).le (by omega)) rfl hv
theorem Pb.imp {R R' : α → Prop} (h : Pb K b n te σ B R) (k : ∀ x, R x → R' x) : Pb K b n te σ B R' := fun H c e bx hc Q q => h H c e bx hc Q fun v x B2 H2 u ub r hv => q v x B2 H2 u ub (k x r) hv
theorem Pb.mono {R : α → Prop} (h : Pb K b n te σ B R) (e : Ex B B') : Pb K b n te σ B' R := fun H c a bx hc Q q => by
  have fb0 : B b = none := by
    cases z : B b with
    | none => rfl
    | some o =>
      have := e b o z
      rw [bx.fb] at this
      cases this
  have bx0 : BoxAt c B H b := ⟨fb0, bx.bx⟩
  refine h H c (e.trans a) bx0 hc Q fun v x B2 H2 u ub r hv => ?_
  have hB' : ∀ z o, B' z = some o → z ≠ b := fun z o hz w => by rw [w, bx.fb] at hz; cases hz
  refine q v x (fun a => match B2 a with | some o => some o | none => B' a) H2 ⟨fun z o hz => ?_, fun z o hz => ?_, u.hh, fun z hz => ?_⟩ ⟨?_, ub.bx⟩ r (Rep.mono (fun z o hz => ?_) hv)
  · show (match B2 z with | some o => some o | none => B' z) = some o
    cases y : B2 z with
    | none => exact hz
    | some o' =>
      have h1 := u.bh z o' y
      rw [u.hh z o (hB' z o hz) (a z o hz)] at h1
      show some o' = some o
      rw [h1]
  · have hz' : (match B2 z with | some o => some o | none => B' z) = some o := hz
    cases y : B2 z with
    | none =>
      rw [y] at hz'
      exact u.hh z o (hB' z o hz') (a z o hz')
    | some o' =>
      rw [y] at hz'
      rw [← hz']
      exact u.bh z o' y
  · have hz' : (match B2 z with | some o => some o | none => B' z) ≠ none := hz
    cases y : B2 z with
    | none =>
      rw [y] at hz'
      exact .inl hz'
    | some o' =>
      rcases u.nw z (by rw [y]; exact fun w => nomatch w) with w | w
      · refine .inl ?_
        cases zb : B z with
        | none => exact absurd zb w
        | some ob =>
          rw [e z ob zb]
          exact fun w => nomatch w
      · exact .inr w
  · show (match B2 b with | some o => some o | none => B' b) = none
    rw [ub.fb]
    exact bx.fb
  · show (match B2 z with | some o => some o | none => B' z) = some o
    rw [hz]
theorem Pb.le {R : α → Prop} (h : Pb K b n te σ B R) (hn : n ≤ m) : Pb K b m te σ B R := fun H c e bx hc Q q => h H c e bx (by omega) Q fun v x B2 H2 u ub r hv => q v x B2 H2 u (ub.le (by omega)) r hv
/-- the call of a def with the box and one argument -/
theorem b_call1 {pre : α → Prop} {R0 : α → Prop} {R : α → β → Prop} {E : XK} {i : Nat} (hi : σ[i]? = some (some (.ref b))) (h : Pb K b m te σ B R0) (hp : ∀ x, R0 x → pre x) (hn : 0 ≤ n := by decide) : Pb K b (m + n) (tCall (FnB1 K n pre R) [] E (tCons (tVar i) (tCons te tNil))) σ B (fun z => ∃ x, R0 x ∧ R x z) := fun H c e bx hc Q q =>
  ⟨_, hi, h H c e bx (by omega) _ fun v x B2 H2 u ub r hv => ⟨b, B2, c + m, x, u.bh, ub, by omega, ⟨v, rfl, hv⟩, hp x r, fun w y B3 H3 u3 ub3 r3 hw => q w y B3 H3 (u.trans ub.ne u3) (ub3.le (by omega)) ⟨x, r, r3⟩ hw⟩⟩
theorem e_callB1 {pre : α → Prop} {R : α → β → Prop} {E : XK} {i : Nat} {x : α} (hi : σ[i]? = some (some (.ref b))) (h : Pe K te σ B x) (hp : pre x) (hn : 0 ≤ n := by decide) : Pb K b n (tCall (FnB1 K n pre R) [] E (tCons (tVar i) (tCons te tNil))) σ B (R x) :=
  ((b_call1 hi h.pb (fun y hy => by rw [hy]; exact hp) hn).imp (R' := R x) fun z ⟨y, hy, r⟩ => by rw [hy] at r; exact r).le (by omega)
end
/-! ### the box's own numbers, read and set -/
section
variable {g mm k : Int}
theorem box_ix {i : Nat} {j x : Int} (hi : σ[i]? = some (some (.ref b))) (hx : atI [g, mm, k] j = some x) : Pe K (tOp (rIxU K) (tVar i) (tC (.int j))) σ (upd B b (.lst [.int g, .int mm, .int k])) x :=
  e_ixL (α := Int) (e_var hi (at_list.mpr ⟨b, _, rfl, Evl.sq_of upd_same, ints_atAll [g, mm, k]⟩)) e_int hx
theorem q_setBox {D : Ends} {tz : TS} {xs : List V} {i : Nat} {j : Int} {jj : Nat} {α : Type} [Rep α] [Thaw α] {x : α} (hi : σ[i]? = some (some (.ref b))) (h : Pe K te σ (upd B b (.lst xs)) x) (hb : B b = none) (e : Ex B H) (hl : H b = some (.lst xs)) (hj : ixN xs.length j = some jj)
    (q : ∀ v B1 H1, Up B H B1 H1 → B1 b = none → H1 b = some (.lst xs) → Rep.at_ K B1 v x → tz D σ (upd H1 b (.lst (xs.set jj v)))) : tSeq (tAsg te (gSub (tVar i) (tC (.int j)) rSetL)) tz D σ H :=
  h.thaw hb e hl fun v B1 H1 u b1 h1 hv => ⟨_, hi, ⟨b, xs, j, jj, rfl, rfl, h1, hj, q v B1 H1 u b1 h1 hv⟩⟩
theorem q_setT {D : Ends} {tz : TS} {o : List V} {i : Nat} {α : Type} [Rep α] [Thaw α] {x : α} (h : Pe K te σ (upd B b (.lst o)) x) (hb : B b = none) (e : Ex B H) (hl : H b = some (.lst o))
    (q : ∀ v B1 H1, Up B H B1 H1 → B1 b = none → H1 b = some (.lst o) → Rep.at_ K B1 v x → tz D (σ.set i (some v)) H1) : tSeq (tAsg te (gName i)) tz D σ H :=
  h.thaw hb e hl fun v B1 H1 u b1 h1 hv => q v B1 H1 u b1 h1 hv
end
/-! ### take -/
abbrev sp_Ltake (K : PySem.W.Frag) : Sp := FnB1 K 1 (fun n : Int => 0 < n ∧ n < 1073741824) (fun n (k : Int) => 0 ≤ k ∧ k < n)
def N_Ltake : List Str := ["_law_box_here", "_law_size", "_law_told", "_law_once", "_law_twice"]
def t_Ltake (K : PySem.W.Frag) : TS :=
  (tSeq (tIfS (tTest (tOp (rGtU K) (tOp (rIxU K) (tVar 0) (tC (.int 0))) (tC (.int 0)))) (tSeq (tAsg (tOp (rI (fun _ j => 0 < j) fun i j => .int (i % j)) (tOp (rIxU K) (tVar 0) (tC (.int 0))) (tVar 1)) (gName 2))
    (tSeq (tAsg (tOp (rI CDiv fun i j => .int (i / j)) (tOp (rIxU K) (tVar 0) (tC (.int 0))) (tVar 1)) (gSub (tVar 0) (tC (.int 0)) rSetL))
    (tRet (tVar 2)))) tNext)
    (tSeq (tAsg (tOp (rAddU K) (tOp (rIxU K) (tVar 0) (tC (.int 2))) (tC (.int 1))) (gSub (tVar 0) (tC (.int 2)) rSetL))
    (tSeq (tAsg (tOp (rI (fun _ j => 0 < j) fun i j => .int (i % j)) (tOp (rMulU) (tOp (rAddU K) (tOp (rIxU K) (tVar 0) (tC (.int 1))) (tOp (rMulU) (tC (.int 48271)) (tOp (rIxU K) (tVar 0) (tC (.int 2))))) (tOp (rAddU K) (tC (.int 39373)) (tOp (rIxU K) (tVar 0) (tC (.int 2))))) (tC (.int 2147483647))) (gName 3))
    (tSeq (tAsg (tOp (rI (fun _ j => 0 < j) fun i j => .int (i % j)) (tOp (rMulU) (tOp (rAddU K) (tOp (rAddU K) (tVar 3) (tOp (rIxU K) (tVar 0) (tC (.int 2)))) (tOp (rI CDiv fun i j => .int (i / j)) (tOp (rIxU K) (tVar 0) (tC (.int 1))) (tC (.int 1000003)))) (tOp (rAddU K) (tOp (rI (fun _ j => 0 < j) fun i j => .int (i % j)) (tVar 3) (tC (.int 40009))) (tC (.int 7)))) (tC (.int 2147483629))) (gName 4))
    (tRet (tOp (rI (fun _ j => 0 < j) fun i j => .int (i % j)) (tOp (rI CDiv fun i j => .int (i / j)) (tOp (rI (fun _ j => 0 < j) fun i j => .int (i % j)) (tOp (rAddU K) (tOp (rMulU) (tVar 4) (tC (.int 48271))) (tVar 3)) (tC (.int 2147483587))) (tC (.int 64))) (tVar 1)))))))
theorem l_Ltake (vs : List V) (H : Hp) (Q : VK) (E : XK) (h : sp_Ltake K vs H Q E) : vs.length = 2 := FnB1.len vs H Q E h
theorem cmul_small {i j : Int} (h1 : 0 ≤ j) (h2 : j < 2 ^ 62) : CMul i j := .inr ⟨by omega, by omega⟩
theorem r_Ltake (vs : List V) (H : Hp) (Q : VK) (E : XK) (h : sp_Ltake K vs H Q E) : t_Ltake K (Ends.ret Q) (start N_Ltake vs) H := by
  obtain ⟨b, B, c, n, e, bx, hc, ⟨v, rfl, hv⟩, ⟨hn, hn2⟩, q⟩ := h
  cases at_int.mp hv
  obtain ⟨fb, g, mm, k, hb, g0, m0, m1, k0, k1⟩ := bx
  have hv' : ∀ B : Hp, Rep.at_ K B (.int n) n := fun B => at_int.mpr rfl
  refine p_ift (b := decide ((0 : Int) < g)) (t_test (e_gt (box_ix rfl rfl) e_int)) fb e hb (fun hg H1 u1 hb1 => ?_) (fun hg H1 u1 hb1 => ?_)
  · have g1 : 0 < g := of_decide_eq_true hg
    refine q_setT (e_modI (box_ix rfl rfl) (e_var rfl (hv' _)) hn) fb u1.bh hb1 fun w B2 H2 u2 fb2 hb2 hw => ?_
    cases at_int.mp hw
    refine q_setBox (i := 0) (jj := 0) rfl (e_divI (i := g) (j := n) (box_ix rfl rfl) (e_var rfl (hv' _)) ⟨hn, hn2⟩) fb2 u2.bh hb2 rfl fun w3 B3 H3 u3 fb3 hb3 hw3 => ?_
    cases at_int.mp hw3
    refine p_ret (K := K) (x := g % n) (e_var rfl (at_int.mpr rfl)) (ex_upd u3.bh fb3) fun w4 B4 H4 u4 hw4 => ?_
    have u : Ub b B H B3 H3 := ((u1.trans u2).trans u3).ub
    refine q w4 (g % n) B4 H4 ((u.mut fb3).up (by rw [upd_same]; exact fun z => nomatch z) u4) (u4.box ⟨fb3, g / n, mm, k, upd_same, Int.ediv_nonneg g0 (by omega), m0, m1, k0, by omega⟩) ⟨Int.emod_nonneg _ (by omega), Int.emod_lt_of_pos _ hn⟩ hw4
  · refine q_setBox (i := 0) (jj := 2) rfl (e_addI (i := k) (j := 1) (box_ix rfl rfl) e_int) fb u1.bh hb1 rfl fun w3 B3 H3 u3 fb3 hb3 hw3 => ?_
    cases at_int.mp hw3
    have u : Ub b B H B3 (upd H3 b (.lst [.int g, .int mm, .int (k + 1)])) := ((u1.trans u3).ub).mut fb3
    have e3 : Ex B3 (upd H3 b (.lst [.int g, .int mm, .int (k + 1)])) := ex_upd u3.bh fb3
    have hb3' : upd H3 b (.lst [.int g, .int mm, .int (k + 1)]) b = some (.lst [.int g, .int mm, .int (k + 1)]) := upd_same
    have bx3 : BoxAt (c + 1) B3 (upd H3 b (.lst [.int g, .int mm, .int (k + 1)])) b := ⟨fb3, g, mm, k + 1, upd_same, g0, m0, m1, by omega, by omega⟩
    generalize hH : upd H3 b (.lst [.int g, .int mm, .int (k + 1)]) = H3' at u e3 hb3' bx3
    show tSeq _ _ _ _ (upd H3 b (.lst [.int g, .int mm, .int (k + 1)]))
    rw [hH]
    refine q_setT (e_modI (e_mulI (e_addI (box_ix rfl rfl) (e_mulI e_int (box_ix rfl rfl) (cmul_small (by omega) (by omega)))) (e_addI e_int (box_ix rfl rfl)) (cmul_small (by omega) (by omega))) e_int (by decide)) fb3 e3 hb3' fun w4 B4 H4 u4 fb4 hb4 hw4 => ?_
    generalize ho : (mm + 48271 * (k + 1)) * (39373 + (k + 1)) % 2147483647 = once at hw4
    have o0 : 0 ≤ once := by rw [← ho]; exact Int.emod_nonneg _ (by decide)
    have o1 : once < 2147483647 := by rw [← ho]; exact Int.emod_lt_of_pos _ (by decide)
    cases at_int.mp hw4
    have ov : ∀ B : Hp, Rep.at_ K B (V.int once) once := fun B => at_int.mpr rfl
    refine q_setT (e_modI (e_mulI (e_addI (e_addI (e_var rfl (ov _)) (box_ix rfl rfl)) (e_divI (box_ix rfl rfl) e_int ⟨by decide, by decide⟩)) (e_addI (e_modI (e_var rfl (ov _)) e_int (by decide)) e_int) (cmul_small ?_ ?_)) e_int (by decide)) fb4 u4.bh hb4 fun w5 B5 H5 u5 fb5 hb5 hw5 => ?_
    · have := Int.emod_nonneg once (b := 40009) (by decide)
      omega
    · have := Int.emod_lt_of_pos once (b := 40009) (by decide)
      omega
    · generalize (once + (k + 1) + mm / 1000003) * (once % 40009 + 7) % 2147483629 = twice at hw5
      cases at_int.mp hw5
      refine p_ret (e_modI (e_divI (e_modI (e_addI (e_mulI (e_var rfl (at_int.mpr rfl)) e_int (cmul_small (by decide) (by decide))) (e_var rfl (ov _))) e_int (by decide)) e_int ⟨by decide, by decide⟩) (e_var rfl (hv' _)) hn) u5.bh fun w6 B6 H6 u6 hw6 => ?_
      exact q w6 _ B6 H6 (u.up bx3.ne ((u4.trans u5).trans u6)) (((u4.trans u5).trans u6).box bx3) ⟨Int.emod_nonneg _ (by omega), Int.emod_lt_of_pos _ hn⟩ hw6
end
end Ob
set_option Elab.async false
set_option linter.all false
set_option maxRecDepth 100000
set_option maxHeartbeats 4000000
/-! D2: cell_at, box, of, strewn, names. -/
namespace Ob
open PySem L2
open Evl (Ex)
open PySem.W (Datum Tup DatumOrd)
section
variable {K : PySem.W.Frag} {H B B' : Hp} {v : V} {σ : L2.St} {te ta tb tc tk tv : TE} {tt tt1 tu : TT} {b : Addr} {n m : Int}
theorem e_const {α : Type} [Rep α] {x : α} (h : Rep.at_ K B v x) : Pe K (tC v) σ B x := fun H e Q q => q v B H (Up.refl e) h
/-- an expression around a reading that draws first -/
theorem b_lift {α β : Type} [Rep α] [Rep β] {R : α → Prop} {S : β → Prop} (ctx : TE → TE) (h : Pb K b n te σ B R) (k : ∀ x, R x → ∀ v B', Ex B B' → Rep.at_ K B' v x → ∃ z, S z ∧ Pe K (ctx (tC v)) σ B' z)
    (hctx : ∀ H Q, (te σ H fun v H1 => ctx (tC v) σ H1 Q) → ctx te σ H Q := by exact fun _ _ h => h) : Pb K b n (ctx te) σ B S := fun H c e bx hc Q q => hctx H Q (h H c e bx hc _ fun v x B1 H1 u ub r hv => by
  obtain ⟨z, hz, hp⟩ := k x r v B1 u.bb hv
  exact hp H1 u.bh Q fun w B2 H2 u2 hw => q w z B2 H2 (u.up ub.ne u2) (u2.box ub) hz hw)
theorem BoxAt.frz {c : Int} {a : Addr} {o : HO} (x : BoxAt c B H b) (ne : b ≠ a) : BoxAt c (upd B a o) H b := ⟨by rw [upd_ne ne]; exact x.fb, x.bx⟩
theorem BoxAt.put {c : Int} {a : Addr} {o : HO} (x : BoxAt c B H b) (ne : b ≠ a) : BoxAt c B (upd H a o) b := ⟨x.fb, by rw [upd_ne ne]; exact x.bx⟩
/-! texts, laid as a list -/
end
section
variable {K : PySem.W.Frag}
theorem p_retI3 {ta tb tc : TE} {σ : L2.St} {B H : Hp} {D : Ends} {i j k : Int} (h1 : Pe K ta σ B i) (h2 : Pe K tb σ B j) (h3 : Pe K tc σ B k) (e : Ex B H) (q : ∀ l B1 H1, Up B H B1 H1 → H1 l = none → D.rt (.ref l) (upd H1 l (.lst [.int i, .int j, .int k]))) : tRet (tLst (tCons ta (tCons tb (tCons tc tNil)))) D σ H :=
  a_3 h1 h2 h3 H e (fun vs H1 => vs.length ≤ sizeLine ∧ ∀ p, H1 p = none → D.rt (.ref p) (upd H1 p (.lst vs))) fun vs B2 H2 u2 hvs => by
    obtain ⟨w1, _, rfl, hw1, w2, _, rfl, hw2, w3, _, rfl, hw3, rfl⟩ := hvs
    cases at_int.mp hw1
    cases at_int.mp hw2
    cases at_int.mp hw3
    exact ⟨by show 3 ≤ sizeLine; rw [sizeLine_eq]; decide, fun p hp => q p B2 H2 u2 hp⟩
/-! ### cell_at, box -/
theorem int01 (b : Bool) : 0 ≤ (if b = true then 1 else 0 : Int) ∧ (if b = true then 1 else 0 : Int) < 2 ^ 62 := by cases b <;> exact ⟨by decide, by decide⟩
theorem abs0 (x : Int) : 0 ≤ (if x < 0 then -x else x) := by split <;> omega
def cellAt (xs : List Int) (k : Int) : Int := xs[k.toNat]?.getD 0
abbrev sp_Lcell_at (K : PySem.W.Frag) : Sp := Fn2 K (fun (_ : Sq Int) (k : Int) => 0 ≤ k) fun s k => cellAt s.items k
def N_Lcell_at : List Str := ["_law_script", "_law_k"]
def t_Lcell_at (K : PySem.W.Frag) : TS :=
  (tSeq (tIfS (tTest (tOp (rLtU K) (tVar 1) (tCB (rLenU K) (tCons (tVar 0) tNil)))) (tRet (tOp (rIxU K) (tVar 0) (tVar 1))) tNext)
    (tRet (tC (.int 0))))
theorem l_Lcell_at (vs : List V) (H : Hp) (Q : VK) (E : XK) (h : sp_Lcell_at K vs H Q E) : vs.length = 2 := Fn2.len vs H Q E h
theorem r_Lcell_at (vs : List V) (H : Hp) (Q : VK) (E : XK) (h : sp_Lcell_at K vs H Q E) : t_Lcell_at K (Ends.ret Q) (start N_Lcell_at vs) H := by
  obtain ⟨s, k, B, e, ⟨v1, _, rfl, h1, v2, _, rfl, h2, rfl⟩, hk, q⟩ := h
  obtain ⟨xs⟩ := s
  refine q_if (t_test (e_lt (e_var rfl h2) (e_lenSq (e_var rfl h1)))) e (fun hb B1 H1 u1 => ?_) fun hb B1 H1 u1 => ?_
  · have hlt : k < (xs.length : Int) := of_decide_eq_true hb
    have hi : atI xs k = some (cellAt xs k) := by
      unfold atI ixN cellAt
      rw [if_pos hk, if_pos hlt]
      show xs[k.toNat]? = _
      rw [List.getElem?_eq_getElem (by omega)]
      rfl
    exact p_ret (e_ixSq (x := cellAt xs k) (e_var rfl (Rep.mono u1.bb h1)) (e_var rfl (Rep.mono u1.bb h2)) hi) u1.bh fun v B2 H2 u2 hv => q v B2 H2 (u1.trans u2) hv
  · have hlt : ¬ k < (xs.length : Int) := of_decide_eq_false hb
    have hi : (0 : Int) = cellAt xs k := by
      unfold cellAt
      rw [List.getElem?_eq_none (by omega)]
      rfl
    show tRet (tC (.int 0)) (Ends.ret Q) (start N_Lcell_at [v1, v2]) H1
    exact p_ret (x := cellAt xs k) ((e_int (i := 0)).is hi) u1.bh fun v B2 H2 u2 hv => q v B2 H2 (u1.trans u2) hv
abbrev sp_Lbox (K : PySem.W.Frag) : Sp := fun vs H Q _ => ∃ (s : Sq Int) (k : Int) (B : Hp), Ex B H ∧ RCons K s (RCons K k RNil) vs B ∧ (0 ≤ k ∧ k ≤ 1000) ∧ ∀ b B2 H2, Up B H B2 H2 → H b = none → BoxAt 0 B2 H2 b → Q (.ref b) H2
def N_Lbox : List Str := ["_law_script", "_law_k", "_law_cell"]
def t_Lbox (K : PySem.W.Frag) : TS :=
  (tSeq (tAsg (tCall (sp_Lcell_at K) [] E0 (tCons (tVar 0) (tCons (tVar 1) tNil))) (gName 2))
    (tRet (tLst (tCons (tOp (rMulU) (tCB (rAbs) (tCons (tVar 2) tNil)) (tCB (rInt1) (tCons (tOp (rGeU K) (tCB (rAbs) (tCons (tVar 2) tNil)) (tOp (rI CPow fun i j => .int (i ^ j.toNat)) (tC (.int 10)) (tC (.int 18)))) tNil))) (tCons (tOp (rAddU K) (tOp (rAddU K) (tOp (rI (fun _ j => 0 < j) fun i j => .int (i % j)) (tVar 2) (tC (.int 2305843009213693951))) (tOp (rMulU) (tC (.int 39373)) (tVar 1))) (tC (.int 17))) (tCons (tC (.int 0)) tNil))))))
theorem l_Lbox (vs : List V) (H : Hp) (Q : VK) (E : XK) (h : sp_Lbox K vs H Q E) : vs.length = 2 := by
  obtain ⟨x, y, B, e, ⟨v, r, rfl, h1, v2, r2, rfl, h2, rfl⟩, _⟩ := h
  rfl
theorem r_Lbox (vs : List V) (H : Hp) (Q : VK) (E : XK) (h : sp_Lbox K vs H Q E) : t_Lbox K (Ends.ret Q) (start N_Lbox vs) H := by
  obtain ⟨s, k, B, e, ⟨v1, _, rfl, h1, v2, _, rfl, h2, rfl⟩, ⟨k0, k1⟩, q⟩ := h
  refine q_set (e_call2 (e_var rfl h1) (e_var rfl h2) k0) e fun v B1 H1 u1 hv => ?_
  generalize cellAt s.items k = x at hv
  have h2' := Rep.mono u1.bb h2
  have p1 : ∃ g : Int, 0 ≤ g ∧ Pe K (tOp (rMulU) (tCB (rAbs) (tCons (tVar 2) tNil)) (tCB (rInt1) (tCons (tOp (rGeU K) (tCB (rAbs) (tCons (tVar 2) tNil)) (tOp (rI CPow fun i j => .int (i ^ j.toNat)) (tC (.int 10)) (tC (.int 18)))) tNil))) [some v1, some v2, some v] B1 g := by
    have hp : Pe K (tOp (rI CPow fun i j => .int (i ^ j.toNat)) (tC (.int 10)) (tC (.int 18))) [some v1, some v2, some v] B1 ((10 : Int) ^ (18 : Int).toNat) := e_powI e_int e_int ⟨by decide, by decide, by decide⟩
    generalize (10 : Int) ^ (18 : Int).toNat = z at hp
    have hg := e_intB (e_ge (e_abs (e_var (σ := [some v1, some v2, some v]) (i := 2) rfl hv)) hp)
    exact ⟨_, Int.mul_nonneg (abs0 x) (int01 _).1, e_mulI (e_abs (e_var rfl hv)) hg (cmul_small (int01 _).1 (int01 _).2)⟩
  have p2 : ∃ m : Int, 0 ≤ m ∧ m < 2 ^ 62 ∧ Pe K (tOp (rAddU K) (tOp (rAddU K) (tOp (rI (fun _ j => 0 < j) fun i j => .int (i % j)) (tVar 2) (tC (.int 2305843009213693951))) (tOp (rMulU) (tC (.int 39373)) (tVar 1))) (tC (.int 17))) [some v1, some v2, some v] B1 m := by
    have e1 := Int.emod_nonneg x (b := 2305843009213693951) (by decide)
    have e2 := Int.emod_lt_of_pos x (b := 2305843009213693951) (by decide)
    exact ⟨_, by omega, by omega, e_addI (e_addI (e_modI (e_var rfl hv) e_int (by decide)) (e_mulI e_int (e_var rfl h2') (cmul_small k0 (by omega)))) e_int⟩
  obtain ⟨g, g0, p1⟩ := p1
  obtain ⟨m, m0, m1, p2⟩ := p2
  refine p_retI3 p1 p2 e_int u1.bh fun l B2 H2 u2 hl => ?_
  have u := u1.trans u2
  exact q l B2 _ (u.hold hl) (Evl.fresh_back u.hh hl) ⟨Evl.fresh_back u.bh hl, g, m, 0, upd_same, g0, m0, m1, by decide, by decide⟩
/-! ### of -/
end
end Ob
set_option Elab.async false
set_option linter.all false
set_option maxRecDepth 100000
set_option maxHeartbeats 4000000
/-! D3: strewn, names, presses. -/
namespace Ob
open PySem L2
open Evl (Ex)
open PySem.W (Datum Tup DatumOrd)
section
variable {K : PySem.W.Frag}
/-! ### strewn -/
/-! ### names -/
def poolN : List Str := ["a", "b", "c", "d", "ab", "ba", "abc", "lamp", "zz", "zzzzzz", "m", "mm", "fan", "x"]
end
end Ob
set_option Elab.async false
set_option linter.all false
set_option maxRecDepth 100000
set_option maxHeartbeats 4000000
/-! D4: presses, the law's rivals, the law's states. -/
namespace Ob
open PySem L2
open Evl (Ex)
open PySem.W (Datum Tup DatumOrd)
section
variable {K : PySem.W.Frag}
/-! ### presses -/
theorem rangeI_len (lo : Int) (n : Nat) : (rangeI lo n).length = n := by simp [rangeI]
/-! ### the law's table of rivals -/
end
end Ob
set_option Elab.async false
set_option linter.all false
set_option maxRecDepth 100000
set_option maxHeartbeats 4000000
/-! M5: states stay states; more exclusions, fewer on. Plain Lean. -/
set_option Elab.async false
set_option linter.all false
set_option maxRecDepth 100000
set_option maxHeartbeats 4000000
/-! D5: the law's states. -/
namespace Ob
open PySem L2
open Evl (Ex)
open PySem.W (Datum Tup DatumOrd)
section
variable {K : PySem.W.Frag}
structure PanG (m : Int) (p : Pan) : Prop where
  asc : Asc p.sw
  ne : p.sw ≠ []
  len : (p.sw.length : Int) ≤ m
  ex : ∀ e ∈ p.ex, (e.1 ∈ p.sw ∧ e.2 ∈ p.sw) ∧ ltS e.1 e.2 = true
  so : sortD p.ex = p.ex
  el : p.ex.length ≤ 300
  xn : p.ex.Nodup
  nm : ∀ x ∈ p.sw, x ∈ poolN
/-! ### state -/
end
end Ob
set_option Elab.async false
set_option linter.all false
set_option maxRecDepth 100000
set_option maxHeartbeats 4000000
/-! M4: the order of pairs of texts; least and greatest of two; neighbours in a list. -/
namespace Ob
open PySem L2
open PySem.W (Datum Tup DatumOrd)
abbrev SS : Type := Str × Str
end Ob
set_option Elab.async false
set_option linter.all false
set_option maxRecDepth 100000
set_option maxHeartbeats 4000000
/-! M6: the pairs of a path, a ring, a star: no pair twice. Plain Lean. -/
namespace Ob
open PySem L2
open PySem.W (Datum Tup DatumOrd)
def mm (x y : Str) : SS := (minS x y, maxS x y)
end Ob
set_option Elab.async false
set_option linter.all false
set_option maxRecDepth 100000
set_option maxHeartbeats 4000000
/-! D6: the law's panels. -/
namespace Ob
open PySem L2
open Evl (Ex)
open PySem.W (Datum Tup DatumOrd)
section
variable {K : PySem.W.Frag}
theorem atI_nat {α : Type} {xs : List α} {k : Int} {x : α} (k0 : 0 ≤ k) (h : xs[k.toNat]? = some x) : atI xs k = some x := by
  obtain ⟨l, _⟩ := List.getElem?_eq_some_iff.mp h
  unfold atI ixN
  rw [if_pos k0, if_pos (by omega)]
  exact h
end
end Ob
set_option Elab.async false
set_option linter.all false
set_option maxRecDepth 100000
set_option maxHeartbeats 4000000
/-! D7: what the laws' last defs need: pairs unpacked, two draws at once, tuples joined, all() over the boxes. -/
namespace Ob
open PySem L2
open Evl (Ex)
open PySem.W (Datum Tup DatumOrd)
section
variable {K : PySem.W.Frag} {H B B' : Hp} {v : V} {σ : L2.St} {te ta tb tc tk tv : TE} {tt tt1 tu : TT} {b : Addr} {n m : Int}
/-- _law_right: it holds -/
def RightP (K : PySem.W.Frag) : Sp := fun vs H Q _ => ∃ b B, vs = [.ref b] ∧ Ex B H ∧ BoxAt 0 B H b ∧ ∀ B2 H2, Ub b B H B2 H2 → Q (.bl true) H2
theorem RightP.len (vs : List V) (H : Hp) (Q : VK) (E : XK) (h : RightP K vs H Q E) : vs.length = 1 := by
  obtain ⟨b, B, rfl, _⟩ := h
  rfl
theorem e_right {s : Sq Int} {k : Int} {E E' : XK} (h1 : Pe K ta σ B s) (h2 : Pe K tb σ B k) (k0 : 0 ≤ k) (k1 : k ≤ 1000) : Pe K (tCall (RightP K) [] E (tCons (tCall (sp_Lbox K) [] E' (tCons ta (tCons tb tNil))) tNil)) σ B true := fun H e Q q =>
  a_2 h1 h2 H e (fun vs H1 => sp_Lbox K (vs ++ []) H1 (fun v H2 => RightP K ([v] ++ []) H2 Q E) E') fun vs B1 H1 u hv => by
    rw [List.append_nil]
    exact ⟨s, k, B1, u.bh, hv, ⟨k0, k1⟩, fun b B2 H2 u2 hn bx => ⟨b, B2, rfl, u2.bh, bx, fun B3 H3 u3 => q _ B3 H3 (u.trans (Ub.new u2 hn bx.ne u3)) (at_bl.mpr rfl)⟩⟩
/-- all([_law_right(_law_box(script, k)) for k in range(1 + min(j, len(script)))]) -/
theorem e_law {s : Sq Int} {j : Int} {i0 i1 : Nat} {vs : List Nat} {E E' : XK} {vsc : V} (hi : σ[i0]? = some (some vsc)) (hs : Rep.at_ K B vsc s) (j0 : 0 ≤ j) (j1 : j ≤ 100)
    (hset : ∀ w, ((wipe σ vs).set i1 (some w))[i0]? = some (some vsc) ∧ ((wipe σ vs).set i1 (some w))[i1]? = some (some w) ∧ wipe ((wipe σ vs).set i1 (some w)) vs = wipe σ vs) :
    Pe K (tCB (rAll K) (tCons (tLc (iRng1 (tCons (tOp (rAddU K) (tC (.int 1)) (tCB (rMinU) (tCons (tC (.int j)) (tCons (tCB (rLenU K) (tCons (tVar i0) tNil)) tNil)))) tNil)) (gName i1) tYes (tCall (RightP K) [] E (tCons (tCall (sp_Lbox K) [] E' (tCons (tVar i0) (tCons (tVar i1) tNil))) tNil)) vs) tNil)) σ B true := by
  have hm : 0 ≤ (if (s.items.length : Int) < j then (s.items.length : Int) else j) ∧ (if (s.items.length : Int) < j then (s.items.length : Int) else j) ≤ j := by split <;> omega
  refine (e_all (e_lc (fun _ => true) (fun _ : Int => true) (it_rng1 (e_addI e_int (e_minI e_int (e_lenSq (e_var hi hs)))) (by omega) (by omega)) (by rw [rangeI_len]; omega) fun k hk w B1 b1 hw => turn_name rfl (hset w).2.2 t_yes fun _ => ?_)).is ?_
  · obtain ⟨z, hz, rfl⟩ := List.mem_map.mp hk
    rw [List.mem_range] at hz
    exact e_right (e_var (hset w).1 (Rep.mono b1 hs)) (e_var (hset w).2.1 hw) (by omega) (by omega)
  · rw [all_map_id]
    simp
end
section
variable {K : PySem.W.Frag}
/-- the law, of its script -/
abbrev sp_law (K : PySem.W.Frag) : Sp := Fn1 K (fun _ : Sq Int => True) fun _ => true
theorem l_law (vs : List V) (H : Hp) (Q : VK) (E : XK) (h : sp_law K vs H Q E) : vs.length = 1 := Fn1.len vs H Q E h
abbrev sp_Lright (K : PySem.W.Frag) : Sp := RightP K
theorem l_Lright (vs : List V) (H : Hp) (Q : VK) (E : XK) (h : sp_Lright K vs H Q E) : vs.length = 1 := RightP.len vs H Q E h
def N_law : List Str := ["_law_script", "_law_k"]
def t_law (K : PySem.W.Frag) : TS :=
  (tRet (tCB (rAll K) (tCons (tLc (iRng1 (tCons (tOp (rAddU K) (tC (.int 1)) (tCB (rMinU) (tCons (tC (.int 2)) (tCons (tCB (rLenU K) (tCons (tVar 0) tNil)) tNil)))) tNil)) (gName 1) tYes (tCall (sp_Lright K) [] E0 (tCons (tCall (sp_Lbox K) [] E0 (tCons (tVar 0) (tCons (tVar 1) tNil))) tNil)) [1]) tNil)))
theorem r_law (vs : List V) (H : Hp) (Q : VK) (E : XK) (h : sp_law K vs H Q E) : t_law K (Ends.ret Q) (start N_law vs) H := by
  obtain ⟨s, B, e, ⟨v, _, rfl, h1, rfl⟩, _, q⟩ := h
  exact p_ret (e_law (s := s) rfl h1 (by decide) (by decide) (fun w => ⟨rfl, rfl, rfl⟩)) e q
end
end Ob
set_option Elab.async false
set_option linter.all false
set_option maxRecDepth 100000
set_option maxHeartbeats 4000000
/-! S1: the state as one record: slots by what they hold, objects that may change, what stood at the start. -/
namespace Ob
open PySem L2
open Evl (Ex)
open PySem.W (Datum Tup DatumOrd)
/-! ### slots -/
structure Cell where
  α : Type
  inst : Rep α
  x : α
abbrev ce {α : Type} [r : Rep α] (x : α) : Option Cell := some ⟨α, r, x⟩
abbrev ca (l : Addr) : Option Cell := ce (Any.mk (.ref l))
def At1 (K : PySem.W.Frag) (B : Hp) (o : Option V) (c : Option Cell) : Prop := ∀ d, c = some d → ∃ v, o = some v ∧ @Rep.at_ d.α d.inst K B v d.x
inductive Slots (K : PySem.W.Frag) (B : Hp) : L2.St → List (Option Cell) → Prop where
  | nil : Slots K B [] []
  | cons {o : Option V} {c : Option Cell} {σ : L2.St} {Γ : List (Option Cell)} (a : At1 K B o c) (t : Slots K B σ Γ) : Slots K B (o :: σ) (c :: Γ)
def cg : List (Option Cell) → Nat → Option Cell
  | [], _ => none
  | c :: _, 0 => c
  | _ :: Γ, n + 1 => cg Γ n
def cs : List (Option Cell) → Nat → Option Cell → List (Option Cell)
  | [], _, _ => []
  | _ :: Γ, 0, c => c :: Γ
  | d :: Γ, n + 1, c => d :: cs Γ n c
def cw (Γ : List (Option Cell)) : List Nat → List (Option Cell)
  | [] => Γ
  | v :: vs => cs (cw Γ vs) v none
section
variable {K : PySem.W.Frag} {B B' H : Hp} {σ : L2.St} {Γ : List (Option Cell)} {te ta tb tc tk tv : TE} {tt tu : TT}
theorem At1.none {o : Option V} : At1 K B o none := fun _ h => by cases h
theorem At1.some {α : Type} [r : Rep α] {v : V} {x : α} (h : Rep.at_ K B v x) : At1 K B (some v) (ce x) := fun d e => by
  cases e
  exact ⟨v, rfl, h⟩
theorem Slots.mono (s : Slots K B σ Γ) (e : Ex B B') : Slots K B' σ Γ := by
  induction s with
  | nil => exact .nil
  | cons h t ih => exact .cons (fun d hd => by
      obtain ⟨v, h1, h2⟩ := h d hd
      exact ⟨v, h1, @Rep.mono d.α d.inst _ _ _ _ _ e h2⟩) ih
theorem Slots.get : ∀ {σ : L2.St} {Γ : List (Option Cell)}, Slots K B σ Γ → ∀ {i : Nat} {d : Cell}, cg Γ i = some d → ∃ v, σ[i]? = some (some v) ∧ @Rep.at_ d.α d.inst K B v d.x
  | _, _, .nil, _, _, h => by cases h
  | _, _, .cons a t, 0, d, h => by
    obtain ⟨v, h1, h2⟩ := a d h
    exact ⟨v, by rw [h1]; rfl, h2⟩
  | _, _, .cons a t, n + 1, d, h => by
    obtain ⟨v, h1, h2⟩ := Slots.get t (i := n) h
    exact ⟨v, by simpa using h1, h2⟩
theorem Slots.put : ∀ {σ : L2.St} {Γ : List (Option Cell)}, Slots K B σ Γ → ∀ (i : Nat) {o : Option V} {c : Option Cell}, At1 K B o c → Slots K B (σ.set i o) (cs Γ i c)
  | _, _, .nil, _, _, _, _ => .nil
  | _, _, .cons a t, 0, _, _, h => .cons h t
  | _, _, .cons a t, n + 1, _, _, h => .cons a (Slots.put t n h)
theorem Slots.set {α : Type} [r : Rep α] (s : Slots K B σ Γ) (i : Nat) {v : V} {x : α} (h : Rep.at_ K B v x) : Slots K B (σ.set i (some v)) (cs Γ i (ce x)) := s.put i (At1.some h)
theorem Slots.wipe (s : Slots K B σ Γ) : ∀ vs : List Nat, Slots K B (wipe σ vs) (cw Γ vs)
  | [] => s
  | v :: vs => (Slots.wipe s vs).put v At1.none
theorem Slots.wiped : ∀ (vs : List Nat) {σ : L2.St} {Γ : List (Option Cell)}, Slots K B σ Γ → Slots K B σ (cw Γ vs)
  | [], _, _, s => s
  | v :: vs, σ, Γ, s => by
    have h := Slots.wiped vs s
    have key : ∀ {σ : L2.St} {Γ : List (Option Cell)}, Slots K B σ Γ → ∀ i, Slots K B σ (cs Γ i none) := by
      intro σ Γ s
      induction s with
      | nil => intro i; exact .nil
      | cons a t ih =>
        intro i
        cases i with
        | zero => exact .cons At1.none t
        | succ n => exact .cons a (ih n)
    exact key h v
/-- the slot i, read -/
theorem Slots.v {α : Type} [r : Rep α] {x : α} (s : Slots K B σ Γ) (i : Nat) (h : cg Γ i = ce x) : Pe K (tVar i) σ B x := by
  obtain ⟨v, h1, h2⟩ := s.get h
  exact e_var h1 h2
theorem Slots.rf {l : Addr} (s : Slots K B σ Γ) (i : Nat) (h : cg Γ i = ca l) : σ[i]? = some (some (.ref l)) := by
  obtain ⟨v, h1, h2⟩ := s.get h
  have : v = .ref l := h2
  rw [h1, this]
theorem set_none_comm {σ : L2.St} {i : Nat} : ∀ {vs : List Nat}, i ∈ vs → ∀ o, L2.wipe (σ.set i o) vs = L2.wipe σ vs
  | v :: vs, h, o => by
    unfold L2.wipe
    by_cases hi : i ∈ vs
    · rw [set_none_comm hi o]
    · have hv : i = v := (List.mem_cons.mp h).resolve_right hi
      subst hv
      have key : ∀ {vs : List Nat}, i ∉ vs → L2.wipe (σ.set i o) vs = (L2.wipe σ vs).set i o := by
        intro vs
        induction vs with
        | nil => intro _; rfl
        | cons w ws ih =>
          intro hn
          rw [List.mem_cons, not_or] at hn
          unfold L2.wipe
          rw [ih hn.2, List.set_comm _ _ (fun z => hn.1 z)]
      rw [key hi, List.set_set]
theorem wipe_wipe {σ : L2.St} {vs : List Nat} : L2.wipe (L2.wipe σ vs) vs = L2.wipe σ vs := by
  have key : ∀ ws : List Nat, (∀ w ∈ ws, w ∈ vs) → L2.wipe (L2.wipe σ ws) vs = L2.wipe σ vs := by
    intro ws
    induction ws with
    | nil => intro _; rfl
    | cons w ws ih =>
      intro h
      show L2.wipe ((L2.wipe σ ws).set w none) vs = _
      rw [set_none_comm (h w List.mem_cons_self)]
      exact ih fun z hz => h z (List.mem_cons_of_mem _ hz)
  exact key vs fun _ h => h
/-! ### comprehensions by slots -/
section
variable {β γ : Type} [DecidableEq β] [Datum β] [Rep γ] {wi : TI} {xs : List γ} {j : Nat}
theorem Slots.turn (s : Slots K B σ Γ) {v : V} {x : γ} (h : Rep.at_ K B v x) : Slots K B ((L2.wipe σ [j]).set j (some v)) (cs (cw Γ [j]) j (ce x)) := (s.wipe [j]).set j h
theorem Slots.lc (s : Slots K B σ Γ) (f : γ → Bool) (y : γ → β) (h : ItD K wi σ B xs) (hz : xs.length ≤ 1000000)
    (ht : ∀ x ∈ xs, ∀ σ2 B1, Ex B B1 → Slots K B1 σ2 (cs (cw Γ [j]) j (ce x)) → Pt tt σ2 B1 (f x) ∧ (f x = true → Pe K te σ2 B1 (y x))) : Pe K (tLc wi (gName j) tt te [j]) σ B ((xs.filter f).map y) :=
  e_lc f y h hz fun x hx v B1 b1 hv => by
    obtain ⟨h1, h2⟩ := ht x hx _ B1 b1 ((s.mono b1).turn hv)
    exact turn_name rfl (by rw [set_none_comm (List.mem_singleton.mpr rfl), wipe_wipe]) h1 h2
/-- without a test -/
theorem Slots.lcA (s : Slots K B σ Γ) (y : γ → β) (h : ItD K wi σ B xs) (hz : xs.length ≤ 1000000)
    (ht : ∀ x ∈ xs, ∀ σ2 B1, Ex B B1 → Slots K B1 σ2 (cs (cw Γ [j]) j (ce x)) → Pe K te σ2 B1 (y x)) : Pe K (tLc wi (gName j) tYes te [j]) σ B (xs.map y) :=
  (s.lc (fun _ => true) y h hz fun x hx σ2 B1 b1 s2 => ⟨t_yes, fun _ => ht x hx σ2 B1 b1 s2⟩).is (by rw [List.filter_eq_self.mpr fun _ _ => rfl])
end
end
/-! ### objects that may change -/
structure OC where
  l : Addr
  P : Hp → HO → Prop
  mono : ∀ {B B' : Hp} {o : HO}, Ex B B' → P B o → P B' o
def lstC (K : PySem.W.Frag) (l : Addr) {α : Type} [Rep α] (xs : List α) : OC := ⟨l, fun B o => ∃ vs, o = .lst vs ∧ AtAll K B vs xs, fun e ⟨vs, h1, h2⟩ => ⟨vs, h1, h2.mono e⟩⟩
def boxC (b : Addr) (c : Int) : OC := ⟨b, fun _ o => ∃ g m k : Int, o = .lst [.int g, .int m, .int k] ∧ 0 ≤ g ∧ 0 ≤ m ∧ m < 2 ^ 62 ∧ 0 ≤ k ∧ k ≤ c, fun _ h => h⟩
structure St (K : PySem.W.Frag) (W0 : List Addr) (B0 H0 : Hp) (os : List OC) (Γ : List (Option Cell)) (σ : L2.St) (B H : Hp) : Prop where
  bb : Ex B0 B
  bh : Ex B H
  hh : ∀ a u, a ∉ W0 → H0 a = some u → H a = some u
  dm : ∀ a, H0 a ≠ none → H a ≠ none
  nw : ∀ a, B a ≠ none → B0 a ≠ none ∨ H0 a = none
  own : ∀ o ∈ os, B o.l = none ∧ (o.l ∈ W0 ∨ H0 o.l = none) ∧ ∃ ob, H o.l = some ob ∧ o.P B ob
  nd : (os.map (·.l)).Nodup
  sl : Slots K B σ Γ
section
variable {K : PySem.W.Frag} {W0 : List Addr} {B0 H0 : Hp} {os : List OC} {Γ : List (Option Cell)} {σ : L2.St} {B H B1 H1 : Hp} {te ta tb tc tk tv : TE} {tt : TT} {D : Ends} {tu tw tz : TS}
theorem St.up (s : St K W0 B0 H0 os Γ σ B H) (u : Up B H B1 H1) : St K W0 B0 H0 os Γ σ B1 H1 where
  bb := s.bb.trans u.bb
  bh := u.bh
  hh a x h h0 := u.hh a x (s.hh a x h h0)
  dm a h := by
    cases q : H a with
    | none => exact absurd q (s.dm a h)
    | some o =>
      rw [u.hh a o q]
      exact fun z => nomatch z
  nw a h := by
    rcases u.nw a h with z | z
    · exact s.nw a z
    · cases q : H0 a with
      | none => exact .inr rfl
      | some o => exact absurd z (s.dm a (by rw [q]; exact fun z => nomatch z))
  own o ho := by
    obtain ⟨h1, h2, ob, h3, h4⟩ := s.own o ho
    exact ⟨(u.out h1 h3).1, h2, ob, (u.out h1 h3).2, o.mono u.bb h4⟩
  nd := s.nd
  sl := s.sl.mono u.bb
theorem St.slot (s : St K W0 B0 H0 os Γ σ B H) {σ' : L2.St} {Γ' : List (Option Cell)} (h : Slots K B σ' Γ') : St K W0 B0 H0 os Γ' σ' B H := ⟨s.bb, s.bh, s.hh, s.dm, s.nw, s.own, s.nd, h⟩
theorem St.fg (s : St K W0 B0 H0 os Γ σ B H) (vs : List Nat) : St K W0 B0 H0 os (cw Γ vs) σ B H := s.slot (s.sl.wiped vs)
theorem St.put (s : St K W0 B0 H0 os Γ σ B H) {α : Type} [Rep α] (i : Nat) {v : V} {x : α} (h : Rep.at_ K B v x) : St K W0 B0 H0 os (cs Γ i (ce x)) (σ.set i (some v)) B H := s.slot (s.sl.set i h)
/-- the slot i, read -/
theorem St.v (s : St K W0 B0 H0 os Γ σ B H) {α : Type} [r : Rep α] {x : α} (i : Nat) (h : cg Γ i = ce x) : Pe K (tVar i) σ B x := s.sl.v i h
/-- a turn's own record, joined with that from the start -/
theorem St.comp (s : St K W0 B0 H0 os Γ σ B H) {os' : List OC} {Γ' : List (Option Cell)} {σ' : L2.St} (w : St K (os.map (·.l)) B H os' Γ' σ' B1 H1) : St K W0 B0 H0 os' Γ' σ' B1 H1 where
  bb := s.bb.trans w.bb
  bh := w.bh
  hh a x h h0 := by
    refine w.hh a x (fun hm => ?_) (s.hh a x h h0)
    obtain ⟨o, ho, rfl⟩ := List.mem_map.mp hm
    rcases (s.own o ho).2.1 with z | z
    · exact h z
    · rw [z] at h0
      cases h0
  dm a h := w.dm a (s.dm a h)
  nw a h := by
    rcases w.nw a h with z | z
    · exact s.nw a z
    · cases q : H0 a with
      | none => exact .inr rfl
      | some o => exact absurd z (s.dm a (by rw [q]; exact fun z => nomatch z))
  own o ho := by
    obtain ⟨h1, h2, h3⟩ := w.own o ho
    refine ⟨h1, ?_, h3⟩
    rcases h2 with z | z
    · obtain ⟨o', ho', e⟩ := List.mem_map.mp z
      have := (s.own o' ho').2.1
      rw [e] at this
      exact this
    · cases q : H0 o.l with
      | none => exact .inr rfl
      | some x => exact absurd z (s.dm _ (by rw [q]; exact fun z => nomatch z))
  nd := w.nd
  sl := w.sl
/-- a turn's own record, at its start -/
theorem St.here (s : St K W0 B0 H0 os Γ σ B H) : St K (os.map (·.l)) B H os Γ σ B H where
  bb := Ex.refl B
  bh := s.bh
  hh _ _ _ h := h
  dm _ h := h
  nw _ h := .inl h
  own o ho := ⟨(s.own o ho).1, .inl (List.mem_map.mpr ⟨o, ho, rfl⟩), (s.own o ho).2.2⟩
  nd := s.nd
  sl := s.sl
theorem St.toUp (s : St K [] B0 H0 os Γ σ B H) : Up B0 H0 B H := ⟨s.bb, s.bh, fun a u h => s.hh a u (by simp) h, s.nw⟩
theorem St.toUb {b : Addr} (s : St K [b] B0 H0 os Γ σ B H) : Ub b B0 H0 B H := ⟨s.bb, s.bh, fun a u ne h => s.hh a u (by simpa using ne) h, s.nw⟩
theorem St.box {b : Addr} {c : Int} (s : St K W0 B0 H0 (boxC b c :: os) Γ σ B H) : BoxAt c B H b := by
  obtain ⟨h1, _, ob, h3, g, m, k, rfl, h4⟩ := s.own _ List.mem_cons_self
  exact ⟨h1, g, m, k, h3, h4⟩
theorem boxC_of {b : Addr} {c : Int} (x : BoxAt c B H b) : B b = none ∧ ∃ ob, H b = some ob ∧ (boxC b c).P B ob := by
  obtain ⟨f, g, m, k, h1, h2⟩ := x
  exact ⟨f, _, h1, g, m, k, rfl, h2⟩
/-- behind a draw -/
theorem St.ub {b : Addr} {c d : Int} (s : St K W0 B0 H0 (boxC b c :: os) Γ σ B H) (u : Ub b B H B1 H1) (x : BoxAt d B1 H1 b) : St K W0 B0 H0 (boxC b d :: os) Γ σ B1 H1 := by
  have hb := s.own _ List.mem_cons_self
  have hH : H b ≠ none := s.box.ne
  refine ⟨s.bb.trans u.bb, u.bh, fun a w h h0 => ?_, fun a h => ?_, fun a h => ?_, fun o ho => ?_, s.nd, s.sl.mono u.bb⟩
  · refine u.hh a w (fun z => ?_) (s.hh a w h h0)
    subst z
    rcases hb.2.1 with z | z
    · exact h z
    · have z' : H0 a = none := z
      rw [z'] at h0
      cases h0
  · by_cases e : a = b
    · rw [e]
      exact x.ne
    · cases q : H a with
      | none => exact absurd q (s.dm a h)
      | some o =>
        rw [u.hh a o e q]
        exact fun z => nomatch z
  · rcases u.nw a h with z | z
    · exact s.nw a z
    · cases q : H0 a with
      | none => exact .inr rfl
      | some o => exact absurd z (s.dm a (by rw [q]; exact fun z => nomatch z))
  · rcases List.mem_cons.mp ho with rfl | ho
    · obtain ⟨h1, h2⟩ := boxC_of x
      exact ⟨h1, hb.2.1, h2⟩
    · obtain ⟨h1, h2, ob, h3, h4⟩ := s.own o (List.mem_cons_of_mem _ ho)
      have ne : o.l ≠ b := fun z => by
        have := s.nd
        rw [List.map_cons, List.nodup_cons] at this
        exact this.1 (List.mem_map.mpr ⟨o, ho, z⟩)
      exact ⟨(u.out h1 h3 ne).1, h2, ob, (u.out h1 h3 ne).2, o.mono u.bb h4⟩
theorem St.le {b : Addr} {c d : Int} (s : St K W0 B0 H0 (boxC b c :: os) Γ σ B H) (h : c ≤ d) : St K W0 B0 H0 (boxC b d :: os) Γ σ B H := s.ub (Ub.refl s.bh) (s.box.le h)
/-- a new object that may change -/
theorem St.add (s : St K W0 B0 H0 os Γ σ B H) {p : Addr} {ob : HO} (hp : H p = none) (o : OC) (ho : o.l = p) (hP : o.P B ob) : St K W0 B0 H0 (os ++ [o]) Γ σ B (upd H p ob) := by
  have hB : B p = none := Evl.fresh_back s.bh hp
  have h0 : H0 p = none := by
    cases q : H0 p with
    | none => rfl
    | some x => exact absurd hp (s.dm p (by rw [q]; exact fun z => nomatch z))
  refine ⟨s.bb, ex_upd s.bh hB, fun a u h hu => ?_, fun a h => ?_, s.nw, fun o' ho' => ?_, ?_, s.sl⟩
  · have ne : a ≠ p := fun z => by rw [z, h0] at hu; cases hu
    rw [upd_ne ne]
    exact s.hh a u h hu
  · by_cases e : a = p
    · rw [e, upd_same]
      exact fun z => nomatch z
    · rw [upd_ne e]
      exact s.dm a h
  · rcases List.mem_append.mp ho' with h | h
    · obtain ⟨h1, h2, x, h3, h4⟩ := s.own o' h
      have ne : o'.l ≠ p := fun z => by rw [z, hp] at h3; cases h3
      exact ⟨h1, h2, x, by rw [upd_ne ne]; exact h3, h4⟩
    · rw [List.mem_singleton.mp h, ho]
      exact ⟨hB, .inr h0, ob, upd_same, hP⟩
  · rw [List.map_append, List.nodup_append]
    refine ⟨s.nd, by simp, fun a ha c hc e => ?_⟩
    obtain ⟨o', h, rfl⟩ := List.mem_map.mp ha
    have : c = p := by
      have : c = o.l := List.mem_singleton.mp hc
      rw [this, ho]
    obtain ⟨_, _, x, h3, _⟩ := s.own o' h
    rw [e, this, hp] at h3
    cases h3
theorem set_mem {os : List OC} : ∀ {k : Nat} {o x : OC}, os[k]? = some o → ∀ y, y ∈ os.set k x → y = x ∨ (y ∈ os ∧ ((os.map (·.l)).Nodup → y.l ≠ o.l)) := by
  induction os with
  | nil => intro k o x h; simp at h
  | cons w os ih =>
    intro k o x h y hy
    cases k with
    | zero =>
      simp at h
      subst h
      rcases List.mem_cons.mp hy with e | e
      · exact .inl e
      · refine .inr ⟨List.mem_cons_of_mem _ e, fun nd z => ?_⟩
        rw [List.map_cons, List.nodup_cons] at nd
        exact nd.1 (List.mem_map.mpr ⟨y, e, z⟩)
    | succ k =>
      have h' : os[k]? = some o := by simpa using h
      rcases List.mem_cons.mp hy with e | e
      · refine .inr ⟨by rw [e]; exact List.mem_cons_self, fun nd z => ?_⟩
        rw [List.map_cons, List.nodup_cons] at nd
        rw [e] at z
        exact nd.1 (List.mem_map.mpr ⟨o, List.mem_of_getElem? h', z.symm⟩)
      · rcases ih (x := x) h' y e with r | ⟨r1, r2⟩
        · exact .inl r
        · refine .inr ⟨List.mem_cons_of_mem _ r1, fun nd => ?_⟩
          rw [List.map_cons, List.nodup_cons] at nd
          exact r2 nd.2
/-- the object k is changed -/
theorem St.chg (s : St K W0 B0 H0 os Γ σ B H) {k : Nat} {o o' : OC} {ob : HO} (h : os[k]? = some o) (hl : o'.l = o.l) (hP : o'.P B ob) : St K W0 B0 H0 (os.set k o') Γ σ B (upd H o.l ob) := by
  obtain ⟨h1, h2, x, h3, h4⟩ := s.own o (List.mem_of_getElem? h)
  refine ⟨s.bb, ex_upd s.bh h1, fun a u ha hu => ?_, fun a ha => ?_, s.nw, fun y hy => ?_, ?_, s.sl⟩
  · have ne : a ≠ o.l := fun z => by
      rcases h2 with w | w
      · exact ha (z ▸ w)
      · rw [z, w] at hu; cases hu
    rw [upd_ne ne]
    exact s.hh a u ha hu
  · by_cases e : a = o.l
    · rw [e, upd_same]
      exact fun z => nomatch z
    · rw [upd_ne e]
      exact s.dm a ha
  · rcases set_mem h y hy with e | ⟨e, ne⟩
    · rw [e, hl]
      exact ⟨h1, h2, ob, upd_same, hP⟩
    · obtain ⟨g1, g2, w, g3, g4⟩ := s.own y e
      exact ⟨g1, g2, w, by rw [upd_ne (ne s.nd)]; exact g3, g4⟩
  · have e : (os.set k o').map (·.l) = os.map (·.l) := by
      rw [List.map_set, hl]
      refine List.ext_getElem? fun i => ?_
      rw [List.getElem?_set]
      split
      · next e =>
        subst e
        rw [List.getElem?_map, h]
        split
        · rfl
        · next z => exact absurd (by rw [List.length_map]; exact (List.getElem?_eq_some_iff.mp h).1) z
      · rfl
    rw [e]
    exact s.nd
/-! ### the start of a def -/
theorem start_slots : ∀ (vs : List V) (cs : List (Option Cell)) (n : Nat), Slots K B (vs.map some) cs → Slots K B (vs.map some ++ List.replicate n none) (cs ++ List.replicate n none)
  | [], [], n, .nil => by
    show Slots K B (List.replicate n none) (List.replicate n none)
    induction n with
    | zero => exact .nil
    | succ n ih => exact .cons At1.none ih
  | _ :: vs, _ :: cs, n, .cons a t => .cons a (start_slots vs cs n t)
theorem St.pure (e : Ex B H) (s : Slots K B σ Γ) : St K [] B H [] Γ σ B H := ⟨Ex.refl B, e, fun _ _ _ h => h, fun _ h => h, fun _ h => .inl h, fun _ h => (by cases h), List.nodup_nil, s⟩
theorem St.draw {b : Addr} {c : Int} (e : Ex B H) (x : BoxAt c B H b) (s : Slots K B σ Γ) : St K [b] B H [boxC b c] Γ σ B H :=
  ⟨Ex.refl B, e, fun _ _ _ h => h, fun _ h => h, fun _ h => .inl h, fun o ho => by
    rw [List.mem_singleton.mp ho]
    obtain ⟨h1, h2⟩ := boxC_of x
    exact ⟨h1, .inl (by simp [boxC]), h2⟩, by simp, s⟩
section
variable {α β γ δ : Type} [Rep α] [Rep β] [Rep γ] [Rep δ]
/-! ### statements -/
theorem St.set {i : Nat} {x : α} (s : St K W0 B0 H0 os Γ σ B H) (h : Pe K te σ B x) (k : ∀ σ1 B1 H1, St K W0 B0 H0 os (cs Γ i (ce x)) σ1 B1 H1 → tz D σ1 H1) : tSeq (tAsg te (gName i)) tz D σ H :=
  h H s.bh _ fun v B1 H1 u hv => k _ B1 H1 ((s.up u).put i hv)
theorem St.setB {b : Addr} {c n : Int} {R : α → Prop} {i : Nat} (s : St K W0 B0 H0 (boxC b c :: os) Γ σ B H) (h : Pb K b n te σ B R) (hc : c + n ≤ 2 ^ 40) (k : ∀ x, R x → ∀ σ1 B1 H1, St K W0 B0 H0 (boxC b (c + n) :: os) (cs Γ i (ce x)) σ1 B1 H1 → tz D σ1 H1) : tSeq (tAsg te (gName i)) tz D σ H :=
  h H c s.bh s.box hc _ fun v x B1 H1 u ub r hv => k x r _ B1 H1 ((s.ub u ub).put i hv)
theorem St.parB {b : Addr} {c n m : Int} {R1 : α → Prop} {R2 : β → Prop} {i j : Nat} (s : St K W0 B0 H0 (boxC b c :: os) Γ σ B H) (h1 : Pb K b n ta σ B R1) (h2 : Pb K b m tb σ B R2) (hm : 0 ≤ m) (hc : c + n + m ≤ 2 ^ 40)
    (k : ∀ x y, R1 x → R2 y → ∀ σ1 B1 H1, St K W0 B0 H0 (boxC b (c + n + m) :: os) (cs (cs Γ i (ce x)) j (ce y)) σ1 B1 H1 → tz D σ1 H1) : tSeq (tPar i j (tCons ta (tCons tb tNil))) tz D σ H :=
  h1 H c s.bh s.box (by omega) _ fun v x B1 H1 u1 ub1 r1 hv => (h2.mono u1.bb) H1 (c + n) u1.bh ub1 hc _ fun w y B2 H2 u2 ub2 r2 hw =>
    ⟨v, w, rfl, k x y r1 r2 _ B2 H2 ((((s.ub u1 ub1).ub u2 ub2).put i (Rep.mono u2.bb hv)).put j hw)⟩
theorem St.drop {x : α} (s : St K W0 B0 H0 os Γ σ B H) (h : Pe K te σ B x) (k : ∀ B1 H1, St K W0 B0 H0 os Γ σ B1 H1 → tz D σ H1) : tSeq (tDrop te) tz D σ H := h H s.bh _ fun v B1 H1 u hv => k B1 H1 (s.up u)
theorem St.ret {x : α} (s : St K W0 B0 H0 os Γ σ B H) (h : Pe K te σ B x) (k : ∀ v B1 H1, St K W0 B0 H0 os Γ σ B1 H1 → Rep.at_ K B1 v x → D.rt v H1) : tRet te D σ H := h H s.bh _ fun v B1 H1 u hv => k v B1 H1 (s.up u) hv
/-- if ..: return: the test is false -/
theorem St.no (s : St K W0 B0 H0 os Γ σ B H) (h : Pt tt σ B false) (k : ∀ B1 H1, St K W0 B0 H0 os Γ σ B1 H1 → tz D σ H1) : tSeq (tIfS tt tu tNext) tz D σ H := h H s.bh (fun b H1 => if b = true then tu { D with nx := tz D } σ H1 else tNext { D with nx := tz D } σ H1) fun B1 H1 u => k B1 H1 (s.up u)
theorem St.noL (s : St K W0 B0 H0 os Γ σ B H) (h : Pt tt σ B false) (k : ∀ B1 H1, St K W0 B0 H0 os Γ σ B1 H1 → tw D σ H1) : tIfS tt tu tw D σ H := h H s.bh (fun b H1 => if b = true then tu D σ H1 else tw D σ H1) fun B1 H1 u => k B1 H1 (s.up u)
/-! ### loops -/
theorem St.forG {δ : Type} {wi : TI} {g : TG} {xs : List α} (s : St K W0 B0 H0 os Γ σ B H) (h : ItD K wi σ B xs) (oz : List α → δ → List OC) (Γz : List α → δ → List (Option Cell)) (P : List α → δ → Prop)
    (h0 : ∃ d, P [] d ∧ ∀ B1 H1, St K W0 B0 H0 os Γ σ B1 H1 → St K W0 B0 H0 (oz [] d) (Γz [] d) σ B1 H1)
    (hs : ∀ done x rest d, xs = done ++ x :: rest → P done d → ∀ (v : V) (σ' : L2.St) (B' H' : Hp) (N : L2.St → Hp → Prop), (∀ (d' : δ) {σ3 : L2.St} {B3 H3 : Hp}, P (done ++ [x]) d' → St K ((oz done d).map (·.l)) B' H' (oz (done ++ [x]) d') (Γz (done ++ [x]) d') σ3 B3 H3 → N σ3 H3) →
      St K W0 B0 H0 (oz done d) (Γz done d) σ' B' H' → Rep.at_ K B' v x → g v σ' H' fun σ2 H2 => tu { D with nx := N, ct := N, bk := D.nx } σ2 H2)
    (k : ∀ d, P xs d → ∀ σ' B' H', St K W0 B0 H0 (oz xs d) (Γz xs d) σ' B' H' → D.nx σ' H') : tFor wi g tu D σ H := by
  refine p_for h s.bh fun B1 H1 u => ⟨fun done σ' B' H' => ∃ d, P done d ∧ St K W0 B0 H0 (oz done d) (Γz done d) σ' B' H', ?_, fun done x rest v σ' B' Hx B2 H2 ex b1 bx hP u2 hv => ?_, fun σ' B' H' b1 bx hP => ?_⟩
  · obtain ⟨d, hd, hk⟩ := h0
    exact ⟨d, hd, hk B1 H1 (s.up u)⟩
  · obtain ⟨d, hd, s'⟩ := hP
    have s2 := s'.up u2
    exact hs done x rest d ex hd v σ' B2 H2 _ (fun d' {σ3 B3 H3} hd' s3 => ⟨B3, b1.trans (u2.bb.trans s3.bb), s3.bh, d', hd', s2.comp s3⟩) s2 hv
  · obtain ⟨d, hd, s'⟩ := hP
    exact k d hd σ' B' H' s'
/-- the same without a box -/
theorem St.forC {wi : TI} {j : Nat} {xs : List α} (vs : List Nat) (s : St K W0 B0 H0 os Γ σ B H) (h : ItD K wi σ B xs)
    (hs : ∀ done x rest, xs = done ++ x :: rest → ∀ (σ' : L2.St) (B' H' : Hp) (N : L2.St → Hp → Prop), (∀ {Γ3 : List (Option Cell)} {σ3 : L2.St} {B3 H3 : Hp}, St K (os.map (·.l)) B' H' os Γ3 σ3 B3 H3 → cw Γ3 vs = cw Γ vs → N σ3 H3) →
      St K W0 B0 H0 os (cs (cw Γ vs) j (ce x)) σ' B' H' → tu { D with nx := N, ct := N, bk := D.nx } σ' H')
    (k : ∀ σ' B' H', St K W0 B0 H0 os (cw Γ vs) σ' B' H' → D.nx σ' H') : tFor wi (gName j) tu D σ H := by
  refine s.forG (δ := Unit) h (fun done _ => os) (fun _ _ => cw Γ vs) (fun _ _ => True) ⟨(), trivial, fun B1 H1 s1 => s1.fg vs⟩ (fun done x rest _ ex _ v σ' B' H' N hN s1 hv => ?_) fun _ _ σ' B' H' s1 => k σ' B' H' s1
  exact hs done x rest ex _ B' H' N (fun {Γ3 σ3 B3 H3} s3 hΓ => hN () trivial (hΓ ▸ s3.fg vs)) (s1.put j hv)
end
/-! ### lists that grow -/
theorem Slots.re {α : Type} [r : Rep α] {x : α} {v : V} : ∀ {σ : L2.St} {Γ : List (Option Cell)} {i : Nat}, Slots K B σ Γ → σ[i]? = some (some v) → Rep.at_ K B v x → Slots K B σ (cs Γ i (ce x))
  | _, _, _, .nil, _, _ => .nil
  | o :: _, _, 0, .cons a t, h, hx => .cons (by
      have h' : o = some v := by simpa using h
      rw [h']
      exact At1.some hx) t
  | _, _, n + 1, .cons a t, h, hx => .cons a (Slots.re (i := n) t (by simpa using h) hx)
section
variable {α : Type} [Rep α]
theorem St.new {i : Nat} (s : St K W0 B0 H0 os Γ σ B H) (α : Type) [Rep α] (k : ∀ l σ1 H1, St K W0 B0 H0 (os ++ [lstC K l ([] : List α)]) (cs Γ i (ca l)) σ1 B H1 → tz D σ1 H1) : tSeq (tAsg (tLst tNil) (gName i)) tz D σ H :=
  ⟨Nat.zero_le _, fun p hp => k p _ _ (St.put (s.add (ob := .lst []) hp (lstC K p ([] : List α)) rfl ⟨[], rfl, .nil⟩) i rfl)⟩
theorem St.lst (s : St K W0 B0 H0 os Γ σ B H) {k : Nat} {l : Addr} {xs : List α} (h : os[k]? = some (lstC K l xs)) : B l = none ∧ ∃ vs, H l = some (.lst vs) ∧ AtAll K B vs xs := by
  obtain ⟨h1, _, x, h3, vs, rfl, h4⟩ := s.own _ (List.mem_of_getElem? h)
  exact ⟨h1, vs, h3, h4⟩
end
section
variable {α β : Type} [DecidableEq α] [Datum α] [Rep β] [Thaw β]
theorem St.fz {i k : Nat} {l : Addr} {xs : List α} (s : St K W0 B0 H0 os Γ σ B H) (h : os[k]? = some (lstC K l xs)) (hi : cg Γ i = ca l) : ∃ vs, B l = none ∧ H l = some (.lst vs) ∧ AtAll K B vs xs ∧ Ex B (upd B l (.lst vs)) ∧ Slots K (upd B l (.lst vs)) σ (cs Γ i (ce xs)) := by
  obtain ⟨hb, vs, hl, hA⟩ := s.lst h
  have e : Ex B (upd B l (.lst vs)) := Ex.new hb
  exact ⟨vs, hb, hl, hA, e, (s.sl.mono e).re (s.sl.rf i hi) (at_list.mpr ⟨l, vs, rfl, Evl.sq_of upd_same, hA.mono e⟩)⟩
theorem St.frz {i k : Nat} {l : Addr} {xs : List α} (s : St K W0 B0 H0 os Γ σ B H) (h : os[k]? = some (lstC K l xs)) (hi : cg Γ i = ca l) (hw : l ∉ W0) : ∃ B1, Ex B B1 ∧ St K W0 B0 H0 (os.eraseIdx k) (cs Γ i (ce xs)) σ B1 H := by
  obtain ⟨vs, hb, hl, hA, e, s2⟩ := s.fz h hi
  have h0 : H0 l = none := by
    rcases (s.own _ (List.mem_of_getElem? h)).2.1 with z | z
    · exact absurd z hw
    · exact z
  refine ⟨_, e, s.bb.trans e, ex_in s.bh hl, s.hh, s.dm, fun a ha => ?_, fun o ho => ?_, s.nd.sublist ((List.eraseIdx_sublist os k).map _), s2⟩
  · by_cases z : a = l
    · exact .inr (z ▸ h0)
    · rw [upd_ne z] at ha
      exact s.nw a ha
  · have hm := (List.eraseIdx_sublist os k).subset ho
    obtain ⟨g1, g2, w, g3, g4⟩ := s.own o hm
    have ne : o.l ≠ l := by
      intro z
      have nd := s.nd
      have hlt := (List.getElem?_eq_some_iff.mp h).1
      have e1 : os = os.take k ++ lstC K l xs :: os.drop (k + 1) := by
        have e2 : os.drop k = lstC K l xs :: os.drop (k + 1) := by
          rw [List.drop_eq_getElem_cons hlt]
          congr 1
          exact (List.getElem?_eq_some_iff.mp h).2
        rw [← e2, List.take_append_drop]
      rw [List.eraseIdx_eq_take_drop_succ] at ho
      rw [e1, List.map_append, List.map_cons, List.nodup_append, List.nodup_cons] at nd
      rcases List.mem_append.mp ho with w | w
      · exact nd.2.2 _ (List.mem_map.mpr ⟨o, w, z⟩) _ List.mem_cons_self rfl
      · exact nd.2.1.1 (List.mem_map.mpr ⟨o, w, z⟩)
    exact ⟨by rw [upd_ne ne]; exact g1, g2, w, g3, o.mono e g4⟩
theorem St.ne {k : Nat} {l b : Addr} {c : Int} {xs : List α} (s : St K W0 B0 H0 (boxC b c :: os) Γ σ B H) (h : os[k]? = some (lstC K l xs)) : l ≠ b := fun z => by
  have nd := s.nd
  rw [List.map_cons, List.nodup_cons] at nd
  exact nd.1 (List.mem_map.mpr ⟨_, List.mem_of_getElem? h, z⟩)
end
end
/-! ### the start of a def, by its promise -/
section
variable {K : PySem.W.Frag} {α β γ δ : Type} [Rep α] [Rep β] [Rep γ] [Rep δ] {vs : List V} {H : Hp} {Q : VK} {E : XK}
theorem Fn1.st {pre : α → Prop} {f : α → β} (h : Fn1 K pre f vs H Q E) (N : List Str) : ∃ x B, pre x ∧ St K [] B H [] ([ce x] ++ List.replicate (N.length - 1) none) (start N vs) B H ∧ ∀ v B2 H2, Up B H B2 H2 → Rep.at_ K B2 v (f x) → Q v H2 := by
  obtain ⟨x, B, e, ⟨v, _, rfl, h1, rfl⟩, hp, q⟩ := h
  exact ⟨x, B, hp, St.pure e (start_slots [v] [ce x] _ (.cons (At1.some h1) .nil)), q⟩
theorem Fn2.st {pre : α → β → Prop} {f : α → β → γ} (h : Fn2 K pre f vs H Q E) (N : List Str) : ∃ x y B, pre x y ∧ St K [] B H [] ([ce x, ce y] ++ List.replicate (N.length - 2) none) (start N vs) B H ∧ ∀ v B2 H2, Up B H B2 H2 → Rep.at_ K B2 v (f x y) → Q v H2 := by
  obtain ⟨x, y, B, e, ⟨v, _, rfl, h1, v2, _, rfl, h2, rfl⟩, hp, q⟩ := h
  exact ⟨x, y, B, hp, St.pure e (start_slots [v, v2] [ce x, ce y] _ (.cons (At1.some h1) (.cons (At1.some h2) .nil))), q⟩
theorem RightP.st (h : RightP K vs H Q E) (N : List Str) : ∃ b B, St K [b] B H [boxC b 0] ([ca b] ++ List.replicate (N.length - 1) none) (start N vs) B H ∧ ∀ os Γ σ B2 H2, St K [b] B H os Γ σ B2 H2 → Q (.bl true) H2 := by
  obtain ⟨b, B, rfl, e, bx, q⟩ := h
  exact ⟨b, B, St.draw e bx (start_slots [.ref b] [ca b] _ (.cons (At1.some rfl) .nil)), fun os Γ σ B2 H2 s => q B2 H2 s.toUb⟩
end
end Ob
set_option Elab.async false
set_option linter.all false
set_option maxRecDepth 100000
set_option maxHeartbeats 4000000
/-! P4: are_rivals, rivals_of, press. -/
set_option Elab.async false
set_option linter.all false
set_option maxRecDepth 100000
set_option maxHeartbeats 4000000
/-! P5: component_of, components, groups. -/
namespace Ob
open PySem L2
open Evl (Ex)
open PySem.W (Datum Tup DatumOrd)
/-- x leads to y over rivals among some switches -/
inductive Reach (rv : Str → List Str) (sw : List Str) (x : Str) : Str → Prop where
  | refl : Reach rv sw x x
  | step {y z : Str} (h : Reach rv sw x y) (hz : z ∈ rv y) (hs : z ∈ sw) : Reach rv sw x z
theorem Reach.sw {rv : Str → List Str} {sw : List Str} {x y : Str} (h : Reach rv sw x y) (hx : x ∈ sw) : y ∈ sw := by
  cases h with
  | refl => exact hx
  | step _ _ hs => exact hs
theorem Reach.trans {rv : Str → List Str} {sw : List Str} {x y z : Str} (h : Reach rv sw x y) (k : Reach rv sw y z) : Reach rv sw x z := by
  induction k with
  | refl => exact h
  | step _ hz hs ih => exact .step ih hz hs
open Classical in
noncomputable def compO (rv : Str → List Str) (sw : List Str) (x : Str) : List Str := sortD (sw.filter fun y => decide (Reach rv sw x y))
theorem mem_compO {rv : Str → List Str} {sw : List Str} {x y : Str} : y ∈ compO rv sw x ↔ y ∈ sw ∧ Reach rv sw x y := by
  unfold compO
  rw [mem_sortD, List.mem_filter]
  simp
theorem compO_asc {rv : Str → List Str} {sw : List Str} {x : Str} (nd : sw.Nodup) : Asc (compO rv sw x) := sortD_asc (nd.filter _)
/-- what the search has found up to now -/
structure CompI (rv : Str → List Str) (sw : List Str) (x : Str) (found : List Str) (k : Nat) : Prop where
  nd : found.Nodup
  rc : ∀ y ∈ found, Reach rv sw x y
  x0 : x ∈ found
  sub : ∀ y ∈ found, y ∈ sw
  kl : k ≤ found.length
  cl : ∀ j y, j < k → found[j]? = some y → ∀ z ∈ rv y, z ∈ sw → z ∈ found
theorem CompI.step {rv : Str → List Str} {sw : List Str} {x : Str} {found : List Str} {k : Nat} {y : Str} (I : CompI rv sw x found k) (hy : found[k]? = some y) (hnd : (rv y).Nodup) :
    CompI rv sw x (found ++ (rv y).filter (fun z => decide (z ∈ sw) && !decide (z ∈ found))) (k + 1) := by
  have hm : ∀ z, z ∈ (rv y).filter (fun z => decide (z ∈ sw) && !decide (z ∈ found)) ↔ z ∈ rv y ∧ z ∈ sw ∧ z ∉ found := fun z => by
    rw [List.mem_filter]
    simp
  have hlt : k < found.length := (List.getElem?_eq_some_iff.mp hy).1
  refine ⟨List.nodup_append.mpr ⟨I.nd, hnd.filter _, fun a ha b hb e => ((hm b).mp hb).2.2 (e ▸ ha)⟩, fun z hz => ?_, List.mem_append_left _ I.x0, fun z hz => ?_, ?_, fun j w hj hw z hz hs => ?_⟩
  · rcases List.mem_append.mp hz with h | h
    · exact I.rc z h
    · obtain ⟨h1, h2, _⟩ := (hm z).mp h
      exact .step (I.rc y (List.mem_of_getElem? hy)) h1 h2
  · rcases List.mem_append.mp hz with h | h
    · exact I.sub z h
    · exact ((hm z).mp h).2.1
  · rw [List.length_append]
    omega
  · have hw' : found[j]? = some w := by
      rw [List.getElem?_append_left (by omega)] at hw
      exact hw
    by_cases hzf : z ∈ found
    · exact List.mem_append_left _ hzf
    · by_cases hjk : j = k
      · subst hjk
        rw [hy] at hw'
        cases hw'
        exact List.mem_append_right _ ((hm z).mpr ⟨hz, hs, hzf⟩)
      · exact List.mem_append_left _ (I.cl j w (by omega) hw' z hz hs)
theorem CompI.done {rv : Str → List Str} {sw : List Str} {x : Str} {found : List Str} (I : CompI rv sw x found found.length) (nd : sw.Nodup) : sortD found = compO rv sw x := by
  refine asc_ext (sortD_asc I.nd) (compO_asc nd) fun z => ?_
  rw [mem_sortD, mem_compO]
  have key : ∀ z, Reach rv sw x z → z ∈ found := fun z h => by
    induction h with
    | refl => exact I.x0
    | step h1 hz hs ih =>
      obtain ⟨j, hj⟩ := List.getElem?_of_mem ih
      exact I.cl j _ (List.getElem?_eq_some_iff.mp hj).1 hj _ hz hs
  exact ⟨fun h => ⟨I.sub z h, I.rc z h⟩, fun h => key z h.2⟩
end Ob
set_option Elab.async false
set_option linter.all false
set_option maxRecDepth 100000
set_option maxHeartbeats 4000000
/-! P6: components, groups. -/
set_option Elab.async false
set_option linter.all false
set_option maxRecDepth 100000
set_option maxHeartbeats 4000000
/-! M7: section 1 of the law k04, in plain Lean: presses one by one, two presses exchanged, groups. -/
set_option Elab.async false
set_option linter.all false
set_option maxRecDepth 100000
set_option maxHeartbeats 4000000
/-! M8: what a history does to each switch (section 1 of the proof): sem. Plain Lean. -/
namespace Ob
open PySem L2
open PySem.W (Datum Tup DatumOrd)
/-! ### effects -/
structure EffIs (e : Eff) (f : Str → Option Bool) : Prop where
  a1 : Asc e.1.items
  a2 : Asc e.2.items
  m1 : ∀ z, z ∈ e.1.items ↔ f z = some true
  m2 : ∀ z, z ∈ e.2.items ↔ f z = some false
theorem EffIs.ext {e e' : Eff} {f f' : Str → Option Bool} (h : EffIs e f) (k : EffIs e' f') (hf : ∀ z, f z = f' z) : e = e' := by
  obtain ⟨⟨a⟩, ⟨b⟩⟩ := e
  obtain ⟨⟨c⟩, ⟨d⟩⟩ := e'
  have e1 : a = c := asc_ext h.a1 k.a1 fun z => (h.m1 z).trans (by rw [hf]; exact (k.m1 z).symm)
  have e2 : b = d := asc_ext h.a2 k.a2 fun z => (h.m2 z).trans (by rw [hf]; exact (k.m2 z).symm)
  rw [e1, e2]
/-- equal effects do the same -/
theorem EffIs.inj {e : Eff} {f f' : Str → Option Bool} (h : EffIs e f) (k : EffIs e f') (z : Str) : f z = f' z := by
  have h1 := (h.m1 z).symm.trans (k.m1 z)
  have h2 := (h.m2 z).symm.trans (k.m2 z)
  cases hf : f z with
  | none =>
    cases hg : f' z with
    | none => rfl
    | some b => rw [hf, hg] at h1 h2; cases b <;> simp at h1 h2
  | some c =>
    cases hg : f' z with
    | none => rw [hf, hg] at h1 h2; cases c <;> simp at h1 h2
    | some b => rw [hf, hg] at h1 h2; cases b <;> cases c <;> simp at h1 h2 <;> rfl
end Ob
set_option Elab.async false
set_option linter.all false
set_option maxRecDepth 100000
set_option maxHeartbeats 4000000
/-! S2: more rules over the record; calls by their meaning. -/
namespace Ob
open PySem L2
open Evl (Ex)
open PySem.W (Datum Tup DatumOrd)
theorem ne_false {α : Type} [DecidableEq α] {x y : α} (h : x = y) : (!decide (x = y)) = false := by rw [decide_eq_true h]; rfl
/-! ### a drawn panel -/
theorem PanG.ok {m : Int} {p : Pan} (g : PanG m p) (hm : m ≤ 50) : PanS p := by
  have := g.len
  exact ⟨⟨asc_nodup g.asc, fun e he => (g.ex e he).1, by omega, by have := g.el; omega⟩, by omega, by have := g.el; omega⟩
/-! ### effects of a panel -/
end Ob
set_option Elab.async false
set_option linter.all false
set_option maxRecDepth 100000
set_option maxHeartbeats 4000000
/-! Ws: xs[a:c] = ys with c beyond the end; xs.insert; min of a list of texts. -/
set_option Elab.async false
set_option linter.all false
set_option maxRecDepth 100000
set_option maxHeartbeats 4000000
/-! Ls: xs[a:c] = ys; a slice turned round in its place; new lists that change. -/
namespace Ob
open PySem L2
open Evl (Ex)
open PySem.W (Datum Tup DatumOrd)
def gSl (to : TE) (tl th : TO) : TG := fun v σ H Q => to σ H fun o H1 => tl σ H1 fun a H2 => th σ H2 fun c H3 => ∃ (l b : Addr) (xs ys : List V) (i k : Nat), o = .ref l ∧ v = .ref b ∧ l ≠ b ∧ H3 l = some (.lst xs) ∧ H3 b = some (.lst ys) ∧ a = some (i : Int) ∧ c = some (k : Int) ∧ i ≤ k ∧ i ≤ xs.length ∧ xs.length + ys.length ≤ sizeLine ∧
  Q σ (upd H3 l (.lst (xs.take i ++ ys ++ xs.drop k)))
section
variable {K : PySem.W.Frag} {W0 : List Addr} {B0 H0 : Hp} {os : List OC} {Γ : List (Option Cell)} {σ : L2.St} {B H B1 H1 : Hp} {te ta tb tc tk tv : TE} {tt : TT} {D : Ends} {tu tw tz : TS} {b : Addr} {c n : Int}
theorem cutV_str (xs : List Str) (a c : Nat) (h1 : a ≤ c) (h2 : a ≤ xs.length) : cutV (xs.map V.str) (some (a : Int)) (some (c : Int)) = ((xs.drop a).take (c - a)).map V.str := by
  unfold cutV
  rw [List.length_map, HT.sIx_nat, HT.sIx_nat, Nat.min_eq_left h2, List.map_take, List.map_drop]
  by_cases hc : c ≤ xs.length
  · rw [Nat.min_eq_left hc]
  · rw [Nat.min_eq_right (by omega), List.take_of_length_le (by rw [List.length_drop, List.length_map]; exact Nat.le_refl _), List.take_of_length_le (by rw [List.length_drop, List.length_map]; omega)]
/-- xs[a:c] = xs[a:c][::-1] -/
theorem St.turn {i k : Nat} {l : Addr} {xs : List Str} {a c : Nat} (s : St K W0 B0 H0 os Γ σ B H) (h : os[k]? = some (lstC K l xs)) (hi : cg Γ i = ca l) (ha : Pe K ta σ B (a : Int)) (hc : Pe K tb σ B (c : Int)) (h1 : a ≤ c) (h2 : a ≤ xs.length) (hz : xs.length ≤ 100000)
    (q : ∀ B1 H1, St K W0 B0 H0 (os.set k (lstC K l (xs.take a ++ ((xs.drop a).take (c - a)).reverse ++ xs.drop c))) Γ σ B1 H1 → D.nx σ H1) :
    tAsg (tRevL K (tSl (rSlU K) (tVar i) (tPart ta) (tPart tb))) (gSl (tVar i) (tPart ta) (tPart tb)) D σ H := by
  obtain ⟨hb, vs, hl, hA⟩ := s.lst h
  have ev := atAll_strs hA
  subst ev
  have hσ := s.sl.rf i hi
  refine ⟨_, hσ, ha H s.bh _ fun v1 B1 H1 u1 e1 => ⟨_, at_int.mp e1, hc H1 (u1.bb.trans u1.bh) _ fun v2 B2 H2 u2 e2 => ⟨_, at_int.mp e2, .inl ⟨l, _, rfl, Evl.sq_of (u2.hh _ _ (u1.hh _ _ hl)), fun p hp => ?_⟩⟩⟩⟩
  have u12 : Up B H B H2 := ⟨Ex.refl B, s.bh.trans (u1.hh.trans u2.hh), u1.hh.trans u2.hh, fun _ h => .inl h⟩
  have up := u12.hold (o := .lst (cutV (xs.map V.str) (some (a : Int)) (some (c : Int)))) hp
  refine ⟨p, _, rfl, Evl.sq_of upd_same, fun p2 hp2 => ?_⟩
  rw [cutV_str xs a c h1 h2] at up hp2 ⊢
  have up2 := up.hold (o := .lst (((xs.drop a).take (c - a)).map V.str).reverse) hp2
  have hl2 := up2.hh _ _ hl
  have hne : l ≠ p2 := fun z => by rw [z] at hl; have := up.hh _ _ hl; rw [hp2] at this; cases this
  refine ⟨_, hσ, ha _ up2.bh _ fun v3 B3 H3 u3 e3 => ⟨_, at_int.mp e3, hc H3 (u3.bb.trans u3.bh) _ fun v4 B4 H4 u4 e4 => ⟨_, at_int.mp e4, ?_⟩⟩⟩
  have u34 : Up B H B H4 := ⟨Ex.refl B, up2.bh.trans (u3.hh.trans u4.hh), up2.hh.trans (u3.hh.trans u4.hh), fun _ h => .inl h⟩
  refine ⟨l, p2, xs.map V.str, (((xs.drop a).take (c - a)).map V.str).reverse, a, c, rfl, rfl, hne, u4.hh _ _ (u3.hh _ _ hl2), u4.hh _ _ (u3.hh _ _ upd_same), rfl, rfl, h1, by rw [List.length_map]; exact h2, ?_, ?_⟩
  · rw [List.length_reverse, List.length_map, List.length_map, List.length_take, List.length_drop, sizeLine_eq]
    omega
  · have e : (xs.map V.str).take a ++ (((xs.drop a).take (c - a)).map V.str).reverse ++ (xs.map V.str).drop c = (xs.take a ++ ((xs.drop a).take (c - a)).reverse ++ xs.drop c).map V.str := by
      simp only [List.map_append, List.map_take, List.map_reverse, List.map_drop]
    rw [e]
    exact q B _ ((s.up u34).chg (ob := .lst _) h rfl ⟨_, rfl, strs_atAll _⟩)
end
end Ob
set_option Elab.async false
set_option linter.all false
set_option maxRecDepth 100000
set_option maxHeartbeats 4000000
/-! Ss: len(set(xs)), sorted(set(xs)) of a list of texts. -/
namespace Ob
open PySem PySem.Spec PyProof.Rows L2 PySem.Froz
open Evl (Ex)
/-- values that are the texts, one by one -/
def TxtIs (v : Value) (k : Str) : Prop := ∃ t, v = .str k t
/-- a set of the texts l -/
structure SetS (P : Program) (w : World) (h : Heap) (a : Addr) (l : List Str) : Prop where
  ex : ∃ D : SD, h.get? a = some (sObj "set" D) ∧ TxOk P w D l ∧ Ris D.2.2.place.toList ∧ (w.params.followText "set-order" = true ∨ D.2.2.led = true) ∧ ∃ us, (D.1.toList.map (·.2)).Perm us ∧ PySem.W.EachIs TxtIs us l
theorem SetS.at {P : Program} {w : World} {h h' : Heap} {a : Addr} {l : List Str} (R : SetS P w h a l) (k : ∀ o, h.get? a = some o → h'.get? a = some o) : SetS P w h' a l := by
  obtain ⟨D, h1, h2⟩ := R.ex
  exact ⟨D, k _ h1, h2⟩
/-! ### over the layer -/
end Ob
set_option Elab.async false
set_option linter.all false
set_option maxRecDepth 100000
set_option maxHeartbeats 4000000
/-! M9: presses exchanged, put in; which switches an order leaves on, place by place. Plain Lean. -/
set_option Elab.async false
set_option linter.all false
set_option maxRecDepth 100000
set_option maxHeartbeats 4000000
/-! S3: more rules over the record. -/
namespace Ob
open PySem L2
open Evl (Ex)
open PySem.W (Datum Tup DatumOrd)
section
variable {K : PySem.W.Frag} {W0 : List Addr} {B0 H0 : Hp} {os : List OC} {Γ : List (Option Cell)} {σ : L2.St} {B H B1 H1 : Hp} {te ta tb tc tk tv : TE} {tt : TT} {D : Ends} {tu tw tz : TS} {b : Addr} {c n : Int}
theorem x_take {E : XK} {i : Nat} {n : Int} (hi : cg Γ i = ca b) (s : Slots K B σ Γ) (h : Pe K te σ B n) (h0 : 0 < n) (h1 : n < 1073741824) : Pb K b 1 (tCall (sp_Ltake K) [] E (tCons (tVar i) (tCons te tNil))) σ B (fun k : Int => 0 ≤ k ∧ k < n) := e_callB1 (s.rf i hi) h ⟨h0, h1⟩
end
end Ob
set_option Elab.async false
set_option linter.all false
set_option maxRecDepth 100000
set_option maxHeartbeats 4000000
/-! Xs: xs.extend(ys), ys any list. -/
namespace PySem.AutoSeq1
end PySem.AutoSeq1
set_option Elab.async false
set_option linter.all false
set_option maxRecDepth 100000
set_option maxHeartbeats 4000000
/-! S4: range of a drawn number, extend, insert, a new list beside a drawn thing; promises by a relation; a thing or None. -/
namespace Ob
open PySem L2
open Evl (Ex)
open PySem.W (Datum Tup DatumOrd)
theorem op_isNr {X : Cx} : OpR X (compareOp .Is) rIsN := op_isN
/-- None or a thing -/
structure Mb (α : Type) where
  o : Option α
def mbAt (K : PySem.W.Frag) {α : Type} [Rep α] (B : Hp) (v : V) : Option α → Prop
  | none => v = .non
  | some x => Rep.at_ K B v x
instance {α : Type} [Rep α] : Rep (Mb α) := ⟨fun K B v m => mbAt K B v m.o, fun {K B B' v m} e h => by
  obtain ⟨o⟩ := m
  cases o with
  | none => exact h
  | some x => exact Rep.monoR (α := α) e h⟩
section
variable {K : PySem.W.Frag} {W0 : List Addr} {B0 H0 : Hp} {os : List OC} {Γ : List (Option Cell)} {σ : L2.St} {B H B1 H1 : Hp} {te ta tb tc tk tv : TE} {tt : TT} {D : Ends} {tu tw tz : TS} {b : Addr} {c n m : Int}
/-- a reading that gives something of which R holds -/
def Pq {α : Type} [Rep α] (K : PySem.W.Frag) (te : TE) (σ : L2.St) (B : Hp) (R : α → Prop) : Prop := ∀ H, Ex B H → ∀ Q : VK, (∀ v x B2 H2, Up B H B2 H2 → R x → Rep.at_ K B2 v x → Q v H2) → te σ H Q
theorem Pq.is {α : Type} [Rep α] {R : α → Prop} {x : α} (h : Pq K te σ B R) (k : ∀ y, R y → y = x) : Pe K te σ B x := fun H e Q q => h H e Q fun v y B2 H2 u r hv => q v B2 H2 u (k y r ▸ hv)
def Fn3R {α β γ δ : Type} [Rep α] [Rep β] [Rep γ] [Rep δ] (K : PySem.W.Frag) (pre : α → β → γ → Prop) (R : α → β → γ → δ → Prop) : Sp := fun vs H Q _ => ∃ x y z B, Ex B H ∧ RCons K x (RCons K y (RCons K z RNil)) vs B ∧ pre x y z ∧ ∀ v r B2 H2, Up B H B2 H2 → R x y z r → Rep.at_ K B2 v r → Q v H2
section
variable {α β γ δ : Type} [Rep α] [Rep β] [Rep γ] [Rep δ] {vs : List V} {Q : VK} {E : XK}
theorem Fn3R.len {pre : α → β → γ → Prop} {R : α → β → γ → δ → Prop} (vs : List V) (H : Hp) (Q : VK) (E : XK) (h : Fn3R K pre R vs H Q E) : vs.length = 3 := by
  obtain ⟨x, y, z, B, e, ⟨v, r, rfl, h1, v2, r2, rfl, h2, v3, r3, rfl, h3, rfl⟩, _⟩ := h
  rfl
end
end
end Ob
set_option Elab.async false
set_option linter.all false
set_option maxRecDepth 100000
set_option maxHeartbeats 4000000
/-! S5: loops with what follows; an if whose two ways meet. -/
namespace Ob
open PySem L2
open Evl (Ex)
open PySem.W (Datum Tup DatumOrd)
section
variable {K : PySem.W.Frag} {W0 : List Addr} {B0 H0 : Hp} {os : List OC} {Γ : List (Option Cell)} {σ : L2.St} {B H B1 H1 : Hp} {te ta tb tc tk tv : TE} {tt : TT} {D : Ends} {tu tw tz : TS}
theorem St.qforC {α : Type} [Rep α] {wi : TI} {j : Nat} {xs : List α} (vs : List Nat) (s : St K W0 B0 H0 os Γ σ B H) (h : ItD K wi σ B xs)
    (hs : ∀ done x rest, xs = done ++ x :: rest → ∀ (σ' : L2.St) (B' H' : Hp) (N : L2.St → Hp → Prop), (∀ {Γ3 : List (Option Cell)} {σ3 : L2.St} {B3 H3 : Hp}, St K (os.map (·.l)) B' H' os Γ3 σ3 B3 H3 → cw Γ3 vs = cw Γ vs → N σ3 H3) →
      St K W0 B0 H0 os (cs (cw Γ vs) j (ce x)) σ' B' H' → tu { D with nx := N, ct := N, bk := tz D } σ' H')
    (k : ∀ σ' B' H', St K W0 B0 H0 os (cw Γ vs) σ' B' H' → tz D σ' H') : tSeq (tFor wi (gName j) tu) tz D σ H :=
  s.forC (D := { D with nx := tz D }) vs h hs k
end
end Ob
set_option Elab.async false
set_option linter.all false
set_option maxRecDepth 100000
set_option maxHeartbeats 4000000
/-! S6: defs of four parameters, the last one None or a thing; calls that leave it out or name it. -/
namespace Ob
open PySem PySem.Spec PyProof.Rows L2
open Evl (Ex)
open PySem.W (Datum Tup DatumOrd)
section
variable {K : PySem.W.Frag} {x qual : Str} {params : Arguments} {body : List Stmt} {scope : Scope} {kws : List (Str × V)} {f : Addr} {fd : FuncData} {ps : List Str}
/-- a call that names all keyword-only parameters -/
theorem kbindsN (F : FunD K x qual params body scope [] kws f fd) (n : Nat) (ks : List Str)
    (h : ∀ (kV doc pm : Value) (an : Option Addr) (cdv ct : Value) (us ws : List Value), us.length = n → ws.length = ks.length → bindArgs (PySem.W.fnOf x qual params body scope .none kV doc pm an cdv ct) ⟨us, ks.zip ws⟩ = pure (ps.zip (us ++ ws))) : KBn K fd ps n ks (fun us ws => us ++ ws) (fun vs zs => vs ++ zs) := by
  obtain ⟨oc, od, dV, kV, doc, pm, an, cdv, ct, osl, rfl, lk, hcd, hD, hK⟩ := F.ex
  rcases hD with ⟨_, rfl⟩ | ⟨e, _⟩
  · exact ⟨fun s us ws _ l1 l2 => .of_eq (h kV doc pm an cdv ct us ws l1 l2), fun r1 r2 => r1.append r2⟩
  · exact absurd rfl e
end
section
variable {K : PySem.W.Frag} {W0 : List Addr} {B0 H0 : Hp} {os : List OC} {Γ : List (Option Cell)} {σ : L2.St} {B H B1 H1 : Hp} {te ta tb tc td tk tv : TE} {tt : TT} {D : Ends} {tu tw tz : TS}
section
variable {α β γ δ ε : Type} [Rep α] [Rep β] [Rep γ] [Rep δ] [Rep ε] {vs : List V} {Q : VK} {E : XK}
def Fn4 (K : PySem.W.Frag) (pre : α → β → γ → δ → Prop) (f : α → β → γ → δ → ε) : Sp := fun vs H Q _ => ∃ x y z t B, Ex B H ∧ RCons K x (RCons K y (RCons K z (RCons K t RNil))) vs B ∧ pre x y z t ∧ ∀ v B2 H2, Up B H B2 H2 → Rep.at_ K B2 v (f x y z t) → Q v H2
theorem Fn4.len {pre : α → β → γ → δ → Prop} {f : α → β → γ → δ → ε} (vs : List V) (H : Hp) (Q : VK) (E : XK) (h : Fn4 K pre f vs H Q E) : vs.length = 4 := by
  obtain ⟨x, y, z, t, B, e, ⟨v, r, rfl, h1, v2, r2, rfl, h2, v3, r3, rfl, h3, v4, r4, rfl, h4, rfl⟩, _⟩ := h
  rfl
end
end
end Ob
set_option Elab.async false
set_option linter.all false
set_option maxRecDepth 100000
set_option maxHeartbeats 4000000
/-! Kw: calls by names only, in any order. -/
set_option Elab.async false
set_option linter.all false
set_option maxRecDepth 100000
set_option maxHeartbeats 4000000
/-! Xc: try .. except (A, B, C) as error: caught = error; the exception held behind the try; isinstance of it; raise X(). -/
namespace L2
open PySem PySem.Spec PyProof.Rows
section
variable {X : Cx} {pins : List (Addr × Obj)} {σ : St} {H : Hp} {s : Shared}
theorem PS.nox {st : Stmt} {t : TS} (h : PS X.nox st t) : PS X st t := ⟨fun pins s σ H D I hw =>
  wpAny_mono (h.run pins s σ H D (I.wish _) hw) (fun _ _ q => q.unwish) fun _ _ z => False.elim z⟩
end
end L2
set_option Elab.async false
set_option linter.all false
set_option maxRecDepth 100000
set_option maxHeartbeats 4000000
/-! Lam: sorted(xs, key=lambda x: (-far[x], x)): the lambda's code object, kept in the maker's table; the order. -/
namespace Ob
open PySem PySem.Spec PyProof.Rows L2
open Evl (Ex)
open LamX (CodeO TabB)
open PySem.W (Datum Tup DatumOrd)
/-- the table at P: the code objects that it tells are frozen -/
structure LtAt (q : Str) (B H : Hp) (P : Addr) : Prop where
  fb : B P = none
  tb : ∃ ps : Array Value, H P = some (.tbl ps) ∧ TriplesOk ps.toList ∧ ∀ (pos : Pos) (cv : Value), codeAmong pos ps.toList = some cv → ∃ c, cv = .ref c ∧ B c = some (CodeO c q)
theorem LtAt.ne {q : Str} {B H : Hp} {P : Addr} (t : LtAt q B H P) : H P ≠ none := by
  obtain ⟨ps, h, _⟩ := t.tb
  rw [h]
  exact fun z => nomatch z
theorem LtAt.up {q : Str} {B H B1 H1 : Hp} {P : Addr} (t : LtAt q B H P) (u : Up B H B1 H1) : LtAt q B1 H1 P := by
  obtain ⟨ps, h, h2, h3⟩ := t.tb
  refine ⟨(u.out t.fb h).1, ps, (u.out t.fb h).2, h2, fun pos cv e => ?_⟩
  obtain ⟨c, e1, e2⟩ := h3 pos cv e
  exact ⟨c, e1, u.bb _ _ e2⟩
/-! ### one call of the key -/
end Ob
set_option Elab.async false
set_option linter.all false
set_option maxRecDepth 100000
set_option maxHeartbeats 8000000
/-! Dc2: {k: v for .. in .. if .. for .. in .. if ..}: a dict comprehension with two fors. Modelled on the layer's rules for one for, and for lists. -/
set_option Elab.async false
set_option linter.all false
set_option maxRecDepth 100000
set_option maxHeartbeats 4000000
/-! Xd: dicts with tuples of texts as keys: {k: v}, k in d, d[k] = v. -/
namespace Ob
open PySem PySem.Spec PyProof.Rows L2
open Evl (Ex)
open PySem.W (Datum Tup DatumOrd)
/-- a set of tuples of texts, held as the keys of a dict -/
structure TSet where
  ks : List (List Str)
def kT (x : List Str) : List Key := x.map Sum.inr
instance : Rep TSet := ⟨fun K B v S => ∃ a kvs, v = .ref a ∧ Rd B a (.dT kvs) ∧ kvs.map (·.1) = S.ks.map kT, fun e ⟨a, kvs, h1, h2, h3⟩ => ⟨a, kvs, h1, e.1 a _ rfl h2, h3⟩⟩
end Ob
set_option Elab.async false
set_option linter.all false
set_option maxRecDepth 100000
set_option maxHeartbeats 4000000
/-! S7: while in the record; names set at once of which one is new and changes; a dict frozen. -/
set_option Elab.async false
set_option linter.all false
set_option maxRecDepth 100000
set_option maxHeartbeats 4000000
/-! Dd: dicts from texts to ints that grow: {x: n for ..} with one for and with two, update by new keys. -/
set_option Elab.async false
set_option linter.all false
set_option maxRecDepth 100000
set_option maxHeartbeats 4000000
/-! Dr: dicts from texts to ints that grow, in the record. -/
set_option Elab.async false
set_option linter.all false
set_option maxRecDepth 100000
set_option maxHeartbeats 4000000
/-! Tb: promises of defs behind which a lambda is made: the maker's table may grow. -/
namespace Ob
open PySem PySem.Spec PyProof.Rows L2
open Evl (Ex)
open LamX (CodeO TabB)
open PySem.W (Datum Tup DatumOrd)
def tabC (q : Str) (P : Addr) : OC := ⟨P, fun B o => ∃ ps : Array Value, o = .tbl ps ∧ TriplesOk ps.toList ∧ ∀ (pos : Pos) (cv : Value), codeAmong pos ps.toList = some cv → ∃ c, cv = .ref c ∧ B c = some (CodeO c q), fun e ⟨ps, h1, h2, h3⟩ => ⟨ps, h1, h2, fun pos cv h => by
  obtain ⟨c, e1, e2⟩ := h3 pos cv h
  exact ⟨c, e1, e _ _ e2⟩⟩⟩
theorem LtAt.put {q : Str} {B H : Hp} {P a : Addr} {o : HO} (t : LtAt q B H P) (ne : P ≠ a) : LtAt q B (upd H a o) P := ⟨t.fb, by
  obtain ⟨ps, h, h2⟩ := t.tb
  exact ⟨ps, by rw [upd_ne ne]; exact h, h2⟩⟩
theorem LtAt.frz {q : Str} {B H : Hp} {P a : Addr} {o : HO} (t : LtAt q B H P) (ne : P ≠ a) (e : Ex B (upd B a o)) : LtAt q (upd B a o) H P := ⟨by rw [upd_ne ne]; exact t.fb, by
  obtain ⟨ps, h, h2, h3⟩ := t.tb
  refine ⟨ps, h, h2, fun pos cv z => ?_⟩
  obtain ⟨c, e1, e2⟩ := h3 pos cv z
  exact ⟨c, e1, e _ _ e2⟩⟩
theorem LtAt.own {q : Str} {B H : Hp} {P : Addr} (t : LtAt q B H P) : B P = none ∧ ∃ ob, H P = some ob ∧ (tabC q P).P B ob := by
  obtain ⟨ps, h, h2, h3⟩ := t.tb
  exact ⟨t.fb, _, h, ps, rfl, h2, h3⟩
/-- a reading behind which the table may have grown -/
def PqT {α : Type} [Rep α] (K : PySem.W.Frag) (q : Str) (P : Addr) (te : TE) (σ : L2.St) (B : Hp) (R : α → Prop) : Prop := ∀ H, Ex B H → LtAt q B H P → ∀ Q : VK, (∀ v x B2 H2, Ub P B H B2 H2 → LtAt q B2 H2 P → R x → Rep.at_ K B2 v x → Q v H2) → te σ H Q
section
variable {α β γ δ ε : Type} [Rep α] [Rep β] [Rep γ] [Rep δ] [Rep ε]
def FnT3R (K : PySem.W.Frag) (q : Str) (P : Addr) (pre : α → β → γ → Prop) (R : α → β → γ → δ → Prop) : Sp := fun vs H Q _ => ∃ x y z B, Ex B H ∧ LtAt q B H P ∧ RCons K x (RCons K y (RCons K z RNil)) vs B ∧ pre x y z ∧ ∀ v r B2 H2, Ub P B H B2 H2 → LtAt q B2 H2 P → R x y z r → Rep.at_ K B2 v r → Q v H2
def FnT4R (K : PySem.W.Frag) (q : Str) (P : Addr) (pre : α → β → γ → δ → Prop) (R : α → β → γ → δ → ε → Prop) : Sp := fun vs H Q _ => ∃ x y z t B, Ex B H ∧ LtAt q B H P ∧ RCons K x (RCons K y (RCons K z (RCons K t RNil))) vs B ∧ pre x y z t ∧ ∀ v r B2 H2, Ub P B H B2 H2 → LtAt q B2 H2 P → R x y z t r → Rep.at_ K B2 v r → Q v H2
end
section
variable {K : PySem.W.Frag} {W0 : List Addr} {B0 H0 : Hp} {os : List OC} {Γ : List (Option Cell)} {σ : L2.St} {B H B1 H1 : Hp} {te ta tb tc td tk tv : TE} {tt tt1 : TT} {D : Ends} {tu tw tz : TS} {q : Str} {P : Addr}
theorem PqT.mono {α : Type} [Rep α] {R : α → Prop} {B' : Hp} (h : ∀ B', Ex B B' → PqT K q P te σ B' R) (e : Ex B B') : PqT K q P te σ B' R := h B' e
section
variable {α β γ δ ε : Type} [Rep α] [Rep β] [Rep γ] [Rep δ] [Rep ε] {vs : List V} {Q : VK} {E : XK}
theorem FnT3R.len {pre : α → β → γ → Prop} {R : α → β → γ → δ → Prop} (vs : List V) (H : Hp) (Q : VK) (E : XK) (h : FnT3R K q P pre R vs H Q E) : vs.length = 3 := by
  obtain ⟨x, y, z, B, e, _, ⟨v, r, rfl, h1, v2, r2, rfl, h2, v3, r3, rfl, h3, rfl⟩, _⟩ := h
  rfl
theorem FnT4R.len {pre : α → β → γ → δ → Prop} {R : α → β → γ → δ → ε → Prop} (vs : List V) (H : Hp) (Q : VK) (E : XK) (h : FnT4R K q P pre R vs H Q E) : vs.length = 4 := by
  obtain ⟨x, y, z, t, B, e, _, ⟨v, r, rfl, h1, v2, r2, rfl, h2, v3, r3, rfl, h3, v4, r4, rfl, h4, rfl⟩, _⟩ := h
  rfl
end
end
/-! ### the law's end -/
/-- _law_right, behind which the table may have grown -/
def RightPT (K : PySem.W.Frag) (q : Str) (P : Addr) : Sp := fun vs H Q _ => ∃ b B, vs = [.ref b] ∧ Ex B H ∧ BoxAt 0 B H b ∧ LtAt q B H P ∧
  ∀ B2 H2, Ex B B2 → Ex B2 H2 → (∀ a u, a ≠ b → a ≠ P → H a = some u → H2 a = some u) → (∀ a, B2 a ≠ none → B a ≠ none ∨ H a = none) → LtAt q B2 H2 P → Q (.bl true) H2
section
variable {K : PySem.W.Frag} {W0 : List Addr} {B0 H0 : Hp} {os : List OC} {Γ : List (Option Cell)} {σ : L2.St} {B H B1 H1 : Hp} {te ta tb tc td tk tv : TE} {tt tt1 : TT} {D : Ends} {tu tw tz : TS} {q : Str} {P : Addr} {vs : List V} {Q : VK} {E : XK}
theorem RightPT.len (vs : List V) (H : Hp) (Q : VK) (E : XK) (h : RightPT K q P vs H Q E) : vs.length = 1 := by
  obtain ⟨b, B, rfl, _⟩ := h
  rfl
end
/-- the law, of its script -/
def LawPT (K : PySem.W.Frag) (q : Str) (P : Addr) : Sp := fun vs H Q _ => ∃ (s : Sq Int) (B : Hp), Ex B H ∧ LtAt q B H P ∧ (∃ v, vs = [v] ∧ Rep.at_ K B v s) ∧ ∀ H2, Q (.bl true) H2
theorem LawPT.len {K : PySem.W.Frag} {q : Str} {P : Addr} (vs : List V) (H : Hp) (Q : VK) (E : XK) (h : LawPT K q P vs H Q E) : vs.length = 1 := by
  obtain ⟨s, B, _, _, ⟨v, rfl, _⟩, _⟩ := h
  rfl
theorem LawPT.start {K : PySem.W.Frag} {q : Str} {P : Addr} {H : Hp} {a : Addr} {ns : List Int} (hP : H P = some (.tbl #[])) (hS : SqL K H a (ns.map V.int)) : LawPT K q P [.ref a] H (fun v _ => v = .bl true) fun _ _ _ => False := by
  have cut : ∀ {b : Addr} {o : HO}, H b = some o → o ≠ .tbl #[] → cutH H P b = some o := fun {b o} h n => by
    have : b ≠ P := fun z => n (by rw [z, hP] at h; exact (Option.some.inj h).symm)
    rw [cutH_ne this]
    exact h
  refine ⟨⟨ns⟩, cutH H P, fun b o h => ?_, ⟨cutH_same, #[], hP, trivial, fun pos cv h => by simp [codeAmong] at h⟩, ⟨_, rfl, a, _, rfl, .inl (hS.imp (fun h => h.imp (fun h => cut h fun z => nomatch z) fun ⟨o, h⟩ => ⟨o, cut h fun z => nomatch z⟩) id), ints_atAll ns⟩, fun _ => rfl⟩
  by_cases hb : b = P
  · rw [hb, cutH_same] at h
    cases h
  · rw [cutH_ne hb] at h
    exact h
end Ob
set_option Elab.async false
set_option linter.all false
set_option maxRecDepth 100000
set_option maxHeartbeats 4000000
/-! Xe: promises of defs that may raise; the try that holds what it caught; the class's facts. -/
namespace Ob
open PySem PySem.Spec PyProof.Rows L2
open Evl (Ex)
open PySem.W (Datum Tup DatumOrd)
section
variable {α β γ : Type} [Rep α] [Rep β] [Rep γ]
def FnT2R (K : PySem.W.Frag) (q : Str) (P : Addr) (pre : α → β → Prop) (R : α → β → γ → Prop) : Sp := fun vs H Q _ => ∃ x y B, Ex B H ∧ LtAt q B H P ∧ RCons K x (RCons K y RNil) vs B ∧ pre x y ∧ ∀ v r B2 H2, Ub P B H B2 H2 → LtAt q B2 H2 P → R x y r → Rep.at_ K B2 v r → Q v H2
/-- the same, or the exception C is raised -/
def FnX2 (K : PySem.W.Frag) (q : Str) (P C : Addr) (pre : α → β → Prop) (R : α → β → γ → Prop) (bad : α → β → Prop) : Sp := fun vs H Q E => FnT2R K q P pre R vs H Q E ∨ ∃ x y B, Ex B H ∧ RCons K x (RCons K y RNil) vs B ∧ bad x y ∧ ∀ B2 H2, Up B H B2 H2 → E (.ref C) none H2
end
section
variable {K : PySem.W.Frag} {W0 : List Addr} {B0 H0 : Hp} {os : List OC} {Γ : List (Option Cell)} {σ : L2.St} {B H B1 H1 : Hp} {te ta tb tc td tk tv : TE} {tt tt1 : TT} {D : Ends} {tu tw tz : TS} {q : Str} {P C : Addr}
variable {α β γ : Type} [Rep α] [Rep β] [Rep γ] {vs : List V} {Q : VK} {E : XK} {pre : α → β → Prop} {R : α → β → γ → Prop} {bad : α → β → Prop}
theorem FnT2R.len (vs : List V) (H : Hp) (Q : VK) (E : XK) (h : FnT2R K q P pre R vs H Q E) : vs.length = 2 := by
  obtain ⟨x, y, B, e, _, ⟨v, r, rfl, h1, v2, r2, rfl, h2, rfl⟩, _⟩ := h
  rfl
theorem FnX2.len (vs : List V) (H : Hp) (Q : VK) (E : XK) (h : FnX2 K q P C pre R bad vs H Q E) : vs.length = 2 := by
  rcases h with h | ⟨x, y, B, e, ⟨v, r, rfl, h1, v2, r2, rfl, h2, rfl⟩, _⟩
  · exact FnT2R.len vs H Q E h
  · rfl
end
end Ob
set_option Elab.async false
set_option linter.all false
set_option maxRecDepth 100000
set_option maxHeartbeats 4000000
/-! Nx: own exception classes over any base, whose __init__ calls the base's and stores one field. -/
namespace PySem
namespace NSX
open PySem.W PySem.Calls PyProof.Rows PySem.HandSPX
section
open Builtin Builtin.ObjectAttr
variable {prog : Program} {w : World} {A : Around} {E : Value → Shared → Prop} {R : Result → Shared → Prop} {hp : Heap} {g : Array GenState} {d : Drawn} {t : Nat} {os : OsState}
/-- the first field of such an exception -/
theorem osa_newG {B : String} {bmB : List Value} {K : W.Frag} {name : Str} {tk : Tok} {v : Value} {x C : Addr} {fv : Array Value} (SF : StoreFacts B bmB "object.__setattr__" "object") (X : K.In hp) (hx : hp.get? x = some { cls := .ref C, data := .fields fv })
    (ho : W.excOver K C bmB = true) (hd : W.hasDictIn K C = true) (ha : W.findIn K (.ref C) name = some none)
    (hq : ∀ h' tk' dx, (∀ b o, b ≠ x → hp.get? b = some o → h'.get? b = some o) → hp.objs.size ≤ dx → dx ≠ x → h'.get? x = some { cls := .ref C, dict := some dx, data := .fields fv } →
      h'.Ns1 dx (fun y => if y = name then some v else none) → R (.ok (.ret .none)) ⟨h', g, d, tk', os⟩) :
    codeAny (model prog w) A (.call (.builtin "object.__setattr__") ⟨[.ref x, .str name tk, v], []⟩) R ⟨hp, g, d, t, os⟩ := by
  have I : W.InstAt hp x { cls := .ref C, data := .fields fv } C none := ⟨hx, rfl, rfl, trivial⟩
  have hne : x ≠ hp.objs.size := Nat.ne_of_lt (Heap.lt_size hx)
  obtain ⟨cd, hcd, hh⟩ := W.any_some hd
  refine W.osa_openX SF X I ho (r := none) (by unfold W.takerIn; rw [ha]; rfl) fun b => ?_
  show wpAny _ _ (storeInOwnDict (.ref x) (.ref C) (.str name tk) name v b) _ _ _
  have Lc : W.Looks (model prog w) hp (classData C) cd := W.looks_clsIn X hcd
  obtain ⟨nm, bs, mro, ns, qn, hdd, sn, sb, ab, col, dl⟩ := cd
  replace hh : hdd = true := hh
  subst hh
  unfold storeInOwnDict ownDictForStores
  repeat (first | with_reducible refine HandSPX.store_in_new ?_ ?_ | with_reducible refine wpAny_loadPart_at hx ?_ | with_reducible refine Lc.at ?_ | wp_step)
  · exact ⟨_, #[], _, (Heap.get?_update_ne _ _ _ _ hne.symm).trans (Heap.get?_push_at rfl rfl), rfl, fun e he => absurd he (by simp), fun _ => rfl⟩
  · intro h' tk' hn' hs
    have h1 : (hp.push { cls := .type "dict", data := .dict #[] }).get? x = some { cls := .ref C, data := .fields fv } := Heap.get?_push_of_some _ hx
    refine hq h' tk' hp.objs.size (fun b o hb hbo => ?_) (Nat.le_refl _) hne.symm ((hs.2 x hne).trans (Heap.get?_update_self _ h1 rfl)) hn'
    exact (hs.2 b (Nat.ne_of_lt (Heap.lt_size hbo))).trans ((Heap.get?_update_ne _ _ _ _ hb).trans (Heap.get?_push_of_some _ hbo))
end
end NSX
end PySem
namespace L2
open PySem PySem.Spec PyProof.Rows
/-- what is known of such a class C (its __init__ at fI, its field f), of its base -/
structure NsC (K : PySem.W.Frag) (C fI : Addr) (f : Str) (bmB : List Value) (newId : String) : Prop where
  ei : PySem.W.excInitIn K C bmB newId = true
  eo : PySem.W.excOver K C bmB = true
  hd : PySem.W.hasDictIn K C = true
  sa : PySem.W.findIn K (.ref C) "__setattr__" = some (some (.builtin "object.__setattr__"))
  no : PySem.W.findIn K (.ref C) f = some none
  iC : PySem.W.findIn K (.ref C) "__init__" = some (some (.ref fI))
  tI : PySem.W.typeIn K (.ref fI) = some (.type "function")
  exC : PySem.W.subIn K (.ref C) (.type "BaseException") = some true
  tyC : PySem.W.typeIn K (.ref C) = some (.type "type")
  kC : PySem.W.keepIn K (.ref C) = true
  ga : PySem.W.findIn K (.ref C) "__getattribute__" = some (some (.builtin "BaseException.__getattribute__"))
  gg : PySem.W.findIn K (.ref C) "__getattr__" = some none
  ca : PySem.W.findIn K (.ref C) "__class__" = some (some (.builtin "object.__class__"))
  cg : PySem.W.specialIn K (.builtin "object.__class__") "__get__" = some (some (.builtin "getset_descriptor.__get__"))
  ct : PySem.W.takesIn K (.builtin "object.__class__") = some true
  cm : PySem.W.mroIn K C (.type "object") = some true
section
variable {X : Cx} {pins : List (Addr × Obj)} {σ : St} {H : Hp} {s : Shared} {a C fI dx : Addr} {f : Str} {y : V} {u : Value} {E : Value → Shared → Prop} {A : Around} {B newId initId : String} {bmB : List Value}
theorem Inv.trackG (I : Inv X pins σ H s) {a : Addr} {oe : Obj} {o : HO} (ha : s.heap.get? a = some oe) (hd : ∀ v, oe.data ≠ .cell v) (na : H a = none) (nL : a ≠ X.env.locals)
    (n0 : X.s_0.heap.get? a = none) (nP : ∀ p ∈ X.pn ++ pins, p.1 ≠ a) (new : ObjOk X.prog X.w (upd H a o) s.heap a o) : Inv X pins σ (upd H a o) s :=
  ⟨I.ok, I.os, I.bare, ⟨I.base.keep, I.base.slot, fun b o e n hq => by
      rw [upd_ne (fun z => by rw [z, n0] at e; cases e)]
      exact I.base.free b o e n hq, I.base.there, fun b xs e => by
      have q := I.base.tups b xs e
      rw [upd_ne (ne_of_none q na)]
      exact q, fun b o u e => by
      have q := I.base.frzs b o u e
      rw [upd_ne (ne_of_none q na)]
      exact q, fun b ps e => by
      obtain ⟨m, q⟩ := I.base.tbls b ps e
      exact ⟨m, by rw [upd_ne (ne_of_none q na)]; exact q⟩⟩, I.loc, I.cell, by
    rw [upd_ne (Ne.symm nL)]
    exact I.free, fun x c e => by
    obtain ⟨v, o, ho, hv⟩ := I.cell x c e
    rw [upd_ne (fun z => by
      rw [z, ha] at ho
      cases ho
      exact hd v hv)]
    exact I.freeC x c e, fun p hp => by
    obtain ⟨e, n, r⟩ := I.pin p hp
    exact ⟨e, by rw [upd_ne (nP p hp)]; exact n, r⟩, I.hok.laidN (fun _ _ q => q) na new, I.len⟩
/-- self.f = y -/
theorem ostG (SF : StoreFacts B bmB "object.__setattr__" "object") (T : NsC X.K C fI f bmB newId) (I : Inv X pins σ H s) (e : H a = some (exo a C none)) (ry : RelV y u) {Q : Unit → Shared → Prop}
    (h : ∀ dx s', H dx = none → dx ≠ a → Inv X pins σ (upd (upd H a (exo a C (some dx))) dx (exd dx [(f, y)])) s' → Q () s') : wpAny (model X.prog X.w) A (setAttr (.ref a) f u) Q E s := by
  obtain ⟨t1, ho⟩ := exo_at I.hok e
  obtain ⟨hp, g, d, t, os⟩ := s
  refine PySem.W.set_plain I.kIn (ox := { cls := .ref C, dict := none, data := .fields #[.ref t1, .none, .none, .none, .bool false, .none] }) (od := none) ⟨ho, rfl, rfl, trivial⟩ T.sa ?_
  refine PySem.NSX.osa_newG SF I.kIn ho T.eo T.hd T.no fun h' tk' dx k dn dne hx hn => ?_
  have hnd : H dx = none := I.hok.fresh dn
  have J := I.write (t' := tk') (x := a) (e := a) (o := exo a C (some dx)) (by rw [e]; exact True.intro) (.inl rfl) k ⟨_, hx⟩ (exo_ok hx)
  obtain ⟨od, es, ep, hod, hdd, hrest⟩ := id hn
  have hlt : ∀ {b : Addr} {o : Obj}, hp.get? b = some o → b ≠ dx := fun {b o} q => Nat.ne_of_lt (Nat.lt_of_lt_of_le (Heap.lt_size q) dn)
  refine h dx _ hnd dne (J.trackG hod (fun v z => by rw [hdd] at z; cases z) (by rw [upd_ne dne]; exact hnd) (fun z => ?_) ?_ (fun p hp z => ?_) (exd_ok hn (relO_put (fs := []) ry fun g => True.intro)))
  · have := I.lt
    rw [← z] at this
    exact absurd (Nat.lt_of_lt_of_le this dn) (Nat.lt_irrefl _)
  · cases q : X.s_0.heap.get? dx with
    | none => rfl
    | some o => exact absurd (Nat.lt_of_lt_of_le (Heap.lt_size q) (Nat.le_trans I.sz dn)) (Nat.lt_irrefl _)
  · exact hlt (I.pin p hp).1 z
/-- B.__init__(self, ..) -/
theorem binit_ok {us : List Value} {Q : Value → Shared → Prop} (F : ExcBaseFacts B newId initId bmB) (T : NsC X.K C fI f bmB newId) (I : Inv X pins σ H s) (e : H a = some (exo a C none)) (hl : us.length ≤ sizeLine) (h : ∀ s', Inv X pins σ H s' → Q .none s') :
    wpAny (model X.prog X.w) A (call (.builtin initId) (.ref a :: us)) Q E s := by
  obtain ⟨nm, N, qn, bs, bm, hdct, sn, sub, ab, col, dd, k0, k1, k2, k3, k5, hC, hT⟩ := PySem.W.excInit_of I.kIn T.ei
  obtain ⟨t1, ho⟩ := exo_at I.hok e
  obtain ⟨hp, g, d, t, os⟩ := s
  refine wpAny_call (PySem.HandSPX.init_base F hT hC ho hl fun h' t2 k hx => ?_)
  have J := I.write (t' := t) (x := a) (e := a) (o := exo a C none) (by rw [e]; exact True.intro) (.inl rfl) k ⟨_, hx⟩ (exo_ok hx)
  have eu : upd H a (exo a C none) = H := funext fun b => by
    by_cases hb : b = a
    · rw [hb, upd_same, e]
    · rw [upd_ne hb]
  exact h _ (eu ▸ J)
end
/-- B.__init__(self, ..), the reading -/
def tBinit (C : Addr) (ta : TA) : TE := fun σ H Q => ta σ H fun vs H1 => ∃ (a : Addr) (ws : List V), vs = .ref a :: ws ∧ ws.length ≤ 1000 ∧ H1 a = some (exo a C none) ∧ Q .non H1
/-- self.f = e, the reading -/
def tOsf (C : Addr) (f : Str) (to te : TE) : TS := fun D σ H => te σ H fun y H1 => to σ H1 fun x H2 => ∃ a : Addr, x = .ref a ∧ H2 a = some (exo a C none) ∧ ∀ dx, H2 dx = none → dx ≠ a → D.nx σ (upd (upd H2 a (exo a C (some dx))) dx (exd dx [(f, y)]))
/-- what __init__ keeps -/
def spInit (C : Addr) (f : Str) : Sp := fun vs H Q _ => ∃ (a : Addr) (v : V), vs = [.ref a, v] ∧ H a = some (exo a C none) ∧ ∀ dx, H dx = none → dx ≠ a → Q .non (upd (upd H a (exo a C (some dx))) dx (exd dx [(f, v)]))
section
variable {X : Cx} {o e : Expr} {es : List Expr} {to te : TE} {ta : TA} {f x : Str} {p p' p1 p2 pos pos2 : Pos} {C fI : Addr} {B newId initId : String} {bmB : List Value}
theorem pe_leinit {pl : Sem Bool} (T : NsC X.K C fI f bmB "LookupError.__new__") (hb0 : bmB = [.type "LookupError", .type "Exception", .type "BaseException", .type "object"]) (hg : Gl X "LookupError") (hm : X.mg "LookupError" = none)
    (vV : PySem.W.findCls X.K (.type "LookupError") (.type "type") "__init__" = some (.val (.builtin "LookupError.__init__"))) (ha : PA X (e :: es) ta)
    (hc : eval (.Call (.Attribute (.Name "LookupError" p1) "__init__" p2) (e :: es) [] pos) X.env = (do
      let ov ← eval (.Name "LookupError" p1) X.env
      standAt p2.atName
      let (f, first) ← holding [ov] (getMethod ov "__init__" pl)
      callWith pos f first (backTo pos (starEach (e :: es) X.env)) (backToKw pos (keywordEach [] X.env))) := by rfl)
    (he : starEach (e :: es) X.env = (false, eval e X.env) :: starEach es X.env := by rfl) (hpl : (backTo pos (starEach es X.env)).any (·.1) = false := by rfl) :
    PE X (.Call (.Attribute (.Name "LookupError" p1) "__init__" p2) (e :: es) [] pos) (tBinit C ta) := by
  subst hb0
  refine ⟨fun pins s σ H Q I h => ?_⟩
  refine PySem.W.methodCall_KW (ld_blt I hg hm (u := .type "LookupError") (by decide +kernel) ?_ (by decide) (by decide)) hc
  obtain ⟨m, fr⟩ := I.fr
  refine PySem.W.method_type (T := "LookupError") (name := "__init__") (v := .builtin "LookupError.__init__") (pl := pl) fr I.ok.mod.kin (show typeOf (.type "LookupError") = pure (.type "type") by kernel_rfl) (by decide +kernel) vV (by decide +kernel) ?_
  show wpAny _ _ (callWith pos (Value.builtin "LookupError.__init__") [] (backTo pos (starEach (e :: es) X.env)) []) _ _ _
  refine PyProof.Rows.callWith_method1 (thn (ha.run pos pins _ σ H _ (I.tok _) h) fun us s1 ⟨vs, H1, I1, r1, a, ws, ev, hl, ea, q⟩ => ?_) he hpl
  subst ev
  cases r1 with
  | @cons _ u0 _ ur ra rw' =>
    obtain rfl : u0 = Value.ref a := ra
    have hlen : ur.length ≤ sizeLine := by
      rw [← Paired.length rw', sizeLine_eq]
      omega
    exact binit_ok PySem.F.excBase_LookupError T I1 ea hlen fun s' J => ⟨.non, H1, J, rfl, q⟩
theorem pe_reinit {pl : Sem Bool} (T : NsC X.K C fI f bmB "RuntimeError.__new__") (hb0 : bmB = [.type "RuntimeError", .type "Exception", .type "BaseException", .type "object"]) (hg : Gl X "RuntimeError") (hm : X.mg "RuntimeError" = none)
    (vV : PySem.W.findCls X.K (.type "RuntimeError") (.type "type") "__init__" = some (.val (.builtin "RuntimeError.__init__"))) (ha : PA X (e :: es) ta)
    (hc : eval (.Call (.Attribute (.Name "RuntimeError" p1) "__init__" p2) (e :: es) [] pos) X.env = (do
      let ov ← eval (.Name "RuntimeError" p1) X.env
      standAt p2.atName
      let (f, first) ← holding [ov] (getMethod ov "__init__" pl)
      callWith pos f first (backTo pos (starEach (e :: es) X.env)) (backToKw pos (keywordEach [] X.env))) := by rfl)
    (he : starEach (e :: es) X.env = (false, eval e X.env) :: starEach es X.env := by rfl) (hpl : (backTo pos (starEach es X.env)).any (·.1) = false := by rfl) :
    PE X (.Call (.Attribute (.Name "RuntimeError" p1) "__init__" p2) (e :: es) [] pos) (tBinit C ta) := by
  subst hb0
  refine ⟨fun pins s σ H Q I h => ?_⟩
  refine PySem.W.methodCall_KW (ld_blt I hg hm (u := .type "RuntimeError") (by decide +kernel) ?_ (by decide) (by decide)) hc
  obtain ⟨m, fr⟩ := I.fr
  refine PySem.W.method_type (T := "RuntimeError") (name := "__init__") (v := .builtin "RuntimeError.__init__") (pl := pl) fr I.ok.mod.kin (show typeOf (.type "RuntimeError") = pure (.type "type") by kernel_rfl) (by decide +kernel) vV (by decide +kernel) ?_
  show wpAny _ _ (callWith pos (Value.builtin "RuntimeError.__init__") [] (backTo pos (starEach (e :: es) X.env)) []) _ _ _
  refine PyProof.Rows.callWith_method1 (thn (ha.run pos pins _ σ H _ (I.tok _) h) fun us s1 ⟨vs, H1, I1, r1, a, ws, ev, hl, ea, q⟩ => ?_) he hpl
  subst ev
  cases r1 with
  | @cons _ u0 _ ur ra rw' =>
    obtain rfl : u0 = Value.ref a := ra
    have hlen : ur.length ≤ sizeLine := by
      rw [← Paired.length rw', sizeLine_eq]
      omega
    exact binit_ok PySem.F.excBase_RuntimeError T I1 ea hlen fun s' J => ⟨.non, H1, J, rfl, q⟩
theorem ps_osf (SF : StoreFacts B bmB "object.__setattr__" "object") (T : NsC X.K C fI f bmB newId) (ho : PE X o to) (he : PE X e te) (hs : swapsWith e (some (.Attribute o f p')) pos.line X.env = pure false := by rfl) : PS X (.Assign [.Attribute o f p'] e pos) (tOsf C f to te) := by
  refine ⟨fun pins s σ H D I h => ?_⟩
  refine plainObj_wpAny_Assign_Attribute (thn (he.run pins s σ H _ I h) fun v s1 ⟨y, H1, I1, r1, q1⟩ => thn (ho.run pins s1 σ H1 _ I1 q1) fun u s2 ⟨xx, H2, I2, r2, a, ex, ea, q⟩ => ?_) hs
  subst ex
  obtain rfl : u = Value.ref a := r2
  exact ostG SF T I2 ea r1 fun dx s' n ne J => ⟨σ, _, J, q dx n ne⟩
end
end L2
set_option Elab.async false
set_option linter.all false
set_option maxRecDepth 100000
set_option maxHeartbeats 4000000
/-! Ny: an exception with a field, held behind the try: isinstance, its field; promises of defs that raise it. -/
namespace L2
open PySem PySem.Spec PyProof.Rows
theorem passInit {X : Cx} : Passes L2.CX0 X (fun _ _ _ => False) := pass0
end L2
namespace Ob
open PySem PySem.Spec PyProof.Rows L2
open Evl (Ex)
open PySem.W (Datum Tup DatumOrd)
abbrev reB : List Value := [.type "RuntimeError", .type "Exception", .type "BaseException", .type "object"]
def nsB (x f : Str) (bmB : List Value) (newId : String) (K : PySem.W.Frag) : Bool :=
  PySem.W.excInitIn K (He.ga K x) bmB newId && (PySem.W.excOver K (He.ga K x) bmB && (PySem.W.hasDictIn K (He.ga K x) && (He.eqO (PySem.W.findIn K (.ref (He.ga K x)) "__setattr__") (some (some (.builtin "object.__setattr__"))) &&
  (He.eqO (PySem.W.findIn K (.ref (He.ga K x)) f) (some none) && (He.eqO (PySem.W.findIn K (.ref (He.ga K x)) "__init__") (some (some (.ref (He.ma K (He.ga K x) "__init__")))) && (decide (PySem.W.typeIn K (.ref (He.ma K (He.ga K x) "__init__")) = some (.type "function")) &&
  (decide (PySem.W.subIn K (.ref (He.ga K x)) (.type "BaseException") = some true) && (decide (PySem.W.typeIn K (.ref (He.ga K x)) = some (.type "type")) && (PySem.W.keepIn K (.ref (He.ga K x)) &&
  (He.eqO (PySem.W.findIn K (.ref (He.ga K x)) "__getattribute__") (some (some (.builtin "BaseException.__getattribute__"))) && (He.eqO (PySem.W.findIn K (.ref (He.ga K x)) "__getattr__") (some none) && (He.eqO (PySem.W.findIn K (.ref (He.ga K x)) "__class__") (some (some (.builtin "object.__class__"))) &&
  (He.eqO (PySem.W.specialIn K (.builtin "object.__class__") "__get__") (some (some (.builtin "getset_descriptor.__get__"))) && (decide (PySem.W.takesIn K (.builtin "object.__class__") = some true) && decide (PySem.W.mroIn K (He.ga K x) (.type "object") = some true)))))))))))))))
theorem nsB_ok {x f : Str} {bmB : List Value} {newId : String} {K : PySem.W.Frag} (h : nsB x f bmB newId K = true) : NsC K (He.ga K x) (He.ma K (He.ga K x) "__init__") f bmB newId := by
  obtain ⟨h1, h⟩ := He.ba h
  obtain ⟨h2, h⟩ := He.ba h
  obtain ⟨h3, h⟩ := He.ba h
  obtain ⟨h4, h⟩ := He.ba h
  obtain ⟨h5, h⟩ := He.ba h
  obtain ⟨h6, h⟩ := He.ba h
  obtain ⟨h7, h⟩ := He.ba h
  obtain ⟨h8, h⟩ := He.ba h
  obtain ⟨h9, h⟩ := He.ba h
  obtain ⟨h10, h⟩ := He.ba h
  obtain ⟨h11, h⟩ := He.ba h
  obtain ⟨h12, h⟩ := He.ba h
  obtain ⟨h13, h⟩ := He.ba h
  obtain ⟨h14, h⟩ := He.ba h
  obtain ⟨h15, h16⟩ := He.ba h
  exact ⟨h1, h2, h3, He.eqO_ok h4, He.eqO_ok h5, He.eqO_ok h6, of_decide_eq_true h7, of_decide_eq_true h8, of_decide_eq_true h9, h10, He.eqO_ok h11, He.eqO_ok h12, He.eqO_ok h13, He.eqO_ok h14, of_decide_eq_true h15, of_decide_eq_true h16⟩
section
variable {α β γ : Type} [Rep α] [Rep β] [Rep γ]
/-- a def of two parameters that gives g x y, or raises C with the field f that holds a text -/
def FnY2 (K : PySem.W.Frag) (C : Addr) (f : Str) (pre : α → β → Prop) (g : α → β → γ) (bad : α → β → Str → Prop) : Sp := fun vs H Q E => Fn2 K pre g vs H Q E ∨ ∃ x y z B, Ex B H ∧ RCons K x (RCons K y RNil) vs B ∧ bad x y z ∧ ∀ d B2 H2, Up B H B2 H2 → B2 d = some (.xd [(f, .str z)]) → E (.ref C) (some d) H2
end
section
variable {K : PySem.W.Frag} {W0 : List Addr} {B0 H0 : Hp} {os : List OC} {Γ : List (Option Cell)} {σ : L2.St} {B H B1 H1 : Hp} {te ta tb tc td tk tv : TE} {tt tt1 : TT} {D : Ends} {tu tw tz : TS} {C : Addr} {f : Str}
variable {α β γ : Type} [Rep α] [Rep β] [Rep γ] {vs : List V} {Q : VK} {E : XK} {pre : α → β → Prop} {g : α → β → γ} {bad : α → β → Str → Prop}
theorem FnY2.len (vs : List V) (H : Hp) (Q : VK) (E : XK) (h : FnY2 K C f pre g bad vs H Q E) : vs.length = 2 := by
  rcases h with h | ⟨x, y, z, B, e, ⟨v, r, rfl, h1, v2, r2, rfl, h2, rfl⟩, _⟩
  · exact Fn2.len vs H Q E h
  · rfl
end
section
variable {α β γ δ ε κ : Type} [Rep α] [Rep β] [Rep γ] [Rep δ] [Rep ε] [Rep κ]
/-- of three, of four parameters, the field any thing -/
def FnZ3 (K : PySem.W.Frag) (C : Addr) (f : Str) (ok : Sp) (bad : α → β → γ → ε → Prop) : Sp := fun vs H Q E => ok vs H Q E ∨ ∃ x y z w B, Ex B H ∧ RCons K x (RCons K y (RCons K z RNil)) vs B ∧ bad x y z w ∧ ∀ d v B2 H2, Up B H B2 H2 → B2 d = some (.xd [(f, v)]) → Rep.at_ K B2 v w → E (.ref C) (some d) H2
def FnZ4 (K : PySem.W.Frag) (C : Addr) (f : Str) (ok : Sp) (bad : α → β → γ → δ → ε → Prop) : Sp := fun vs H Q E => ok vs H Q E ∨ ∃ x y z t w B, Ex B H ∧ RCons K x (RCons K y (RCons K z (RCons K t RNil))) vs B ∧ bad x y z t w ∧ ∀ d v B2 H2, Up B H B2 H2 → B2 d = some (.xd [(f, v)]) → Rep.at_ K B2 v w → E (.ref C) (some d) H2
end
section
variable {K : PySem.W.Frag} {W0 : List Addr} {B0 H0 : Hp} {os : List OC} {Γ : List (Option Cell)} {σ : L2.St} {B H B1 H1 : Hp} {te ta tb tc td tk tv : TE} {tt tt1 : TT} {D : Ends} {tu tw tz : TS} {C : Addr} {f : Str}
variable {α β γ δ ε : Type} [Rep α] [Rep β] [Rep γ] [Rep δ] [Rep ε] {vs : List V} {Q : VK} {E : XK} {ok : Sp} {bad : α → β → γ → ε → Prop} {bad4 : α → β → γ → δ → ε → Prop}
theorem FnZ3.len (hk : ∀ vs H Q E, ok vs H Q E → vs.length = 3) (vs : List V) (H : Hp) (Q : VK) (E : XK) (h : FnZ3 K C f ok bad vs H Q E) : vs.length = 3 := by
  rcases h with h | ⟨x, y, z, w, B, e, ⟨v, r, rfl, h1, v2, r2, rfl, h2, v3, r3, rfl, h3, rfl⟩, _⟩
  · exact hk vs H Q E h
  · rfl
theorem FnZ4.len (hk : ∀ vs H Q E, ok vs H Q E → vs.length = 4) (vs : List V) (H : Hp) (Q : VK) (E : XK) (h : FnZ4 K C f ok bad4 vs H Q E) : vs.length = 4 := by
  rcases h with h | ⟨x, y, z, t, w, B, e, ⟨v, r, rfl, h1, v2, r2, rfl, h2, v3, r3, rfl, h3, v4, r4, rfl, h4, rfl⟩, _⟩
  · exact hk vs H Q E h
  · rfl
end
end Ob
set_option Elab.async false
set_option linter.all false
set_option maxRecDepth 100000
set_option maxHeartbeats 4000000
/-! Nz: the __init__ of an exception with one field. -/
namespace Ob
open PySem PySem.Spec PyProof.Rows L2
open Evl (Ex)
def t_xinit (C : Addr) (f : Str) : TS := tSeq (tDrop (tBinit C (tCons (tVar 0) (tCons (tVar 1) tNil)))) (tOsf C f (tVar 0) (tVar 1))
theorem l_xinit {C : Addr} {f : Str} (vs : List V) (H : Hp) (Q : VK) (E : XK) (h : spInit C f vs H Q E) : vs.length = 2 := by
  obtain ⟨a, v, rfl, _⟩ := h
  rfl
theorem r_xinit {C : Addr} {f : Str} {N : List Str} (vs : List V) (H : Hp) (Q : VK) (E : XK) (h : spInit C f vs H Q E) (hN : N.length = 2 := by rfl) : t_xinit C f { nx := fun _ H' => Q .non H', rt := Q } (L2.start N vs) H := by
  obtain ⟨a, v, rfl, hH, q⟩ := h
  have e : L2.start N [.ref a, v] = [some (.ref a), some v] := by
    unfold L2.start
    rw [hN]
    rfl
  rw [e]
  exact ⟨_, rfl, _, rfl, a, [v], rfl, by show 1 ≤ 1000; decide, hH, ⟨v, rfl, .ref a, rfl, a, rfl, hH, fun dx h1 h2 => q dx h1 h2⟩⟩
theorem le_init {K : PySem.W.Frag} : PySem.W.findCls K (.type "LookupError") (.type "type") "__init__" = some (.val (.builtin "LookupError.__init__")) := by kernel_rfl
theorem re_init {K : PySem.W.Frag} : PySem.W.findCls K (.type "RuntimeError") (.type "type") "__init__" = some (.val (.builtin "RuntimeError.__init__")) := by kernel_rfl
end Ob
set_option Elab.async false
set_option linter.all false
set_option maxRecDepth 100000
set_option maxHeartbeats 4000000
/-! Kv: a call of an own exception class with one argument by its name. -/
namespace PySem
namespace HandSPX
open Builtin Builtin.ObjectAttr
section
variable {M : Model} {A : Around} {E : Value → Shared → Prop} {h : Heap} {g : Array GenState} {d : Drawn} {t : Nat} {os : OsState}
variable {nm q : Str} {C N : Addr} {bs bm bmB : List Value} {hdct : Bool} {sn : List Str} {sub : List Value} {ab : Bool} {col : Option Bool} {dd : Option Addr} {k0 k1 k2 k3 k5 : Option Value} {B newId initId : String}
theorem check_new_kw (F : ExcBaseFacts B newId initId bmB) (hT : ∀ X : String, bm.contains (.type X) = bmB.contains (.type X)) {kw : List (Str × Value)} {Q : Unit → Shared → Prop}
    (hC : h.get? C = some (excClassObj nm q C N bs bm hdct sn sub ab col dd k0 k1 k2 k3 k5 newId)) (hq : Q () ⟨h, g, d, t, os⟩) : wpAny M A (checkBuiltinCall newId ⟨[.ref C], kw⟩) Q E ⟨h, g, d, t, os⟩ := by
  have hcont : (Value.ref C :: bm).contains (.type B) = true := by rw [List.contains_cons, hT, F.hasB, Bool.or_true]
  have hstar := F.noStar
  simp only [checkBuiltinCall, F.newKind, F.newSplit, F.newRow]
  repeat (first | refine wpAny_loadPart_at hC ?_ | (refine wpAny_isSubtype_exc hC ?_; rw [hcont]) | refine wpAny_staticBase_exc hC ?_ | refine wpAny_madeBy_exc hC ?_ | simp only [bne_self_eq_false, Bool.false_eq_true, if_false] | wp_step)
  exact hq
end
section
variable {prog : Program} {w : World} {A : Around} {E : Value → Shared → Prop} {R : Result → Shared → Prop} {h : Heap} {g : Array GenState} {d : Drawn} {t : Nat} {os : OsState}
variable {nm q : Str} {C N : Addr} {bs bm bmB : List Value} {hdct : Bool} {sn : List Str} {sub : List Value} {ab : Bool} {col : Option Bool} {dd : Option Addr} {k0 k1 k2 k3 k5 : Option Value} {B newId initId : String}
theorem new_kw (F : ExcBaseFacts B newId initId bmB) (hT : ∀ X : String, bm.contains (.type X) = bmB.contains (.type X)) {kw : List (Str × Value)}
    (hC : h.get? C = some (excClassObj nm q C N bs bm hdct sn sub ab col dd k0 k1 k2 k3 k5 newId))
    (hq : R (.ok (.ret (.ref (h.objs.size + 1)))) ⟨(h.push { cls := .type "tuple", data := .seq #[] }).push
      { cls := .ref C, data := .fields #[.ref h.objs.size, .none, .none, .none, .bool false, .none] }, g, d, t, os⟩) :
    codeAny (model prog w) A (.builtin newId ⟨[.ref C], kw⟩) R ⟨h, g, d, t, os⟩ := by
  have hrest : ([] : List Value).length ≤ sizeLine := Nat.zero_le _
  have hends := F.ends
  have hcB : (Value.ref C :: bm).contains (.type B) = true := by rw [List.contains_cons, hT, F.hasB, Bool.or_true]
  have hcA : (Value.ref C :: bm).contains (.type "AttributeError") = false := by rw [List.contains_cons, hT, F.noAttr]; rfl
  have hcN : (Value.ref C :: bm).contains (.type "NameError") = false := by rw [List.contains_cons, hT, F.noName]; rfl
  refine codeAny_builtinAt F.entry ?_
  unfold Builtin.«BaseException.__new__»
  refine wpAt_bind ?_
  show wpAt _ _ _ (stack >>= _) _ _ _
  refine wpAt_bind (wpAt_stack fun p below => wpAt_of_wpAny ?_)
  wp_walk
  refine wpAt_of_wpAny ?_
  rw [F.owner]
  repeat (first | with_reducible refine wpAny_madeHere_exc F.canon hC ?_ | with_reducible refine wpAny_loadPart_at hC ?_ | (with_reducible refine wpAny_isSubtype_exc hC ?_; first | rw [hcB] | rw [hcA] | rw [hcN]) | wp_step)
  show R _ _
  rw [Heap.size_push]
  exact hq
theorem type_call_kw (F : ExcBaseFacts B newId initId bmB) (hT : ∀ X : String, bm.contains (.type X) = bmB.contains (.type X)) {kw : List (Str × Value)} {fI : Addr} {Q : Fin → Shared → Prop}
    (hC : h.get? C = some (excClassObj nm q C N bs bm hdct sn sub ab col dd k0 k1 k2 k3 k5 newId))
    (hi : W.Looks (model prog w) h (typeLookup (.ref C) "__init__") (some (.ref fI))) (hb : ∀ self, W.Looks (model prog w) h (bindSpecial (.ref fI) self) (.ref fI, [self]))
    (hq : codeAny (model prog w) A (.call (.ref fI) ⟨[.ref (h.objs.size + 1)], kw⟩)
      (fun r s' => match r with | .ok (.ret v) => v = .none ∧ Q (.done (.ret (.ref (h.objs.size + 1)))) s' | .ok _ => False | .error e => E e s')
      ⟨(h.push (W.kdv_tup [])).push (excO C h.objs.size), g, d, t, os⟩) :
    wpAny (model prog w) A (Builtin.«type.__call__» ⟨[.ref C], kw⟩) Q E ⟨h, g, d, t, os⟩ := by
  repeat (first | with_reducible refine wpAny_loadPart_at hC ?_ | with_reducible refine wpAny_madeBy_exc hC ?_ | wp_step)
  refine codeAny_call_builtin_code (Code.quiet_builtin _ F.quiet) (check_new_kw F hT hC ?_)
  refine new_kw F hT hC ?_
  show wpAny _ _ _ _ _ _
  have k : ∀ b o, h.get? b = some o → ((h.push (W.kdv_tup [])).push (excO C h.objs.size)).get? b = some o := fun b o e => Heap.get?_push_of_some _ (Heap.get?_push_of_some _ e)
  have hC₁ := k _ _ hC
  have hget : ((h.push (W.kdv_tup [])).push (excO C h.objs.size)).get? (h.objs.size + 1) = some (excO C h.objs.size) := by heap_get
  have hcC : (Value.ref C :: bm).contains (.ref C) = true := by simp
  have i1 := hi.keeps k
  have b1 := (hb (.ref (h.objs.size + 1))).keeps k
  unfold isInstance
  repeat (first | with_reducible refine wpAny_loadPart_at hget ?_ | (with_reducible refine wpAny_isSubtype_exc hC₁ ?_; rw [hcC]) | wp_step)
  show wpAny _ _ (typeLookup (.ref C) _) _ _ _
  refine i1.at ?_
  refine wpAny_holding (wpAny_bind (b1.at ?_))
  refine wpAny_bind (wpAny_call (codeAny_mono hq fun r s' z => ?_))
  rcases r with e | (v | _ | _ | _) <;> first | exact z | exact z.elim | skip
  obtain ⟨rfl, z⟩ := z
  first
    | exact wpAny_pure (wpAny_pure z)
    | (wp_walk; exact z)
theorem call_kw (F : ExcBaseFacts B newId initId bmB) (hT : ∀ X : String, bm.contains (.type X) = bmB.contains (.type X)) {kw : List (Str × Value)} {fI : Addr}
    (hC : h.get? C = some (excClassObj nm q C N bs bm hdct sn sub ab col dd k0 k1 k2 k3 k5 newId))
    (hi : W.Looks (model prog w) h (typeLookup (.ref C) "__init__") (some (.ref fI))) (hb : ∀ self, W.Looks (model prog w) h (bindSpecial (.ref fI) self) (.ref fI, [self]))
    (hq : codeAny (model prog w) (A.under (.builtin "type.__call__" ⟨[.ref C], kw⟩)) (.call (.ref fI) ⟨[.ref (h.objs.size + 1)], kw⟩) (W.InitBack (h.objs.size + 1) R)
      ⟨(h.push (W.kdv_tup [])).push (excO C h.objs.size), g, d, t, os⟩) :
    codeAny (model prog w) A (.call (.ref C) ⟨[], kw⟩) R ⟨h, g, d, t, os⟩ := by
  have f1 := tc_lookup
  have f2 := tc_bind (.ref C)
  have hTy : (⟨h, g, d, t, os⟩ : Shared).TypeIs (.ref C) "type" := ⟨_, hC, rfl⟩
  refine codeAny_of_tree ?_
  show wpAny _ _ (callAny (.ref C) _) _ _ _
  repeat (any_goals (first | assumption | with_reducible refine wpAny_loadPart_at hC ?_ | wp_step))
  refine ⟨rfl, ?_⟩
  refine codeAny_call_builtin_at (Code.quiet_builtin _ (by decide +kernel)) entry_typeCall (wpAny_check_type_call_sub hC (type_call_kw F hT hC hi hb ?_))
  refine codeAny_mono hq fun r s' z => ?_
  rcases r with e | (v | _ | _ | _) <;> exact z
end
end HandSPX
end PySem
set_option Elab.async false
set_option linter.all false
set_option maxRecDepth 100000
set_option maxHeartbeats 4000000
/-! Xf: except with two, with four classes, the exception held behind the suite (after ps_try_hold3 of Xc; printed by a program). -/
namespace L2
open PySem PySem.Spec PyProof.Rows
end L2
set_option Elab.async false
set_option linter.all false
set_option maxRecDepth 100000
set_option maxHeartbeats 4000000
/-! Nq: as Ny's CnG, for except clauses of two and of four classes (printed by a program). -/
namespace Ob
open PySem PySem.Spec PyProof.Rows L2
structure CnGo3 (K : PySem.W.Frag) (f : Str) (bm : List Value) (nid : String) where
  C : Addr
  fI : Addr
  c1 : Addr
  c2 : Addr
  c3 : Addr
  T : NsC K C fI f bm nid
  hx : PySem.W.exmAny K (.ref C) [.ref c1, .ref c2, .ref c3] = some true
  hv : PySem.W.kitOne K (.ref C) (bm.headD .none) = some true
  ho : PySem.W.kitOne K (.ref C) (.ref c1) = some false
  ho2 : PySem.W.kitOne K (.ref C) (.ref c2) = some false
end Ob
set_option Elab.async false
set_option linter.all false
set_option maxRecDepth 100000
set_option maxHeartbeats 4000000
/-! Dt: dict(pairs), the keys tuples of texts; d[k] of such a dict; a set held by what is in it. -/
namespace L2
open PySem PySem.Spec PyProof.Rows
end L2
set_option Elab.async false
set_option linter.all false
set_option maxRecDepth 100000
set_option maxHeartbeats 4000000
/-! Df: dicts with tuple keys as values; sets held by what is in them; lists of any things; [x] * int(c). -/
namespace Ob
open PySem L2
open Evl (Ex)
open PySem.W (Datum Tup DatumOrd)
/-- a set of tuples of texts, held as the keys of a dict, by what is in it -/
structure RSet where
  P : List Str → Prop
instance : Rep RSet := ⟨fun K B v S => ∃ T : TSet, Rep.at_ K B v T ∧ ∀ z, z ∈ T.ks ↔ S.P z, fun e ⟨T, h1, h2⟩ => ⟨T, Rep.monoR e h1, h2⟩⟩
structure Duo (α β : Type) where
  a : α
  b : β
instance {α β : Type} [Rep α] [Rep β] : Rep (Duo α β) := ⟨fun K H v t => ∃ a v1 v2, v = .ref a ∧ H a = some (.tup [v1, v2]) ∧ Rep.at_ K H v1 t.a ∧ Rep.at_ K H v2 t.b,
  fun e ⟨a, v1, v2, h1, h2, h3, h4⟩ => ⟨a, v1, v2, h1, e.2.1 _ _ h2, Rep.monoR e h3, Rep.monoR e h4⟩⟩
/-- a list of any things -/
structure LL (α : Type) where
  items : List α
instance {α : Type} [Rep α] : Rep (LL α) := ⟨fun K H v s => ∃ a vs, v = .ref a ∧ SqL K H a vs ∧ AtAll K H vs s.items, fun e ⟨a, vs, h1, h2, h3⟩ => ⟨a, vs, h1, exr_l e h2, h3.monoR e⟩⟩
/-- a dict, the keys tuples of texts -/
structure DicT (α : Type) where
  kvs : List (List Str × α)
def DicTAt {α : Type} [Rep α] (K : PySem.W.Frag) (H : Hp) (ks : List (List Key × V)) (d : List (List Str × α)) : Prop := Paired (fun (p : List Key × V) (q : List Str × α) => p.1 = kT q.1 ∧ Rep.at_ K H p.2 q.2) ks d
instance {α : Type} [Rep α] : Rep (DicT α) := ⟨fun K H v d => ∃ a ks, v = .ref a ∧ Rd H a (.dT ks) ∧ DicTAt K H ks d.kvs,
  fun e ⟨a, ks, h1, h2, h3⟩ => ⟨a, ks, h1, e.1 a _ rfl h2, Paired.mapP h3 fun _ _ h => ⟨h.1, Rep.monoR e h.2⟩⟩⟩
end Ob
set_option Elab.async false
set_option linter.all false
set_option maxRecDepth 100000
set_option maxHeartbeats 4000000
/-! Sa: data of any kind; _law_same, _law_lists (defs that call themselves). -/
namespace Ob
open PySem L2
open Evl (Ex)
open PySem.W (Datum Tup DatumOrd)
/-- data of any kind -/
structure DD where
  d : PyData
instance : Rep DD := ⟨fun K H v x => Dq K H v x.d, fun e h => dq_monoR e _ _ h⟩
def DOk : Nat → PyData → Prop
  | _, .none => True
  | _, .bool _ => True
  | _, .int _ => True
  | _, .str _ => True
  | 0, .list _ => False
  | 0, .tuple _ => False
  | n + 1, .list xs => xs.length ≤ 1000000 ∧ ∀ x ∈ xs, DOk n x
  | n + 1, .tuple xs => xs.length ≤ 1000000 ∧ ∀ x ∈ xs, DOk n x
  | _, .dict _ => False
theorem DOk.up : ∀ {n : Nat} {d : PyData}, DOk n d → DOk (n + 1) d
  | _, .none, _ => trivial
  | _, .bool _, _ => trivial
  | _, .int _, _ => trivial
  | _, .str _, _ => trivial
  | n + 1, .list xs, h => ⟨h.1, fun x hx => DOk.up (h.2 x hx)⟩
  | n + 1, .tuple xs, h => ⟨h.1, fun x hx => DOk.up (h.2 x hx)⟩
  | 0, .dict _, h => h.elim
  | n + 1, .dict _, h => h.elim
section
variable {K : PySem.W.Frag} {σ : L2.St} {B H : Hp} {v : V} {te ta tb tc : TE} {tt : TT}
theorem dqAll_dd : ∀ {vs : List V} {ds : List PyData}, DqAll K H vs ds → AtAll K H vs (ds.map DD.mk)
  | _, [], h => by cases h; exact .nil
  | _, d :: ds, h => by
    cases h with
    | cons a b => exact .cons a (dqAll_dd b)
theorem ddL_sq {ds : List PyData} (h : Rep.at_ K H v (DD.mk (.list ds))) : Rep.at_ K H v (Sq.mk (ds.map DD.mk)) := by
  have h' : Dq K H v (.list ds) := h
  cases h' with
  | lst a b => exact ⟨_, _, rfl, .inl a, dqAll_dd b⟩
theorem ddT_sq {ds : List PyData} (h : Rep.at_ K H v (DD.mk (.tuple ds))) : Rep.at_ K H v (Sq.mk (ds.map DD.mk)) := by
  have h' : Dq K H v (.tuple ds) := h
  cases h' with
  | tup a b => exact ⟨_, _, rfl, .inr a, dqAll_dd b⟩
theorem e_isiD {x : DD} {c : String} {b : Bool} (t : String) (h : Pe K te σ B x) (hk : kitB t c = some b) (ht : tyD x.d = t := by rfl) : Pe K (tCB (rIsi K) (tCons te (tCons (tC (.ty c)) tNil))) σ B b := fun H e Q q =>
  h H e _ fun v B1 H1 u hv => ⟨v, .ty c, _, _, b, rfl, .ty c, dp_ty (Dq.dp _ _ (dq_monoR (ExR.of u.bh) _ _ hv)), kit_ty (ht.symm ▸ hk), q _ B1 H1 u (at_bl.mpr rfl)⟩
theorem kit2 {t c1 c2 : String} {b1 b2 : Bool} (h1 : kitB t c1 = some b1) (h2 : kitB t c2 = some b2) : PySem.W.kitAny K (.type t) [.type c1, .type c2] = some (b1 || b2) := by
  refine kitAny_cons (b := b1) (kit_ty h1) (fun e => ?_) fun e => by rw [e]; rfl
  rw [e, Bool.false_or]
  exact kitAny_cons (b := b2) (kit_ty h2) (fun e => by rw [e]; rfl) fun e => e
theorem e_isi2 {x : DD} {c1 c2 : String} {b1 b2 : Bool} (t : String) (h : Pe K te σ B x) (h1 : kitB t c1 = some b1) (h2 : kitB t c2 = some b2) (ht : tyD x.d = t := by rfl) : Pe K (tCB (rIsiT K) (tCons te (tCons (tTup (tCons (tC (.ty c1)) (tCons (tC (.ty c2)) tNil))) tNil))) σ B (b1 || b2) := fun H e Q q =>
  h H e _ fun v B1 H1 u hv => ⟨by show 2 ≤ sizeLine; rw [sizeLine_eq]; decide, fun p hp => by
    have u2 := u.then (o := .tup [.ty c1, .ty c2]) hp
    have hv2 : Rep.at_ K _ v x := Rep.mono (Up.new (o := .tup [.ty c1, .ty c2]) u.bh hp).bb hv
    exact ⟨v, p, [.ty c1, .ty c2], _, [.type c1, .type c2], b1 || b2, rfl, upd_same, .cons (.ty c1) (.cons (.ty c2) .nil), dp_ty (Dq.dp _ _ (dq_monoR (ExR.of u2.bh) _ _ hv2)), kit2 (ht.symm ▸ h1) (ht.symm ▸ h2), q _ _ _ u2 (at_bl.mpr rfl)⟩⟩
theorem e_eqD {x y : DD} (ha : Pe K ta σ B x) (hb : Pe K tb σ B y) (px : x.d.plain = true) (py : y.d.plain = true) (hz : x.d.depth ≤ 64) : Pe K (tOp (rEqP K) ta tb) σ B (PyData.eqv x.d y.d) :=
  e_op ha hb (rd_val (.bl _) (fun _ => at_bl.mpr rfl) fun B H v w e h1 h2 Q q => ⟨x.d, y.d, Dq.dp _ _ (dq_monoR (ExR.of e) _ _ h1), Dq.dp _ _ (dq_monoR (ExR.of e) _ _ h2), px, py, hz, q⟩)
theorem e_isND {x : DD} (h : Pe K te σ B x) : Pe K (tOp rIsN te (tC .non)) σ B (decide (tyD x.d = "NoneType")) := fun H e Q q => h H e _ fun v B1 H1 u hv => by
  obtain ⟨d⟩ := x
  have hv' : Dq K B1 v d := hv
  unfold rIsN
  cases hv' <;> exact ⟨rfl, q _ B1 H1 u (at_bl.mpr (by rfl))⟩
theorem duo_new {α β : Type} [Rep α] [Rep β] {Hx H' : Hp} {T : Addr} {x y : V} {a : α} {b : β} {B1 : Hp} (hT : Hx T = none) (eH : H' = upd Hx T (.tup [x, y])) (hx : Rep.at_ K B1 x a) (hy : Rep.at_ K B1 y b) :
    ∀ B', Ex B1 B' → Ex B' Hx → ∃ B2, Up B' Hx B2 H' ∧ Rep.at_ K B2 (.ref T) (Duo.mk a b) := fun B' b1 b2 => by
  subst eH
  have u := Up.new (o := .tup [x, y]) b2 hT
  exact ⟨_, u, T, x, y, rfl, upd_same, Rep.mono (b1.trans u.bb) hx, Rep.mono (b1.trans u.bb) hy⟩
def zd (ds : List PyData) : List (Duo DD DD) := ds.map fun d => Duo.mk (DD.mk d) (DD.mk d)
theorem zd_get {ds : List PyData} {i : Nat} {x y : DD} (h1 : (ds.map DD.mk)[i]? = some x) (h2 : (ds.map DD.mk)[i]? = some y) : (zd ds)[i]? = some (Duo.mk x y) := by
  rw [h1] at h2
  cases h2
  rw [List.getElem?_map] at h1
  obtain ⟨d, hd, rfl⟩ := Option.map_eq_some_iff.mp h1
  unfold zd
  rw [List.getElem?_map, hd]
  rfl
theorem it_zipDL {ds : List PyData} (h : Pe K ta σ B (DD.mk (.list ds))) (h2 : Pe K tb σ B (DD.mk (.list ds))) : ItD K (RZ.iZipA K (tCons ta (tCons tb tNil))) σ B (zd ds) := fun H e R q => h.both h2 e fun v w B1 H1 u hv hw => by
  cases (show Dq K B1 v (.list ds) from hv) with
  | @lst a vs _ hs hx0 =>
    cases (show Dq K B1 w (.list ds) from hw) with
    | @lst b ws _ hs2 hy0 =>
      have hx := dqAll_dd hx0
      have hy := dqAll_dd hy0
      refine ⟨a, b, vs, ws, rfl, .inl ⟨Evl.ex_l u.bh hs, Evl.ex_l u.bh hs2, ?_⟩⟩
      refine q (Itz K a b) B1 H1 (fun H => SqL K H a vs ∧ SqL K H b ws) (YPair (fun i => vs[i]?) (fun i => ws[i]?)) u (walk_zip ?_) (fun H' e' => ⟨Evl.ex_l e' hs, Evl.ex_l e' hs2⟩) fun i x Hx H' hi ex y => ?_
      · have l1 := hx.length
        have l2 := hy.length
        unfold zd
        rw [List.length_map] at l1 l2 ⊢
        omega
      · obtain ⟨T, x1, y1, rfl, hT, eH, e1, e2⟩ := y
        obtain ⟨d, hd, hxd⟩ := AtAll.get' hx e1
        obtain ⟨d2, hd2, hyd⟩ := AtAll.get' hy e2
        exact ⟨Duo.mk d d2, zd_get hd hd2, duo_new hT eH hxd hyd⟩
theorem it_zipDT {ds : List PyData} (h : Pe K ta σ B (DD.mk (.tuple ds))) (h2 : Pe K tb σ B (DD.mk (.tuple ds))) : ItD K (RZ.iZipA K (tCons ta (tCons tb tNil))) σ B (zd ds) := fun H e R q => h.both h2 e fun v w B1 H1 u hv hw => by
  cases (show Dq K B1 v (.tuple ds) from hv) with
  | @tup a vs _ hs hx0 =>
    cases (show Dq K B1 w (.tuple ds) from hw) with
    | @tup b ws _ hs2 hy0 =>
      have hx := dqAll_dd hx0
      have hy := dqAll_dd hy0
      refine ⟨a, b, vs, ws, rfl, .inr ⟨ex_tx u.bh hs, ex_tx u.bh hs2, ?_⟩⟩
      refine q (RZ.ItzT K a b) B1 H1 (fun H => SqT K H a vs ∧ SqT K H b ws) (YPair (fun i => vs[i]?) (fun i => ws[i]?)) u (walk_zipT ?_) (fun H' e' => ⟨ex_tx e' hs, ex_tx e' hs2⟩) fun i x Hx H' hi ex y => ?_
      · have l1 := hx.length
        have l2 := hy.length
        unfold zd
        rw [List.length_map] at l1 l2 ⊢
        omega
      · obtain ⟨T, x1, y1, rfl, hT, eH, e1, e2⟩ := y
        obtain ⟨d, hd, hxd⟩ := AtAll.get' hx e1
        obtain ⟨d2, hd2, hyd⟩ := AtAll.get' hy e2
        exact ⟨Duo.mk d d2, zd_get hd hd2, duo_new hT eH hxd hyd⟩
theorem turn_duo {α β γ : Type} [Rep α] [Rep β] [Rep γ] {vs : List Nat} {b : Bool} {r : γ} {i j : Nat} {p : Duo α β} (hp : Rep.at_ K B v p)
    (h : ∀ v1 v2, Rep.at_ K B v1 p.a → Rep.at_ K B v2 p.b → wipe (((wipe σ vs).set i (some v1)).set j (some v2)) vs = wipe σ vs ∧ Pt tt (((wipe σ vs).set i (some v1)).set j (some v2)) B b ∧ (b = true → Pe K te (((wipe σ vs).set i (some v1)).set j (some v2)) B r)) :
    TurnD K (gUnp K 2 (gCons (gName i) (gCons (gName j) gNil))) tt te vs σ B v b r := by
  obtain ⟨a, v1, v2, rfl, hs, h1, h2⟩ := hp
  obtain ⟨hw, ht, he⟩ := h v1 v2 h1 h2
  exact ⟨_, fun H Q e q => .inl ⟨a, [v1, v2], rfl, ex_tx e hs, rfl, v1, [v2], rfl, v2, [], rfl, rfl, q⟩, hw, ht, he⟩
end
section
variable {K : PySem.W.Frag} {W0 : List Addr} {B0 H0 : Hp} {os : List OC} {Γ : List (Option Cell)} {σ : L2.St} {B H : Hp} {tt : TT} {D : Ends} {tu tz : TS}
/-- if ..: a suite that returns; the test is true -/
theorem St.yes (s : St K W0 B0 H0 os Γ σ B H) (h : Pt tt σ B true) (k : ∀ B1 H1, St K W0 B0 H0 os Γ σ B1 H1 → tu { D with nx := tz D } σ H1) : tSeq (tIfS tt tu tNext) tz D σ H := h H s.bh (fun b H1 => if b = true then tu { D with nx := tz D } σ H1 else tNext { D with nx := tz D } σ H1) fun B1 H1 u => k B1 H1 (s.up u)
end
section
variable {K : PySem.W.Frag}
def spOf_Lsame (K : PySem.W.Frag) : Nat → Sp
  | 0 => fun _ _ _ _ => False
  | n + 1 => Fn2 K (fun (a b : DD) => a = b ∧ DOk n a.d) (fun _ _ => true)
abbrev sp_Lsame (K : PySem.W.Frag) : Sp := Fn2 K (fun (a b : DD) => a = b ∧ DOk 5 a.d) (fun _ _ => true)
def N_Lsame : List Str := ["_law_told", "_law_due", "_law_one", "_law_two"]
def t_Lsame (K : PySem.W.Frag) (sp_Lsame : PySem.W.Frag → Sp) : TS :=
  (tSeq (tIfS (tB (tCB (rIsiT K) (tCons (tVar 1) (tCons (tTup (tCons (tC (.ty "list")) (tCons (tC (.ty "tuple")) tNil))) tNil)))) (tSeq (tIfS (tOr (tTest (tOp (rNeP K) (tCB (rIsi K) (tCons (tVar 0) (tCons (tC (.ty "list")) tNil))) (tCB (rIsi K) (tCons (tVar 1) (tCons (tC (.ty "list")) tNil))))) (tTest (tOp (rNeP K) (tCB (rIsi K) (tCons (tVar 0) (tCons (tC (.ty "tuple")) tNil))) (tCB (rIsi K) (tCons (tVar 1) (tCons (tC (.ty "tuple")) tNil)))))) (tRet (tC (.bl false))) tNext)
    (tRet (tAndV (tOp (rEqP K) (tCB (rLenU K) (tCons (tVar 0) tNil)) (tCB (rLenU K) (tCons (tVar 1) tNil))) (tCB (rAll K) (tCons (tLc (RZ.iZipA K (tCons (tVar 0) (tCons (tVar 1) tNil))) (gUnp K 2 (gCons (gName 2) (gCons (gName 3) gNil))) tYes (tCall (sp_Lsame K) [] E0 (tCons (tVar 2) (tCons (tVar 3) tNil))) [2, 3]) tNil))))) tNext)
    (tSeq (tIfS (tOr (tTest (tOp (rIsN) (tVar 1) (tC .non))) (tB (tCB (rIsiT K) (tCons (tVar 1) (tCons (tTup (tCons (tC (.ty "bool")) (tCons (tC (.ty "str")) tNil))) tNil))))) (tRet (tAndV (tOp (rEqP K) (tVar 0) (tVar 1)) (tAndV (tOp (rEqP K) (tCB (rIsi K) (tCons (tVar 0) (tCons (tC (.ty "bool")) tNil))) (tCB (rIsi K) (tCons (tVar 1) (tCons (tC (.ty "bool")) tNil)))) (tOp (rEqP K) (tOp (rIsN) (tVar 0) (tC .non)) (tOp (rIsN) (tVar 1) (tC .non)))))) tNext)
    (tRet (tAndV (tCB (rIsi K) (tCons (tVar 0) (tCons (tC (.ty "int")) tNil))) (tAndV (tNotV (tCB (rIsi K) (tCons (tVar 0) (tCons (tC (.ty "bool")) tNil)))) (tOp (rEqP K) (tVar 0) (tVar 1)))))))
theorem lOf_Lsame {n : Nat} (vs : List V) (H : Hp) (Q : VK) (E : XK) (h : spOf_Lsame K n vs H Q E) : vs.length = 2 := by
  cases n with
  | zero => exact h.elim
  | succ n => exact Fn2.len vs H Q E h
theorem r_Lsame (n : Nat) (vs : List V) (H : Hp) (Q : VK) (E : XK) (h : spOf_Lsame K (n + 1) vs H Q E) : t_Lsame K (fun K => spOf_Lsame K n) (Ends.ret Q) (start N_Lsame vs) H := by
  obtain ⟨a, b, B, ⟨rfl, hd⟩, s, q⟩ := Fn2.st (E := E) h N_Lsame
  obtain ⟨d⟩ := a
  replace s : St K [] B H [] [ce (DD.mk d), ce (DD.mk d), none, none] _ B H := s
  have fin : ∀ v B2 H2, Up B H B2 H2 → Rep.at_ K B2 v true → Q v H2 := q
  cases d with
  | none =>
    refine s.no (t_B (e_isi2 "NoneType" (b1 := false) (b2 := false) (s.v 1 rfl) (by decide +kernel) (by decide +kernel))) fun B1 H1 s1 => ?_
    refine s1.yes ((t_or (a := true) (b := false) (t_test ((e_isND (s1.v (x := DD.mk .none) 1 rfl)).is rfl)) fun h => by cases h).is rfl) fun B2 H2 s2 => ?_
    refine s2.ret (x := true) ((e_andV (a := true) (b := true) ((e_eqD (s2.v (x := DD.mk .none) 0 rfl) (s2.v (x := DD.mk .none) 1 rfl) rfl rfl (by simp [PyData.depth])).is rfl) fun _ => e_andV (a := true) (b := true) ((e_eq (e_isiD "NoneType" (b := false) (s2.v (x := DD.mk .none) 0 rfl) (by decide +kernel)) (e_isiD "NoneType" (b := false) (s2.v (x := DD.mk .none) 1 rfl) (by decide +kernel))).is rfl) fun _ => (e_eq (e_isND (s2.v (x := DD.mk .none) 0 rfl)) (e_isND (s2.v (x := DD.mk .none) 1 rfl))).is (decide_eq_true rfl)).is rfl) fun v B3 H3 s3 hv => q v B3 H3 s3.toUp hv
  | bool c =>
    refine s.no (t_B (e_isi2 "bool" (b1 := false) (b2 := false) (s.v 1 rfl) (by decide +kernel) (by decide +kernel))) fun B1 H1 s1 => ?_
    refine s1.yes ((t_or (a := false) (b := true) (t_test ((e_isND (s1.v (x := DD.mk (.bool c)) 1 rfl)).is rfl)) fun _ => t_B (e_isi2 "bool" (b1 := true) (b2 := false) (s1.v (x := DD.mk (.bool c)) 1 rfl) (by decide +kernel) (by decide +kernel))).is rfl) fun B2 H2 s2 => ?_
    refine s2.ret (x := true) ((e_andV (a := true) (b := true) ((e_eqD (s2.v (x := DD.mk (.bool c)) 0 rfl) (s2.v (x := DD.mk (.bool c)) 1 rfl) rfl rfl (by simp [PyData.depth])).is (by show (c == c) = true; simp)) fun _ => e_andV (a := true) (b := true) ((e_eq (e_isiD "bool" (b := true) (s2.v (x := DD.mk (.bool c)) 0 rfl) (by decide +kernel)) (e_isiD "bool" (b := true) (s2.v (x := DD.mk (.bool c)) 1 rfl) (by decide +kernel))).is rfl) fun _ => (e_eq (e_isND (s2.v (x := DD.mk (.bool c)) 0 rfl)) (e_isND (s2.v (x := DD.mk (.bool c)) 1 rfl))).is (decide_eq_true rfl)).is rfl) fun v B3 H3 s3 hv => q v B3 H3 s3.toUp hv
  | str c =>
    refine s.no (t_B (e_isi2 "str" (b1 := false) (b2 := false) (s.v 1 rfl) (by decide +kernel) (by decide +kernel))) fun B1 H1 s1 => ?_
    refine s1.yes ((t_or (a := false) (b := true) (t_test ((e_isND (s1.v (x := DD.mk (.str c)) 1 rfl)).is rfl)) fun _ => t_B (e_isi2 "str" (b1 := false) (b2 := true) (s1.v (x := DD.mk (.str c)) 1 rfl) (by decide +kernel) (by decide +kernel))).is rfl) fun B2 H2 s2 => ?_
    refine s2.ret (x := true) ((e_andV (a := true) (b := true) ((e_eqD (s2.v (x := DD.mk (.str c)) 0 rfl) (s2.v (x := DD.mk (.str c)) 1 rfl) rfl rfl (by simp [PyData.depth])).is (by show (c == c) = true; simp)) fun _ => e_andV (a := true) (b := true) ((e_eq (e_isiD "str" (b := false) (s2.v (x := DD.mk (.str c)) 0 rfl) (by decide +kernel)) (e_isiD "str" (b := false) (s2.v (x := DD.mk (.str c)) 1 rfl) (by decide +kernel))).is rfl) fun _ => (e_eq (e_isND (s2.v (x := DD.mk (.str c)) 0 rfl)) (e_isND (s2.v (x := DD.mk (.str c)) 1 rfl))).is (decide_eq_true rfl)).is rfl) fun v B3 H3 s3 hv => q v B3 H3 s3.toUp hv
  | int c =>
    refine s.no (t_B (e_isi2 "int" (b1 := false) (b2 := false) (s.v 1 rfl) (by decide +kernel) (by decide +kernel))) fun B1 H1 s1 => ?_
    refine s1.no ((t_or (a := false) (b := false) (t_test ((e_isND (s1.v (x := DD.mk (.int c)) 1 rfl)).is rfl)) fun _ => t_B (e_isi2 "int" (b1 := false) (b2 := false) (s1.v (x := DD.mk (.int c)) 1 rfl) (by decide +kernel) (by decide +kernel))).is rfl) fun B2 H2 s2 => ?_
    refine s2.ret (x := true) ((e_andV (a := true) (b := true) (e_isiD "int" (b := true) (s2.v (x := DD.mk (.int c)) 0 rfl) (by decide +kernel)) fun _ => e_andV (a := true) (b := true) ((e_notV (e_isiD "int" (b := false) (s2.v (x := DD.mk (.int c)) 0 rfl) (by decide +kernel))).is rfl) fun _ => (e_eqD (s2.v (x := DD.mk (.int c)) 0 rfl) (s2.v (x := DD.mk (.int c)) 1 rfl) rfl rfl (by simp [PyData.depth])).is (by show (c == c) = true; simp)).is rfl) fun v B3 H3 s3 hv => q v B3 H3 s3.toUp hv
  | dict c => cases n <;> exact hd.elim
  | list ds =>
    cases n with
    | zero => exact hd.elim
    | succ n =>
      obtain ⟨z, hd⟩ := hd
      refine s.yes (t_B (e_isi2 "list" (b1 := true) (b2 := false) (s.v 1 rfl) (by decide +kernel) (by decide +kernel))) fun B1 H1 s1 => ?_
      refine s1.no (t_or (a := false) (b := false) (t_test ((e_ne (e_isiD "list" (b := true) (s1.v (x := DD.mk (.list ds)) 0 rfl) (by decide +kernel)) (e_isiD "list" (b := true) (s1.v (x := DD.mk (.list ds)) 1 rfl) (by decide +kernel))).is rfl)) fun _ => t_test ((e_ne (e_isiD "list" (b := false) (s1.v (x := DD.mk (.list ds)) 0 rfl) (by decide +kernel)) (e_isiD "list" (b := false) (s1.v (x := DD.mk (.list ds)) 1 rfl) (by decide +kernel))).is rfl)) fun B2 H2 s2 => ?_
      refine s2.ret (x := true) ((e_andV (a := true) (b := true) ((e_eq (e_lenSq (xs := ds.map DD.mk) ((s2.v (x := DD.mk (.list ds)) 0 rfl).imp ddL_sq)) (e_lenSq (xs := ds.map DD.mk) ((s2.v (x := DD.mk (.list ds)) 1 rfl).imp ddL_sq))).is (decide_eq_true rfl)) fun _ => (e_all (e_lc (fun _ => true) (fun _ : Duo DD DD => true) (it_zipDL (s2.v (x := DD.mk (.list ds)) 0 rfl) (s2.v (x := DD.mk (.list ds)) 1 rfl)) (by unfold zd; rw [List.length_map]; exact z) fun x hx v B3 b3 hv => turn_duo hv fun v1 v2 k1 k2 => ?_)).is ?_).is rfl) fun v B3 H3 s3 hv => q v B3 H3 s3.toUp hv
      · obtain ⟨d, hdm, rfl⟩ := List.mem_map.mp hx
        refine ⟨by rw [set_none_comm (by simp), set_none_comm (by simp), wipe_wipe], t_yes, fun _ => ?_⟩
        have sl := (((s2.sl.mono b3).wipe [2, 3]).set 2 k1).set 3 k2
        exact e_call2 (pre := fun (a b : DD) => a = b ∧ DOk n a.d) (f := fun _ _ => true) (x := DD.mk d) (y := DD.mk d) (sl.v 2 rfl) (sl.v 3 rfl) ⟨rfl, hd d hdm⟩
      · rw [List.all_map, List.all_eq_true]
        exact fun _ _ => rfl
  | tuple ds =>
    cases n with
    | zero => exact hd.elim
    | succ n =>
      obtain ⟨z, hd⟩ := hd
      refine s.yes (t_B (e_isi2 "tuple" (b1 := false) (b2 := true) (s.v 1 rfl) (by decide +kernel) (by decide +kernel))) fun B1 H1 s1 => ?_
      refine s1.no (t_or (a := false) (b := false) (t_test ((e_ne (e_isiD "tuple" (b := false) (s1.v (x := DD.mk (.tuple ds)) 0 rfl) (by decide +kernel)) (e_isiD "tuple" (b := false) (s1.v (x := DD.mk (.tuple ds)) 1 rfl) (by decide +kernel))).is rfl)) fun _ => t_test ((e_ne (e_isiD "tuple" (b := true) (s1.v (x := DD.mk (.tuple ds)) 0 rfl) (by decide +kernel)) (e_isiD "tuple" (b := true) (s1.v (x := DD.mk (.tuple ds)) 1 rfl) (by decide +kernel))).is rfl)) fun B2 H2 s2 => ?_
      refine s2.ret (x := true) ((e_andV (a := true) (b := true) ((e_eq (e_lenSq (xs := ds.map DD.mk) ((s2.v (x := DD.mk (.tuple ds)) 0 rfl).imp ddT_sq)) (e_lenSq (xs := ds.map DD.mk) ((s2.v (x := DD.mk (.tuple ds)) 1 rfl).imp ddT_sq))).is (decide_eq_true rfl)) fun _ => (e_all (e_lc (fun _ => true) (fun _ : Duo DD DD => true) (it_zipDT (s2.v (x := DD.mk (.tuple ds)) 0 rfl) (s2.v (x := DD.mk (.tuple ds)) 1 rfl)) (by unfold zd; rw [List.length_map]; exact z) fun x hx v B3 b3 hv => turn_duo hv fun v1 v2 k1 k2 => ?_)).is ?_).is rfl) fun v B3 H3 s3 hv => q v B3 H3 s3.toUp hv
      · obtain ⟨d, hdm, rfl⟩ := List.mem_map.mp hx
        refine ⟨by rw [set_none_comm (by simp), set_none_comm (by simp), wipe_wipe], t_yes, fun _ => ?_⟩
        have sl := (((s2.sl.mono b3).wipe [2, 3]).set 2 k1).set 3 k2
        exact e_call2 (pre := fun (a b : DD) => a = b ∧ DOk n a.d) (f := fun _ _ => true) (x := DD.mk d) (y := DD.mk d) (sl.v 2 rfl) (sl.v 3 rfl) ⟨rfl, hd d hdm⟩
      · rw [List.all_map, List.all_eq_true]
        exact fun _ _ => rfl
end
end Ob
set_option Elab.async false
set_option linter.all false
set_option maxRecDepth 100000
set_option maxHeartbeats 4000000
/-! Sl: _law_lists. -/
set_option Elab.async false
set_option linter.all false
set_option maxRecDepth 100000
set_option maxHeartbeats 4000000
/-! V0: a list that nobody else holds, given by a def; a list of two such, asked, then changed; a dict whose values are any things. -/
namespace Ob
open PySem L2
open Evl (Ex)
open PySem.W (Datum Tup DatumOrd)
section
variable {K : PySem.W.Frag} {W0 : List Addr} {B0 H0 : Hp} {os : List OC} {Γ : List (Option Cell)} {σ : L2.St} {B H B1 H1 : Hp} {te ta tb tc td tk tv : TE} {tt tt1 : TT} {D : Ends} {tu tw tz : TS} {C : Addr} {f : Str}
variable {α β γ δ ε : Type} [Rep α] [Rep β] [Rep γ] [Rep δ] [Rep ε] {vs : List V} {Q : VK} {E : XK}
def FnF3 (K : PySem.W.Frag) (pre : α → β → γ → Prop) (g : α → β → γ → List δ) : Sp := fun vs H Q _ => ∃ x y z B, Ex B H ∧ RCons K x (RCons K y (RCons K z RNil)) vs B ∧ pre x y z ∧ ∀ l us B2 H2, Up B H B2 H2 → B2 l = none → H l = none → H2 l = some (.lst us) → AtAll K B2 us (g x y z) → Q (.ref l) H2
theorem FnF3.len {pre : α → β → γ → Prop} {g : α → β → γ → List δ} (vs : List V) (H : Hp) (Q : VK) (E : XK) (h : FnF3 K pre g vs H Q E) : vs.length = 3 := by
  obtain ⟨x, y, z, B, e, ⟨v, r, rfl, h1, v2, r2, rfl, h2, v3, r3, rfl, h3, rfl⟩, _⟩ := h
  rfl
variable {pre : α → β → γ → Prop} {g : α → β → γ → List δ} {bad : α → β → γ → ε → Prop}
end
end Ob
set_option Elab.async false
set_option linter.all false
set_option maxRecDepth 100000
set_option maxHeartbeats 4000000
/-! V1: a dict with texts as keys that grows, its values any things. -/
set_option Elab.async false
set_option linter.all false
set_option maxRecDepth 100000
set_option maxHeartbeats 4000000
/-! Nt: an exception with a field, the last of a clause of three classes; isinstance(caught, (A, B)); promises of defs that only raise; a try whose body is an if with calls that raise. -/
namespace L2
open PySem PySem.Spec PyProof.Rows
end L2
namespace Ob
open PySem PySem.Spec PyProof.Rows L2
open Evl (Ex)
open PySem.W (Datum Tup DatumOrd)
theorem CnGo3.none {K : PySem.W.Frag} {f : Str} {bm : List Value} {nid : String} (Ce : CnGo3 K f bm nid) : PySem.W.kitAny K (.ref Ce.C) [.ref Ce.c1, .ref Ce.c2] = some false :=
  kitAny_cons Ce.ho (fun _ => kitAny_cons Ce.ho2 (fun _ => rfl) fun h => by cases h) fun h => by cases h
section
variable {K : PySem.W.Frag} {W0 : List Addr} {B0 H0 : Hp} {os : List OC} {Γ : List (Option Cell)} {σ : L2.St} {B H B1 H1 : Hp} {te ta tb tc td tk tv : TE} {tt tt1 : TT} {D : Ends} {tu tw tz : TS} {C : Addr} {f : Str}
variable {α β γ δ : Type} [Rep α] [Rep β] [Rep γ] [Rep δ] {vs : List V} {Q : VK} {E : XK}
/-- defs that only raise C, its field a text -/
def FnR2 (K : PySem.W.Frag) (C : Addr) (f : Str) (bad : α → β → Str → Prop) : Sp := fun vs H _ E => ∃ x y z B, Ex B H ∧ RCons K x (RCons K y RNil) vs B ∧ bad x y z ∧ ∀ d B2 H2, Up B H B2 H2 → B2 d = some (.xd [(f, .str z)]) → E (.ref C) (some d) H2
def FnR3 (K : PySem.W.Frag) (C : Addr) (f : Str) (bad : α → β → γ → Str → Prop) : Sp := fun vs H _ E => ∃ x y t z B, Ex B H ∧ RCons K x (RCons K y (RCons K t RNil)) vs B ∧ bad x y t z ∧ ∀ d B2 H2, Up B H B2 H2 → B2 d = some (.xd [(f, .str z)]) → E (.ref C) (some d) H2
def FnR4 (K : PySem.W.Frag) (C : Addr) (f : Str) (bad : α → β → γ → δ → Str → Prop) : Sp := fun vs H _ E => ∃ x y t w z B, Ex B H ∧ RCons K x (RCons K y (RCons K t (RCons K w RNil))) vs B ∧ bad x y t w z ∧ ∀ d B2 H2, Up B H B2 H2 → B2 d = some (.xd [(f, .str z)]) → E (.ref C) (some d) H2
theorem FnR2.len {bad : α → β → Str → Prop} (vs : List V) (H : Hp) (Q : VK) (E : XK) (h : FnR2 K C f bad vs H Q E) : vs.length = 2 := by
  obtain ⟨x, y, z, B, e, ⟨v, r, rfl, h1, v2, r2, rfl, h2, rfl⟩, _⟩ := h
  rfl
theorem FnR3.len {bad : α → β → γ → Str → Prop} (vs : List V) (H : Hp) (Q : VK) (E : XK) (h : FnR3 K C f bad vs H Q E) : vs.length = 3 := by
  obtain ⟨x, y, t, z, B, e, ⟨v, r, rfl, h1, v2, r2, rfl, h2, v3, r3, rfl, h3, rfl⟩, _⟩ := h
  rfl
theorem FnR4.len {bad : α → β → γ → δ → Str → Prop} (vs : List V) (H : Hp) (Q : VK) (E : XK) (h : FnR4 K C f bad vs H Q E) : vs.length = 4 := by
  obtain ⟨x, y, t, w, z, B, e, ⟨v, r, rfl, h1, v2, r2, rfl, h2, v3, r3, rfl, h3, v4, r4, rfl, h4, rfl⟩, _⟩ := h
  rfl
/-- a try's body that raises C -/
def RaX (C : Addr) (f : Str) (body : WX → TS) (σ : L2.St) (B : Hp) (z : Str) : Prop := ∀ (W : WX) (D : Ends) (H : Hp), Ex B H → (∀ d B2 H2, Up B H B2 H2 → B2 d = some (.xd [(f, .str z)]) → W (.ref C) (some d) σ H2) → body W D σ H
theorem RaX.c2 {bad : α → β → Str → Prop} {x : α} {y : β} {z : Str} (h1 : Pe K ta σ B x) (h2 : Pe K tb σ B y) (hb : bad x y z) : RaX C f (fun W => tDrop (tCallS (FnR2 K C f bad) (WE W) (tCons ta (tCons tb tNil)))) σ B z := fun W D H e k =>
  (a_2 h1 h2) H e (fun vs H1 => FnR2 K C f bad vs H1 (fun _ H' => D.nx σ H') (WE W σ)) fun vs B1 H1 u hv => ⟨x, y, z, B1, u.bh, hv, hb, fun d B2 H2 u2 hd => k d B2 H2 (u.trans u2) hd⟩
end
end Ob
set_option Elab.async false
set_option linter.all false
set_option maxRecDepth 100000
set_option maxHeartbeats 4000000
/-! Xo: a class over RuntimeError without a field; except (A, B) as e, A the class itself, B another one. -/
namespace Ob
open PySem PySem.Spec PyProof.Rows L2
structure CesO (K : PySem.W.Frag) where
  C : Addr
  c1 : Addr
  c2 : Addr
  ec : ExcC K C
  hx : PySem.W.exmAny K (.ref C) [.ref c1, .ref c2] = some true
  hv : PySem.W.kitOne K (.ref C) (.type "RuntimeError") = some true
  ho : PySem.W.kitOne K (.ref C) (.ref c2) = some false
  x : PySem.W.excIn K C reB "RuntimeError.__new__" = true
  kc : PySem.W.keepIn K (.ref C) = true
  bc : PySem.W.subIn K (.ref C) (.type "BaseException") = some true
  tc : PySem.W.typeIn K (.ref C) = some (.type "type")
end Ob
set_option Elab.async false
set_option linter.all false
set_option maxRecDepth 100000
set_option maxHeartbeats 4000000
/-! No: as Nq's CnG2, where it is asked whether the exception is of the clause's first class, too: it isn't. -/
set_option Elab.async false
set_option linter.all false
set_option maxRecDepth 100000
set_option maxHeartbeats 4000000
/-! Nr: two own classes raised in one law (see Np): what is known of them. -/
namespace Ob
open PySem PySem.Spec PyProof.Rows L2
structure CnGq2 (K : PySem.W.Frag) (f : Str) (bm : List Value) (nid : String) where
  C : Addr
  fI : Addr
  o : CesO K
  T : NsC K C fI f bm nid
  hx : PySem.W.exmAny K (.ref C) [.ref o.C, .ref C] = some true
  hv : PySem.W.kitOne K (.ref C) (bm.headD .none) = some true
  ho : PySem.W.kitOne K (.ref C) (.ref o.C) = some false
  e1 : o.c1 = o.C
  e2 : o.c2 = C
abbrev CnGq2.c1 {K : PySem.W.Frag} {f : Str} {bm : List Value} {nid : String} (Ce : CnGq2 K f bm nid) : Addr := Ce.o.C
abbrev CnGq2.c2 {K : PySem.W.Frag} {f : Str} {bm : List Value} {nid : String} (Ce : CnGq2 K f bm nid) : Addr := Ce.C
end Ob
set_option Elab.async false
set_option linter.all false
set_option maxRecDepth 100000
set_option maxHeartbeats 4000000
/-! Np: two own classes raised in one law: one over LookupError with a field, one over RuntimeError without; the clause names the second first. -/
namespace L2
open PySem PySem.Spec PyProof.Rows
end L2
set_option Elab.async false
set_option linter.all false
set_option maxRecDepth 100000
set_option maxHeartbeats 4000000
/-! Gd: repr of data; for it the state of the guards (no repr is under way) is handed down from law: FnOkG. -/
namespace L2
open PySem PySem.Spec PyProof.Rows
end L2
set_option Elab.async false
set_option linter.all false
set_option maxRecDepth 100000
set_option maxHeartbeats 4000000
/-! Ge: the end of a law whose promise asks for the guards (no repr is under way when the law is called). -/
namespace L2
open PySem PySem.Spec PyProof.Rows
end L2
set_option Elab.async false
set_option linter.all false
set_option maxRecDepth 100000
set_option maxHeartbeats 4000000
/-! Gf: data whose repr is known to fit; repr(x) by data. -/
namespace Ob
open PySem L2
open Evl (Ex)
open PySem.W (Datum Tup DatumOrd)
/-- repr fits: m bounds the signs, k the depth -/
structure Shw (m k : Nat) (d : PyData) : Prop where
  sh : d.showable = true
  nd : d.hasDict = false
  dp : d.depth ≤ k
  lf : d.leavesShort 8 = true
  bk : d.bulk ≤ m
theorem Shw.le {m k m' k' : Nat} {d : PyData} (h : Shw m k d) (h1 : m ≤ m') (h2 : k ≤ k') : Shw m' k' d := ⟨h.sh, h.nd, Nat.le_trans h.dp h2, h.lf, Nat.le_trans h.bk h1⟩
end Ob
set_option Elab.async false
set_option linter.all false
set_option maxRecDepth 100000
set_option maxHeartbeats 4000000
/-! Tg: lists of things of any kind; a list of two lists, of which nobody else holds the first, asked, then changed. -/
namespace Ob
open PySem L2
open Evl (Ex)
open PySem.W (Datum Tup DatumOrd)
section
variable {K : PySem.W.Frag} {W0 : List Addr} {B0 H0 : Hp} {os : List OC} {Γ : List (Option Cell)} {σ : L2.St} {B H B1 H1 : Hp} {te ta tb tc td tk tv : TE} {tt tt1 : TT} {D : Ends} {tu tw tz : TS}
theorem dqAll_app {H : Hp} : ∀ {vs ws : List V} {xs ys : List PyData}, DqAll K H vs xs → DqAll K H ws ys → DqAll K H (vs ++ ws) (xs ++ ys)
  | _, _, _, _, .nil, k => k
  | _, _, _, _, .cons a b, k => .cons a (dqAll_app b k)
theorem dqAll_len {H : Hp} : ∀ {vs : List V} {xs : List PyData}, DqAll K H vs xs → vs.length = xs.length
  | _, _, .nil => rfl
  | _, _, .cons a b => by rw [List.length_cons, List.length_cons, dqAll_len b]
theorem dqAll_mono {H H' : Hp} (e : Ex H H') : ∀ {vs : List V} {xs : List PyData}, DqAll K H vs xs → DqAll K H' vs xs
  | _, _, .nil => .nil
  | _, _, .cons a b => .cons (dq_monoR (ExR.of e) _ _ a) (dqAll_mono e b)
theorem e_addD {xs ys : List PyData} (ha : Pe K ta σ B (DD.mk (.list xs))) (hb : Pe K tb σ B (DD.mk (.list ys))) (hz : xs.length + ys.length ≤ 1000000) : Pe K (tOp (rAddU K) ta tb) σ B (DD.mk (.list (xs ++ ys))) :=
  e_op ha hb fun B H v w e h1 h2 Q q => by
    cases (show Dq K B v (.list xs) from h1) with
    | @lst a vs _ hs hx =>
      cases (show Dq K B w (.list ys) from h2) with
      | @lst b ws _ hs2 hy =>
        refine .inr (.inr (.inl ⟨a, b, vs, ws, rfl, rfl, Evl.ex_l e hs, Evl.ex_l e hs2, ?_, fun p hp => ?_⟩))
        · rw [dqAll_len hx, dqAll_len hy]
          exact Nat.le_trans hz (by rw [sizeLine_eq]; decide)
        · have u := Up.new (o := .lst (vs ++ ws)) e hp
          exact q _ _ _ u (Dq.lst (Evl.sq_of upd_same) (dqAll_mono u.bb (dqAll_app hx hy)))
end
end Ob
set_option Elab.async false
set_option linter.all false
set_option maxRecDepth 100000
set_option maxHeartbeats 4000000
/-! Rv: x[::-1] of a list or a tuple. -/
namespace L2
open PySem PySem.Spec PyProof.Rows
end L2
set_option Elab.async false
set_option linter.all false
set_option maxRecDepth 100000
set_option maxHeartbeats 4000000
/-! Bx: data of any kind, bounded: how it is displayed, cut, added, turned round; lists of it that change. -/
namespace L2
open PySem PySem.Spec PyProof.Rows
end L2
namespace Ob
open PySem L2
open Evl (Ex)
open PySem.W (Datum Tup DatumOrd)
/-! ### data that repr can show -/
section
variable {K : PySem.W.Frag} {W0 : List Addr} {B0 H0 : Hp} {os : List OC} {Γ : List (Option Cell)} {σ : L2.St} {B H B1 H1 : Hp} {te tb tc td tk tv : TE} {ta : TA} {tt tt1 : TT} {D : Ends} {tu tw tz : TS} {tl th : TO}
/-! ### displays -/
abbrev Pad (K : PySem.W.Frag) (ta : TA) (σ : L2.St) (B : Hp) (ds : List PyData) : Prop := Pa ta σ B fun vs B => DqAll K B vs ds
theorem pad_nil : Pad K tNil σ B [] := fun H e Q q => q [] B H (Up.refl e) .nil
theorem pad_cons {d : PyData} {ds : List PyData} (h : Pe K te σ B (DD.mk d)) (hr : ∀ B', Ex B B' → Pad K ta σ B' ds) : Pad K (tCons te ta) σ B (d :: ds) := fun H e Q q =>
  h H e _ fun v B1 H1 u1 h1 => hr B1 u1.bb H1 u1.bh _ fun vs B2 H2 u2 h2 => q _ B2 H2 (u1.trans u2) (.cons (dq_monoR (ExR.of u2.bb) _ _ h1) h2)
theorem e_lstD {ds : List PyData} (h : Pad K ta σ B ds) (hz : ds.length ≤ 1000000) : Pe K (tLst ta) σ B (DD.mk (.list ds)) := fun H e Q q => h H e _ fun vs B1 H1 u hv =>
  ⟨by rw [dqAll_len hv, sizeLine_eq]; omega, fun p hp => q _ _ _ (u.then hp) (Dq.lst (Evl.sq_of upd_same) (dqAll_mono (Up.new (o := .lst vs) u.bh hp).bb hv))⟩
theorem e_tupD {ds : List PyData} (h : Pad K ta σ B ds) (hz : ds.length ≤ 1000000) : Pe K (tTup ta) σ B (DD.mk (.tuple ds)) := fun H e Q q => h H e _ fun vs B1 H1 u hv =>
  ⟨by rw [dqAll_len hv, sizeLine_eq]; omega, fun p hp => q _ _ _ (u.then hp) (Dq.tup upd_same (dqAll_mono (Up.new (o := .tup vs) u.bh hp).bb hv))⟩
/-! ### list, tuple, [::-1], slices of data -/
/-- a list or a tuple of these -/
inductive SD (ds : List PyData) : PyData → Prop where
  | l : SD ds (.list ds)
  | t : SD ds (.tuple ds)
/-! ### texts -/
end
end Ob
set_option Elab.async false
set_option linter.all false
set_option maxRecDepth 100000
set_option maxHeartbeats 2000000
/-! Uw: displays of any length as data; lists and tuples of texts unpacked (k68). -/
namespace Ob
open PySem L2
open Evl (Ex)
open PySem.W (Datum Tup DatumOrd)
section
variable {K : PySem.W.Frag} {σ : L2.St} {B : Hp} {te : TE} {ts : TA} {α : Type} [DecidableEq α] [Datum α]
/-- things read one after another -/
def PaW (K : PySem.W.Frag) (ts : TA) (σ : L2.St) (B : Hp) (xs : List α) : Prop := ∀ H, Ex B H → ∀ Q : List V → Hp → Prop, (∀ vs B2 H2, Up B H B2 H2 → AtAll K B2 vs xs → Q vs H2) → ts σ H Q
theorem PaW.nil : PaW K tNil σ B ([] : List α) := fun H e Q q => q [] B H (Up.refl e) .nil
theorem PaW.mono {B' : Hp} {xs : List α} (h : PaW K ts σ B xs) (b : Ex B B') : PaW K ts σ B' xs := fun H e Q q => by
  refine h H (b.trans e) Q fun vs B2 H2 u hv => ?_
  have key : Pe K (fun σ H Q => Q (.int 0) H) σ B (0 : Int) := fun H e Q q => q _ B H (Up.refl e) (at_int.mpr rfl)
  exact (fun (k : ∀ (B2 : Hp), Up B H B2 H2 → AtAll K B2 vs xs → Q vs H2) => k B2 u hv) fun B3 u3 h3 => by
    refine q vs (fun a => match B3 a with | some o => some o | none => B' a) H2 ⟨fun z o hz => ?_, fun z o hz => ?_, u3.hh, fun z hz => ?_⟩ (h3.mono fun z o hz => ?_)
    · show (match B3 z with | some o => some o | none => B' z) = some o
      cases y : B3 z with
      | none => exact hz
      | some o' =>
        have h1 := u3.bh z o' y
        rw [u3.hh z o (e z o hz)] at h1
        show some o' = some o
        rw [h1]
    · have hz' : (match B3 z with | some o => some o | none => B' z) = some o := hz
      cases y : B3 z with
      | none =>
        rw [y] at hz'
        exact u3.hh z o (e z o hz')
      | some o' =>
        rw [y] at hz'
        rw [← hz']
        exact u3.bh z o' y
    · have hz' : (match B3 z with | some o => some o | none => B' z) ≠ none := hz
      cases y : B3 z with
      | none =>
        rw [y] at hz'
        exact .inl hz'
      | some o' =>
        rcases u3.nw z (by rw [y]; exact fun w => nomatch w) with w | w
        · refine .inl ?_
          cases zb : B z with
          | none => exact absurd zb w
          | some ob =>
            rw [b z ob zb]
            exact fun w => nomatch w
        · exact .inr w
    · show (match B3 z with | some o => some o | none => B' z) = some o
      rw [hz]
theorem PaW.cons {x : α} {xs : List α} (h : Pe K te σ B x) (h2 : PaW K ts σ B xs) : PaW K (tCons te ts) σ B (x :: xs) := fun H e Q q =>
  h H e _ fun v B1 H1 u1 hv => (h2.mono u1.bb) H1 u1.bh _ fun vs B2 H2 u2 hvs => q (v :: vs) B2 H2 (u1.trans u2) (.cons (Rep.mono u2.bb hv) hvs)
theorem e_lstW {xs : List α} (h : PaW K ts σ B xs) (hz : xs.length ≤ 1000000) : Pe K (tLst ts) σ B xs := fun H e Q q =>
  h H e _ fun vs B1 H1 u hv => ⟨by rw [sizeLine_eq, hv.length]; omega, fun p hp => by
    have w := u.then (o := .lst vs) hp
    exact q _ _ _ w (at_list.mpr ⟨p, vs, rfl, Evl.sq_of upd_same, hv.mono (Up.new (o := .lst vs) u.bh hp).bb⟩)⟩
end
end Ob
set_option Elab.async false
set_option linter.all false
set_option maxRecDepth 100000
set_option maxHeartbeats 4000000
/-! Xk: own exception classes called for their instances: X(e), X(f = e), X(); isinstance of these; their fields. -/
namespace L2
open PySem PySem.Spec PyProof.Rows
/-- X(e), an exception as a value -/
def tMkX (C : Addr) (f : Str) (ta : TA) : TE := fun σ H Q => ta σ H fun vs H1 => ∃ v, vs = [v] ∧ ∀ a d, H1 a = none → H1 d = none → d ≠ a → Q (.ref a) (upd (upd H1 a (exo a C (some d))) d (exd d [(f, v)]))
/-- X() -/
def tMkX0 (C : Addr) : TE := fun _ H Q => ∀ a, H a = none → Q (.ref a) (upd H a (exo a C none))
section
variable {X : Cx} {o e : Expr} {es : List Expr} {to te : TE} {ta tk : TA} {f x : Str} {p p' p1 p2 pos pos2 : Pos} {C fI : Addr} {B newId initId : String} {bmB : List Value}
theorem pe_veinitX {pl : Sem Bool} (T : NsC X.K C fI f bmB "ValueError.__new__") (hb0 : bmB = [.type "ValueError", .type "Exception", .type "BaseException", .type "object"]) (hg : Gl X "ValueError") (hm : X.mg "ValueError" = none)
    (vV : PySem.W.findCls X.K (.type "ValueError") (.type "type") "__init__" = some (.val (.builtin "ValueError.__init__"))) (ha : PA X (e :: es) ta)
    (hc : eval (.Call (.Attribute (.Name "ValueError" p1) "__init__" p2) (e :: es) [] pos) X.env = (do
      let ov ← eval (.Name "ValueError" p1) X.env
      standAt p2.atName
      let (f, first) ← holding [ov] (getMethod ov "__init__" pl)
      callWith pos f first (backTo pos (starEach (e :: es) X.env)) (backToKw pos (keywordEach [] X.env))) := by rfl)
    (he : starEach (e :: es) X.env = (false, eval e X.env) :: starEach es X.env := by rfl) (hpl : (backTo pos (starEach es X.env)).any (·.1) = false := by rfl) :
    PE X (.Call (.Attribute (.Name "ValueError" p1) "__init__" p2) (e :: es) [] pos) (tBinit C ta) := by
  subst hb0
  refine ⟨fun pins s σ H Q I h => ?_⟩
  refine PySem.W.methodCall_KW (ld_blt I hg hm (u := .type "ValueError") (by decide +kernel) ?_ (by decide) (by decide)) hc
  obtain ⟨m, fr⟩ := I.fr
  refine PySem.W.method_type (T := "ValueError") (name := "__init__") (v := .builtin "ValueError.__init__") (pl := pl) fr I.ok.mod.kin (show typeOf (.type "ValueError") = pure (.type "type") by kernel_rfl) (by decide +kernel) vV (by decide +kernel) ?_
  show wpAny _ _ (callWith pos (Value.builtin "ValueError.__init__") [] (backTo pos (starEach (e :: es) X.env)) []) _ _ _
  refine PyProof.Rows.callWith_method1 (thn (ha.run pos pins _ σ H _ (I.tok _) h) fun us s1 ⟨vs, H1, I1, r1, a, ws, ev, hl, ea, q⟩ => ?_) he hpl
  subst ev
  cases r1 with
  | @cons _ u0 _ ur ra rw' =>
    obtain rfl : u0 = Value.ref a := ra
    have hlen : ur.length ≤ sizeLine := by
      rw [← Paired.length rw', sizeLine_eq]
      omega
    exact binit_ok PySem.F.excBase_ValueError T I1 ea hlen fun s' J => ⟨.non, H1, J, rfl, q⟩
theorem pe_oeinitX {pl : Sem Bool} (T : NsC X.K C fI f bmB "OverflowError.__new__") (hb0 : bmB = [.type "OverflowError", .type "ArithmeticError", .type "Exception", .type "BaseException", .type "object"]) (hg : Gl X "OverflowError") (hm : X.mg "OverflowError" = none)
    (vV : PySem.W.findCls X.K (.type "OverflowError") (.type "type") "__init__" = some (.val (.builtin "OverflowError.__init__"))) (ha : PA X (e :: es) ta)
    (hc : eval (.Call (.Attribute (.Name "OverflowError" p1) "__init__" p2) (e :: es) [] pos) X.env = (do
      let ov ← eval (.Name "OverflowError" p1) X.env
      standAt p2.atName
      let (f, first) ← holding [ov] (getMethod ov "__init__" pl)
      callWith pos f first (backTo pos (starEach (e :: es) X.env)) (backToKw pos (keywordEach [] X.env))) := by rfl)
    (he : starEach (e :: es) X.env = (false, eval e X.env) :: starEach es X.env := by rfl) (hpl : (backTo pos (starEach es X.env)).any (·.1) = false := by rfl) :
    PE X (.Call (.Attribute (.Name "OverflowError" p1) "__init__" p2) (e :: es) [] pos) (tBinit C ta) := by
  subst hb0
  refine ⟨fun pins s σ H Q I h => ?_⟩
  refine PySem.W.methodCall_KW (ld_blt I hg hm (u := .type "OverflowError") (by decide +kernel) ?_ (by decide) (by decide)) hc
  obtain ⟨m, fr⟩ := I.fr
  refine PySem.W.method_type (T := "OverflowError") (name := "__init__") (v := .builtin "OverflowError.__init__") (pl := pl) fr I.ok.mod.kin (show typeOf (.type "OverflowError") = pure (.type "type") by kernel_rfl) (by decide +kernel) vV (by decide +kernel) ?_
  show wpAny _ _ (callWith pos (Value.builtin "OverflowError.__init__") [] (backTo pos (starEach (e :: es) X.env)) []) _ _ _
  refine PyProof.Rows.callWith_method1 (thn (ha.run pos pins _ σ H _ (I.tok _) h) fun us s1 ⟨vs, H1, I1, r1, a, ws, ev, hl, ea, q⟩ => ?_) he hpl
  subst ev
  cases r1 with
  | @cons _ u0 _ ur ra rw' =>
    obtain rfl : u0 = Value.ref a := ra
    have hlen : ur.length ≤ sizeLine := by
      rw [← Paired.length rw', sizeLine_eq]
      omega
    exact binit_ok PySem.F.excBase_OverflowError T I1 ea hlen fun s' J => ⟨.non, H1, J, rfl, q⟩
theorem pe_mkX {CX : CXT} {k : Nat} {fd : FuncData} {ps : List Str} (F : ExcBaseFacts B newId initId bmB) (T : NsC X.K C fI f bmB newId)
    (F1 : FnOk X.prog X.w X.K X.mg X.base CX k fI fd ps (spInit C f)) (hr : Room (k + 1) X.A) (hb : Binds X.K fd ps []) (hx : Passes CX X (fun _ _ _ => False)) (hg : Gl X x) (hm : X.mg x = some (.ref C)) (ha : PA X [e] ta)
    (hdb : (x == ("__debug__" : Str)) = false := by decide) (he : starEach [e] X.env = (false, eval e X.env) :: starEach [] X.env := by rfl) (hpl : (backTo pos (starEach [] X.env)).any (·.1) = false := by rfl) :
    PE X (.Call (.Name x p) [e] [] pos) (tMkX C f ta) := by
  refine ⟨fun pins s σ H Q I h => ?_⟩
  refine wpAny_Call_Name_kw (ld_glob I hg hm ?_ hdb)
  refine PySem.W.callWith_K (h₀ := X.base) I.ok.mod.kin T.kC (thn (ha.run pos pins s σ H _ I h) fun us s1 ⟨vs, H1, I1, r1, v, ev, q1⟩ => ⟨I1.kIn, ?_⟩) he hpl
  subst ev
  obtain ⟨u, rfl, ru⟩ := vals1 r1
  show wpAny _ _ (call (.ref C) [u]) _ _ _
  obtain ⟨hp, g, dr, tk, os⟩ := s1
  obtain ⟨nm, N, qn, bs, bm, hdct, sn, sub, ab, col, dd, k0, k1, k2, k3, k5, hC, hT⟩ := PySem.W.excInit_of I1.kIn T.ei
  have hsz : hp.objs.size ≤ hp.objs.size + 1 := Nat.le_succ _
  have hn : H1 (hp.objs.size + 1) = none := I1.hok.fresh hsz
  have kk : ∀ b o, hp.get? b = some o → ((hp.push (PySem.W.kdv_tup [u])).push (PySem.HandSPX.excO C hp.objs.size)).get? b = some o := fun b o e => Heap.get?_push_of_some _ (Heap.get?_push_of_some _ e)
  have hget : ((hp.push (PySem.W.kdv_tup [u])).push (PySem.HandSPX.excO C hp.objs.size)).get? (hp.objs.size + 1) = some (PySem.HandSPX.excO C hp.objs.size) := by heap_get
  have I2 : Inv X pins σ (upd H1 (hp.objs.size + 1) (exo (hp.objs.size + 1) C none)) ⟨(hp.push (PySem.W.kdv_tup [u])).push (PySem.HandSPX.excO C hp.objs.size), g, dr, tk, os⟩ :=
    I1.laid (t' := tk) (a := hp.objs.size + 1) (o := exo (hp.objs.size + 1) C none) (h' := (hp.push (PySem.W.kdv_tup [u])).push (PySem.HandSPX.excO C hp.objs.size)) kk hsz (exo_ok hget)
  have r2 : Vals [V.ref (hp.objs.size + 1), v] [Value.ref (hp.objs.size + 1), u] := .cons rfl (.cons ru .nil)
  have hps : ps.length = 2 := (F1.len [V.ref (hp.objs.size + 1), v] (upd H1 (hp.objs.size + 1) (exo (hp.objs.size + 1) C none)) (fun _ _ => True) (fun _ _ _ => False) ⟨_, v, rfl, upd_same, fun _ _ _ => trivial⟩).symm
  have hb2 := hb _ [Value.ref (hp.objs.size + 1), u] I2.kIn (by rw [List.append_nil]; exact hps.symm)
  rw [List.append_nil] at hb2
  refine wpAny_call (PySem.HandSPX.call_own F hT hC (PySem.W.looks_findIn I1.kIn T.iC) (fun self => PySem.W.bind_fn I1.kIn self T.tI) (by show 1 ≤ sizeLine; rw [sizeLine_eq]; decide)
    (codeAny_mono (F1.run _ X.stack _ _ ⟨[Value.ref (hp.objs.size + 1), u], []⟩ [Value.ref (hp.objs.size + 1), u] _
      (fun v' H2 => v' = .non ∧ Q (.ref (hp.objs.size + 1)) H2) (fun _ _ _ => False) (hr.make C [u] []) (I2.env0.make C [u] []) hb2 r2
      ⟨_, v, rfl, upd_same, fun d n ne => ⟨rfl, by rw [upd_upd]; exact q1 _ d hn (by rw [upd_ne ne] at n; exact n) ne⟩⟩) fun r s' hq' => ?_))
  cases r with
  | error er => exact hx pins σ _ _ er s' I2 hq'
  | ok fl =>
    cases fl with
    | ret u' =>
      obtain ⟨v', H', I3, rv, ev, q3⟩ := I2.after hq'
      subst ev
      exact ⟨rv, ⟨V.ref (hp.objs.size + 1), H', I3, rfl, q3⟩⟩
    | next => exact False.elim hq'
    | brk => exact False.elim hq'
    | cont => exact False.elim hq'
/-- X(f = e) -/
theorem pe_mkXK {CX : CXT} {k : Nat} {fd : FuncData} {ps : List Str} {kw : Keyword} (F : ExcBaseFacts B newId initId bmB) (T : NsC X.K C fI f bmB newId)
    (F1 : FnOk X.prog X.w X.K X.mg X.base CX k fI fd ps (spInit C f)) (hr : Room (k + 1) X.A) (hb : KBn X.K fd ps 1 [f] (fun us ws => us ++ ws) (fun vs zs => vs ++ zs)) (hx : Passes CX X (fun _ _ _ => False)) (hg : Gl X x) (hm : X.mg x = some (.ref C)) (hkw : PK X [kw] tk)
    (hdb : (x == ("__debug__" : Str)) = false := by decide) (hall : (backToKw pos (keywordEach [kw] X.env)).all (·.1.isSome) = true := by rfl) (hks : (backToKw pos (keywordEach [kw] X.env)).filterMap (·.1) = [f] := by rfl)
    (hpl : ((backTo pos (starEach [] X.env)).any (·.1) || (backToKw pos (keywordEach [kw] X.env)).any (·.1.isNone)) = false := by rfl) :
    PE X (.Call (.Name x p) [] [kw] pos) (tMkX C f tk) := by
  refine ⟨fun pins s σ H Q I h => ?_⟩
  refine wpAny_Call_Name_kw (ld_glob I hg hm ?_ hdb)
  refine PySem.W.callWith_KW0 (h₀ := X.base) I.ok.mod.kin T.kC hall ?_ hpl
  refine thn (hkw.run pos pins s σ H _ I h) fun us s1 ⟨vs, H1, I1, r1, v, ev, q1⟩ => ⟨I1.kIn, ?_⟩
  rw [hks]
  subst ev
  obtain ⟨u, rfl, ru⟩ := vals1 r1
  show wpAny _ _ (call (.ref C) [] [(f, u)]) _ _ _
  obtain ⟨hp, g, dr, tk, os⟩ := s1
  obtain ⟨nm, N, qn, bs, bm, hdct, sn, sub, ab, col, dd, k0, k1, k2, k3, k5, hC, hT⟩ := PySem.W.excInit_of I1.kIn T.ei
  have hsz : hp.objs.size ≤ hp.objs.size + 1 := Nat.le_succ _
  have hn : H1 (hp.objs.size + 1) = none := I1.hok.fresh hsz
  have kk : ∀ b o, hp.get? b = some o → ((hp.push (PySem.W.kdv_tup [])).push (PySem.HandSPX.excO C hp.objs.size)).get? b = some o := fun b o e => Heap.get?_push_of_some _ (Heap.get?_push_of_some _ e)
  have hget : ((hp.push (PySem.W.kdv_tup [])).push (PySem.HandSPX.excO C hp.objs.size)).get? (hp.objs.size + 1) = some (PySem.HandSPX.excO C hp.objs.size) := by heap_get
  have I2 : Inv X pins σ (upd H1 (hp.objs.size + 1) (exo (hp.objs.size + 1) C none)) ⟨(hp.push (PySem.W.kdv_tup [])).push (PySem.HandSPX.excO C hp.objs.size), g, dr, tk, os⟩ :=
    I1.laid (t' := tk) (a := hp.objs.size + 1) (o := exo (hp.objs.size + 1) C none) (h' := (hp.push (PySem.W.kdv_tup [])).push (PySem.HandSPX.excO C hp.objs.size)) kk hsz (exo_ok hget)
  have r2 : Vals [V.ref (hp.objs.size + 1), v] [Value.ref (hp.objs.size + 1), u] := .cons rfl (.cons ru .nil)
  have hb2 := hb.to _ [Value.ref (hp.objs.size + 1)] [u] I2.kIn rfl rfl
  refine wpAny_call (PySem.HandSPX.call_kw F hT hC (PySem.W.looks_findIn I1.kIn T.iC) (fun self => PySem.W.bind_fn I1.kIn self T.tI)
    (codeAny_mono (F1.run _ X.stack _ _ ⟨[Value.ref (hp.objs.size + 1)], [(f, u)]⟩ [Value.ref (hp.objs.size + 1), u] _
      (fun v' H2 => v' = .non ∧ Q (.ref (hp.objs.size + 1)) H2) (fun _ _ _ => False) (hr.make C [] [(f, u)]) (I2.env0.make C [] [(f, u)]) hb2 r2
      ⟨_, v, rfl, upd_same, fun d n ne => ⟨rfl, by rw [upd_upd]; exact q1 _ d hn (by rw [upd_ne ne] at n; exact n) ne⟩⟩) fun r s' hq' => ?_))
  cases r with
  | error er => exact hx pins σ _ _ er s' I2 hq'
  | ok fl =>
    cases fl with
    | ret u' =>
      obtain ⟨v', H', I3, rv, ev, q3⟩ := I2.after hq'
      subst ev
      exact ⟨rv, ⟨V.ref (hp.objs.size + 1), H', I3, rfl, q3⟩⟩
    | next => exact False.elim hq'
    | brk => exact False.elim hq'
    | cont => exact False.elim hq'
theorem pe_mkX0 (F : ExcBaseFacts B newId initId bmB) (q : PySem.W.excIn X.K C bmB newId = true) (kC : PySem.W.keepIn X.K (.ref C) = true) (hg : Gl X x) (gC : X.mg x = some (.ref C))
    (hdb : (x == ("__debug__" : Str)) = false := by decide) : PE X (.Call (.Name x p) [] [] pos) (tMkX0 C) := by
  refine ⟨fun pins s σ H Q I h => ?_⟩
  refine wpAny_Call_Name_kw (ld_glob I hg gC ?_ hdb)
  refine PySem.W.callWith_K0 I.kIn kC ?_
  show wpAny _ _ (call (.ref C) []) _ _ _
  obtain ⟨bm, N, nm, qn, bs, hdct, sn, sub, ab, col, dd, k0, k1, k2, k3, k5, mN, hC, hN, hni, T⟩ := exc_obj I.kIn q
  refine wpAny_call_exc_subT F T hC hN hni (fun h' e hm => ?_) (Nat.zero_le _)
  obtain ⟨t, he, _, _⟩ := hm.there
  have na := I.hok.gone hm.new
  exact ⟨.ref e, _, I.laidN (t' := s.toks) hm.keeps hm.new na (exo_ok he), rfl, h e na⟩
/-! such an exception is asked -/
structure XIn (H : Hp) (a C : Addr) (d : Option Addr) : Prop where
  o : Rd H a (exo a C d)
  f : ∀ dx, d = some dx → ∃ fs, Rd H dx (exd dx fs)
theorem rdo_at {P : Program} {w : World} {H : Hp} {h : Heap} {e C : Addr} {d : Option Addr} (hok : HOk P w H h) (he : Rd H e (exo e C d)) : ∃ t1 : Addr, h.get? e = some ({ cls := .ref C, dict := d, data := .fields #[.ref t1, .none, .none, .none, .bool false, .none] } : Obj) := by
  have x : ObjOk P w H h e (.ext fun h => ∃ t1 : Addr, h.get? e = some ({ cls := .ref C, dict := d, data := .fields #[.ref t1, .none, .none, .none, .bool false, .none] } : Obj)) := he.ok hok
  exact x.1
theorem rdd_at {P : Program} {w : World} {H : Hp} {h : Heap} {dx : Addr} {fs : List (Str × V)} (hok : HOk P w H h) (he : Rd H dx (exd dx fs)) : ∃ mA, h.Ns1 dx mA ∧ ∀ f, RelO (fs.lookup f) (mA f) := by
  have x : ObjOk P w H h dx (.ext fun h => ∃ mA, h.Ns1 dx mA ∧ ∀ f, RelO (fs.lookup f) (mA f)) := he.ok hok
  exact x.1
theorem XIn.inst {P : Program} {w : World} {H : Hp} {h : Heap} {a : Addr} {d : Option Addr} (hok : HOk P w H h) (x : XIn H a C d) : ∃ (oe : Obj) (od : Option Obj), PySem.W.InstAt h a oe C od := by
  obtain ⟨t1, ho⟩ := rdo_at hok x.o
  cases d with
  | none => exact ⟨_, none, ho, rfl, rfl, trivial⟩
  | some dx =>
    obtain ⟨fs, hd⟩ := x.f dx rfl
    obtain ⟨mA, hns, hr⟩ := rdd_at hok hd
    obtain ⟨od, hod, hl⟩ := lookIn_ns hns
    exact ⟨_, some od, ho, rfl, rfl, hod⟩
def rIsX (K : PySem.W.Frag) : List V → Hp → VK → Prop := fun xs H Q => ∃ (a C : Addr) (d : Option Addr) (c : V) (cv : Value) (b : Bool), xs = [.ref a, c] ∧ XIn H a C d ∧ ExcC K C ∧ (∀ u, RelV c u → u = cv) ∧ PySem.W.kitOne K (.ref C) cv = some b ∧ Q (.bl b) H
theorem call_isX : CallR X (.builtin "isinstance") (rIsX X.K) := by
  intro pins s σ H xs us Q I r h
  obtain ⟨a, D, d, c, cv, b, rfl, ha, C, hcv, e, q⟩ := h
  cases r with
  | cons rx rr =>
    cases rr with
    | cons rt rr =>
      cases rr
      cases rx
      have ec := hcv _ rt
      subst ec
      obtain ⟨oe, od, J⟩ := ha.inst I.hok
      obtain ⟨cd, hcd, _⟩ := PySem.W.any_some C.hd
      exact PySem.W.kia_one (PySem.W.kitx_exc (by rw [hcd]; rfl) C.hg C.hk C.hs C.ha C.hn C.ht C.hm) I.kIn J e (fun z => nomatch z) fun tk => ⟨.bl b, H, I.kept (t' := tk) fun _ _ z => z, rfl, q⟩
def rIsXT (K : PySem.W.Frag) : List V → Hp → VK → Prop := fun xs H Q => ∃ (a C tp : Addr) (d : Option Addr) (cs : List V) (us : List Value) (b : Bool), xs = [.ref a, .ref tp] ∧ XIn H a C d ∧ ExcC K C ∧ H tp = some (.tup cs) ∧ Paired ClsV cs us ∧ PySem.W.kitAny K (.ref C) us = some b ∧ Q (.bl b) H
theorem call_isXT : CallR X (.builtin "isinstance") (rIsXT X.K) := by
  intro pins s σ H xs us Q I r h
  obtain ⟨a, D, tp, d, cs, ws, b, rfl, ha, C, hT, k, e, q⟩ := h
  obtain ⟨u1, u2, rfl, r1, r2⟩ := vals2 r
  cases (show u1 = Value.ref a from r1)
  cases (show u2 = Value.ref tp from r2)
  obtain ⟨oe, od, J⟩ := ha.inst I.hok
  obtain ⟨_, its, rv, o, h1, h2, n, h3⟩ := (show ObjOk X.prog X.w H s.heap tp (.tup cs) from I.hok tp _ hT)
  have e3 := ClsV.all k rv
  subst e3
  obtain ⟨oc, od', dt, sl⟩ := o
  simp only at h2 h3
  subst h2 h3
  obtain ⟨cd, hcd, _⟩ := PySem.W.any_some C.hd
  exact PySem.W.kia_tup (PySem.W.kitx_exc (by rw [hcd]; rfl) C.hg C.hk C.hs C.ha C.hn C.ht C.hm) I.kIn J h1 e (fun z => nomatch z) fun tk => ⟨.bl b, H, I.kept (t' := tk) fun _ _ z => z, rfl, q⟩
/-- e.f -/
def tFldX (C : Addr) (f : Str) (te : TE) : TE := fun σ H Q => te σ H fun x H1 => ∃ (a dd : Addr) (v : V), x = .ref a ∧ Rd H1 a (exo a C (some dd)) ∧ Rd H1 dd (exd dd [(f, v)]) ∧ Q v H1
theorem pe_fldX {e : Expr} {te : TE} {pos : Pos} (T : NsC X.K C fI f bmB newId) (he : PE X e te) (hb : attributeBase e f X.env (eval e X.env) = eval e X.env := by rfl) : PE X (.Attribute e f pos) (tFldX C f te) := by
  refine ⟨fun pins s σ H Q I h => ?_⟩
  refine attr_of hb (thn (he.run pins s σ H _ I h) fun u s1 hh => ?_)
  obtain ⟨x, H1, I1, rx, a, dd, v, ex, ha, hd, q⟩ := hh
  subst ex
  obtain rfl : u = Value.ref a := rx
  obtain ⟨t1, ho⟩ := rdo_at I1.hok ha
  obtain ⟨mA, hns, hr⟩ := rdd_at I1.hok hd
  obtain ⟨od, hod, hl⟩ := lookIn_ns hns
  have l : List.lookup f [(f, v)] = some v := by simp [List.lookup]
  obtain ⟨u, hu, ru⟩ := RelO.some_of (v := v) (o := mA f) (by rw [← l]; exact hr f)
  have J : PySem.W.InstAt s1.heap a _ C (some od) := ⟨ho, rfl, rfl, hod⟩
  exact PySem.HandSPX.exc_get I1.kIn J T.ga T.gg T.exC (PySem.W.findObj_own T.hd T.no rfl (by rw [hl, hu])) (handed_of ru) ⟨v, H1, I1.tok _, ru, q⟩
end
end L2
set_option Elab.async false
set_option linter.all false
set_option maxRecDepth 100000
set_option maxHeartbeats 4000000
/-! Xk2: the eighteen exception classes as data: ExV k d, the k-th class's instance, its field holding d. -/
namespace Ob
open PySem PySem.Spec PyProof.Rows L2
open Evl (Ex)
open PySem.W (Datum Tup DatumOrd)
structure Row29 where
  n : Str
  f : Option Str
  b : Nat
def rows29 : List Row29 := [⟨"BadText", some "at", 0⟩, ⟨"BadRow", some "number", 0⟩, ⟨"SameSwitch", some "switch", 0⟩, ⟨"BadName", some "name", 0⟩, ⟨"NoEffect", none, 0⟩, ⟨"NotConnected", none, 0⟩, ⟨"NoSwitch", some "switch", 1⟩, ⟨"NoPair", some "pair", 1⟩, ⟨"NoState", some "number", 1⟩, ⟨"NoDeed", some "many", 1⟩,
  ⟨"Barred", some "obstacle", 2⟩, ⟨"NoOrder", none, 2⟩, ⟨"NoPress", some "at", 2⟩, ⟨"Taken", some "switch", 2⟩, ⟨"Known", some "pair", 2⟩, ⟨"BothOn", some "pair", 2⟩, ⟨"LastSwitch", none, 2⟩, ⟨"TooMany", some "many", 3⟩]
def row29 (k : Nat) : Row29 := rows29.getD k ⟨"", none, 0⟩
abbrev nm29 (k : Nat) : Str := (row29 k).n
abbrev fl29 (k : Nat) : Option Str := (row29 k).f
abbrev bs29 (k : Nat) : Nat := (row29 k).b
def bm29 : Nat → List Value
  | 0 => [.type "ValueError", .type "Exception", .type "BaseException", .type "object"]
  | 1 => [.type "LookupError", .type "Exception", .type "BaseException", .type "object"]
  | 2 => [.type "RuntimeError", .type "Exception", .type "BaseException", .type "object"]
  | _ => [.type "OverflowError", .type "ArithmeticError", .type "Exception", .type "BaseException", .type "object"]
def bn29 : Nat → String
  | 0 => "ValueError"
  | 1 => "LookupError"
  | 2 => "RuntimeError"
  | _ => "OverflowError"
def nid29 : Nat → String
  | 0 => "ValueError.__new__"
  | 1 => "LookupError.__new__"
  | 2 => "RuntimeError.__new__"
  | _ => "OverflowError.__new__"
def excCB (x : Str) (K : PySem.W.Frag) : Bool :=
  He.eqO (PySem.W.findIn K (.ref (He.ga K x)) "__getattribute__") (some (some (.builtin "BaseException.__getattribute__"))) && (He.eqO (PySem.W.findIn K (.ref (He.ga K x)) "__getattr__") (some none) && (decide (PySem.W.subIn K (.ref (He.ga K x)) (.type "BaseException") = some true) &&
  (PySem.W.hasDictIn K (He.ga K x) && (He.eqO (PySem.W.findIn K (.ref (He.ga K x)) "__class__") (some (some (.builtin "object.__class__"))) && (He.eqO (PySem.W.specialIn K (.builtin "object.__class__") "__get__") (some (some (.builtin "getset_descriptor.__get__"))) &&
  (decide (PySem.W.takesIn K (.builtin "object.__class__") = some true) && decide (PySem.W.mroIn K (He.ga K x) (.type "object") = some true)))))))
theorem excCB_ok {x : Str} {K : PySem.W.Frag} (h : excCB x K = true) : ExcC K (He.ga K x) := by
  obtain ⟨h1, h⟩ := He.ba h
  obtain ⟨h2, h⟩ := He.ba h
  obtain ⟨h3, h⟩ := He.ba h
  obtain ⟨h4, h⟩ := He.ba h
  obtain ⟨h5, h⟩ := He.ba h
  obtain ⟨h6, h⟩ := He.ba h
  obtain ⟨h7, h8⟩ := He.ba h
  exact ⟨He.eqO_ok h1, He.eqO_ok h2, of_decide_eq_true h3, h4, He.eqO_ok h5, He.eqO_ok h6, of_decide_eq_true h7, of_decide_eq_true h8⟩
def rowB (K : PySem.W.Frag) (r : Row29) : Bool := match r.f with
  | some f => nsB r.n f (bm29 r.b) (nid29 r.b) K
  | none => PySem.W.excIn K (He.ga K r.n) (bm29 r.b) (nid29 r.b) && PySem.W.keepIn K (.ref (He.ga K r.n))
def ok29 (K : PySem.W.Frag) : Bool := ((List.range 18).all fun i => excCB (nm29 i) K) && (((List.range 18).all fun i => rowB K (row29 i)) && (((List.range 18).all fun i => (List.range 18).all fun j => decide (PySem.W.kitOne K (.ref (He.ga K (nm29 i))) (.ref (He.ga K (nm29 j))) = some (decide (j = i)))) &&
  (((List.range 18).all fun i => (List.range 4).all fun j => decide (PySem.W.kitOne K (.ref (He.ga K (nm29 i))) (.type (bn29 j)) = some (decide (j = bs29 i)))) && ((List.range 18).all fun i => decide (PySem.W.kitAny K (.ref (He.ga K (nm29 i))) [.type "IndexError", .type "KeyError", .type "NotImplementedError"] = some false)))))
section
variable {K : PySem.W.Frag}
theorem all29 {n k : Nat} {p : Nat → Bool} (h : (List.range n).all p = true) (hk : k < n) : p k = true := List.all_eq_true.mp h k (List.mem_range.mpr hk)
theorem exc29 (h : ok29 K = true) {k : Nat} (hk : k < 18) : ExcC K (He.ga K (nm29 k)) := excCB_ok (all29 (He.ba h).1 hk)
theorem row29_ok (h : ok29 K = true) {k : Nat} (hk : k < 18) : rowB K (row29 k) = true := all29 (He.ba (He.ba h).2).1 hk
theorem kit29 (h : ok29 K = true) {i j : Nat} (hi : i < 18) (hj : j < 18) : PySem.W.kitOne K (.ref (He.ga K (nm29 i))) (.ref (He.ga K (nm29 j))) = some (decide (j = i)) :=
  of_decide_eq_true (all29 (n := 18) (p := fun j => decide (PySem.W.kitOne K (.ref (He.ga K (nm29 i))) (.ref (He.ga K (nm29 j))) = some (decide (j = i)))) (all29 (He.ba (He.ba (He.ba h).2).2).1 hi) hj)
theorem kitB29 (h : ok29 K = true) {i j : Nat} (hi : i < 18) (hj : j < 4) : PySem.W.kitOne K (.ref (He.ga K (nm29 i))) (.type (bn29 j)) = some (decide (j = bs29 i)) :=
  of_decide_eq_true (all29 (n := 4) (p := fun j => decide (PySem.W.kitOne K (.ref (He.ga K (nm29 i))) (.type (bn29 j)) = some (decide (j = bs29 i)))) (all29 (He.ba (He.ba (He.ba (He.ba h).2).2).2).1 hi) hj)
theorem kitT29 (h : ok29 K = true) {i : Nat} (hi : i < 18) : PySem.W.kitAny K (.ref (He.ga K (nm29 i))) [.type "IndexError", .type "KeyError", .type "NotImplementedError"] = some false :=
  of_decide_eq_true (all29 (He.ba (He.ba (He.ba (He.ba h).2).2).2).2 hi)
/-- the facts of a class with a field -/
theorem ns29 (h : ok29 K = true) (k : Nat) (n f : Str) (b : Nat) (hk : k < 18) (hr : row29 k = ⟨n, some f, b⟩) : NsC K (He.ga K n) (He.ma K (He.ga K n) "__init__") f (bm29 b) (nid29 b) := by
  have q := row29_ok h hk
  rw [hr] at q
  exact nsB_ok q
theorem nf29 (h : ok29 K = true) (k : Nat) (n : Str) (b : Nat) (hk : k < 18) (hr : row29 k = ⟨n, none, b⟩) : PySem.W.excIn K (He.ga K n) (bm29 b) (nid29 b) = true ∧ PySem.W.keepIn K (.ref (He.ga K n)) = true := by
  have q := row29_ok h hk
  rw [hr] at q
  exact He.ba q
end
/-- the k-th class's instance, its field holding d -/
structure ExV where
  k : Nat
  d : PyData
def FldX (K : PySem.W.Frag) (H : Hp) (d : Option Addr) : Option Str → PyData → Prop
  | none, _ => d = none
  | some f, p => ∃ dx w, d = some dx ∧ Rd H dx (exd dx [(f, w)]) ∧ Dq K H w p
theorem FldX.mono {K : PySem.W.Frag} {H H' : Hp} {d : Option Addr} {p : PyData} (e : ExR H H') : ∀ {o : Option Str}, FldX K H d o p → FldX K H' d o p
  | none, h => h
  | some f, ⟨dx, w, h1, h2, h3⟩ => ⟨dx, w, h1, e.1 dx (exd dx [(f, w)]) rfl h2, dq_monoR e _ _ h3⟩
instance : Rep ExV := ⟨fun K H v x => ∃ a d, v = .ref a ∧ Rd H a (exo a (He.ga K (nm29 x.k)) d) ∧ FldX K H d (fl29 x.k) x.d, fun {K H H' v x} e ⟨a, d, h1, h2, h3⟩ => ⟨a, d, h1, e.1 a (exo a (He.ga K (nm29 x.k)) d) rfl h2, h3.mono e⟩⟩
section
variable {K : PySem.W.Frag} {W0 : List Addr} {B0 H0 : Hp} {os : List OC} {Γ : List (Option Cell)} {σ : L2.St} {B H B1 H1 : Hp} {te ta tb tc td tk tv : TE} {ts : TA} {tt tt1 : TT} {D : Ends} {tu tw tz : TS}
theorem ExV.xin {x : ExV} {v : V} (h : Rep.at_ K H v x) : ∃ a d, v = .ref a ∧ XIn H a (He.ga K (nm29 x.k)) d := by
  obtain ⟨a, d, rfl, h1, h2⟩ := h
  refine ⟨a, d, rfl, h1, fun dx e => ?_⟩
  subst e
  cases hf : fl29 x.k with
  | none =>
    rw [hf] at h2
    cases h2
  | some f =>
    rw [hf] at h2
    obtain ⟨dx', w, e1, e2, _⟩ := h2
    cases e1
    exact ⟨_, e2⟩
theorem e_isX {x : ExV} (c : ok29 K = true) (hx : x.k < 18) (j : Nat) (n : Str) (hj : j < 18) (hn : nm29 j = n) (h : Pe K ta σ B x) : Pe K (tCB (rIsX K) (tCons ta (tCons (tC (.ref (He.ga K n))) tNil))) σ B (decide (j = x.k)) := fun H e Q q => h H e _ fun v B1 H1 u hv => by
  obtain ⟨a, d, rfl, hi⟩ := ExV.xin (Rep.mono u.bh hv)
  subst hn
  exact ⟨a, _, d, .ref (He.ga K (nm29 j)), .ref (He.ga K (nm29 j)), _, rfl, hi, exc29 c hx, fun _ r => r, kit29 c hx hj, q _ B1 H1 u (at_bl.mpr rfl)⟩
theorem e_isXB {x : ExV} (c : ok29 K = true) (hx : x.k < 18) (j : Nat) (n : String) (hj : j < 4) (hn : bn29 j = n) (h : Pe K ta σ B x) : Pe K (tCB (rIsX K) (tCons ta (tCons (tC (.ty n)) tNil))) σ B (decide (j = bs29 x.k)) := fun H e Q q => h H e _ fun v B1 H1 u hv => by
  obtain ⟨a, d, rfl, hi⟩ := ExV.xin (Rep.mono u.bh hv)
  subst hn
  exact ⟨a, _, d, .ty (bn29 j), .type (bn29 j), _, rfl, hi, exc29 c hx, fun _ r => r, kitB29 c hx hj, q _ B1 H1 u (at_bl.mpr rfl)⟩
theorem e_isXT {x : ExV} (c : ok29 K = true) (hx : x.k < 18) (h : Pe K ta σ B x) : Pe K (tCB (rIsXT K) (tCons ta (tCons (tTup (tCons (tC (.ty "IndexError")) (tCons (tC (.ty "KeyError")) (tCons (tC (.ty "NotImplementedError")) tNil)))) tNil))) σ B false := fun H e Q q => h H e _ fun v B1 H1 u hv => ⟨by show 3 ≤ sizeLine; rw [sizeLine_eq]; decide, fun p hp => by
  have u2 := u.then (o := .tup [.ty "IndexError", .ty "KeyError", .ty "NotImplementedError"]) hp
  have w := (Up.new (o := .tup [.ty "IndexError", .ty "KeyError", .ty "NotImplementedError"]) u.bh hp).bb
  obtain ⟨a, d, rfl, hi⟩ := ExV.xin (Rep.mono u2.bh (Rep.mono w hv))
  exact ⟨a, _, p, d, [.ty "IndexError", .ty "KeyError", .ty "NotImplementedError"], [.type "IndexError", .type "KeyError", .type "NotImplementedError"], false, rfl, hi, exc29 c hx, upd_same, .cons (.ty _) (.cons (.ty _) (.cons (.ty _) .nil)), kitT29 c hx, q _ _ _ u2 (at_bl.mpr rfl)⟩⟩
theorem e_fldX {x : ExV} (n f : Str) (hn : nm29 x.k = n) (hf : fl29 x.k = some f) (h : Pe K ta σ B x) : Pe K (tFldX (He.ga K n) f ta) σ B (DD.mk x.d) := fun H e Q q => h H e _ fun v B1 H1 u hv => by
  obtain ⟨a, d, rfl, h1, h2⟩ := hv
  rw [hf] at h2
  obtain ⟨dx, w, rfl, h3, h4⟩ := h2
  rw [hn] at h1
  exact ⟨a, dx, w, rfl, Evl.ex_rd u.bh h1, Evl.ex_rd u.bh h3, q _ B1 H1 u h4⟩
theorem e_mkX {d : PyData} (k : Nat) (n f : Str) (hn : nm29 k = n) (hf : fl29 k = some f) (h : Pe K te σ B (DD.mk d)) : Pe K (tMkX (He.ga K n) f (tCons te tNil)) σ B (ExV.mk k d) := fun H e Q q => h H e _ fun v B1 H1 u hv => ⟨v, rfl, fun a dx ha hd hne => by
  have u1 := Up.new (o := exo a (He.ga K n) (some dx)) u.bh ha
  have hd1 : upd H1 a (exo a (He.ga K n) (some dx)) dx = none := by rw [upd_ne hne]; exact hd
  have u2 := Up.new (o := exd dx [(f, v)]) u1.bh hd1
  refine q _ _ _ ((u.trans u1).trans u2) ⟨a, some dx, rfl, .inl ?_, ?_⟩
  · show upd (upd B1 a (exo a (He.ga K n) (some dx))) dx (exd dx [(f, v)]) a = some (exo a (He.ga K (nm29 k)) (some dx))
    rw [upd_ne (Ne.symm hne), upd_same, hn]
  · show FldX K _ (some dx) (fl29 k) d
    rw [hf]
    exact ⟨dx, v, rfl, .inl upd_same, dq_monoR (ExR.of u2.bb) _ _ (dq_monoR (ExR.of u1.bb) _ _ hv)⟩⟩
theorem e_mkX0 {d : PyData} (k : Nat) (n : Str) (hn : nm29 k = n) (hf : fl29 k = none) : Pe K (tMkX0 (He.ga K n)) σ B (ExV.mk k d) := fun H e Q q => fun a ha => by
  refine q _ _ _ (Up.new (o := exo a (He.ga K n) none) e ha) ⟨a, none, rfl, .inl ?_, ?_⟩
  · show upd B a (exo a (He.ga K n) none) a = some (exo a (He.ga K (nm29 k)) none)
    rw [upd_same, hn]
  · show FldX K _ none (fl29 k) d
    rw [hf]
    rfl
/-! lists of any things -/
section
variable {α : Type} [Rep α]
abbrev PaX (K : PySem.W.Frag) (ts : TA) (σ : L2.St) (B : Hp) (xs : List α) : Prop := Pa ts σ B fun vs B => AtAll K B vs xs
theorem pax_nil : PaX K tNil σ B ([] : List α) := fun H e Q q => q [] B H (Up.refl e) .nil
theorem pax_cons {x : α} {xs : List α} (h : Pe K te σ B x) (hr : ∀ B', Ex B B' → PaX K ts σ B' xs) : PaX K (tCons te ts) σ B (x :: xs) := fun H e Q q =>
  h H e _ fun v B1 H1 u1 h1 => hr B1 u1.bb H1 u1.bh _ fun vs B2 H2 u2 h2 => q _ B2 H2 (u1.trans u2) (.cons (Rep.mono u2.bb h1) h2)
theorem e_lstX {xs : List α} (h : PaX K ts σ B xs) (hz : xs.length ≤ 1000000) : Pe K (tLst ts) σ B (LL.mk xs) := fun H e Q q => h H e _ fun vs B1 H1 u hv =>
  ⟨by rw [AtAll.length hv, sizeLine_eq]; omega, fun p hp => q _ _ _ (u.then hp) ⟨p, vs, rfl, Evl.sq_of upd_same, AtAll.mono (Up.new (o := .lst vs) u.bh hp).bb hv⟩⟩
theorem e_tupX {xs : List α} (h : PaX K ts σ B xs) (hz : xs.length ≤ 1000000) : Pe K (tTup ts) σ B (Sq.mk xs) := fun H e Q q => h H e _ fun vs B1 H1 u hv =>
  ⟨by rw [AtAll.length hv, sizeLine_eq]; omega, fun p hp => q _ _ _ (u.then hp) ⟨p, vs, rfl, .inr upd_same, AtAll.mono (Up.new (o := .tup vs) u.bh hp).bb hv⟩⟩
theorem ll_sq {xs : List α} {v : V} (h : Rep.at_ K H v (LL.mk xs)) : Rep.at_ K H v (Sq.mk xs) := by
  obtain ⟨a, vs, h1, h2, h3⟩ := h
  exact ⟨a, vs, h1, .inl h2, h3⟩
theorem e_addX {xs ys : List α} (ha : Pe K ta σ B (LL.mk xs)) (hb : Pe K tb σ B (LL.mk ys)) (hz : xs.length + ys.length ≤ 1000000) : Pe K (tOp (rAddU K) ta tb) σ B (LL.mk (xs ++ ys)) :=
  e_op ha hb fun B H v w e h1 h2 Q q => by
    obtain ⟨a, vs, rfl, hs, hx⟩ := h1
    obtain ⟨b, ws, rfl, hs2, hy⟩ := h2
    have hx' : AtAll K B vs xs := hx
    have hy' : AtAll K B ws ys := hy
    refine .inr (.inr (.inl ⟨a, b, vs, ws, rfl, rfl, Evl.ex_l e hs, Evl.ex_l e hs2, ?_, fun p hp => ?_⟩))
    · rw [hx'.length, hy'.length]
      exact Nat.le_trans hz (by rw [sizeLine_eq]; decide)
    · have u := Up.new (o := .lst (vs ++ ws)) e hp
      exact q _ _ _ u ⟨p, _, rfl, Evl.sq_of upd_same, (hx'.append hy').mono u.bb⟩
def enumX (xs : List α) : List (Duo Int α) := xs.zipIdx.map fun p => Duo.mk (p.2 : Int) p.1
theorem enumX_len (xs : List α) : (enumX xs).length = xs.length := by simp [enumX]
theorem enumX_get {xs : List α} {i : Nat} {x : α} (h : xs[i]? = some x) : (enumX xs)[i]? = some (Duo.mk (i : Int) x) := by
  simp [enumX, List.getElem?_zipIdx, h]
theorem enumX_mem {xs : List α} {p : Duo Int α} (h : p ∈ enumX xs) : ∃ (i : Nat) (x : α), xs[i]? = some x ∧ p = Duo.mk (i : Int) x := by
  obtain ⟨q, hq, rfl⟩ := List.mem_map.mp h
  obtain ⟨x, i⟩ := q
  exact ⟨i, x, by simpa using List.mem_zipIdx_iff_getElem?.mp hq, rfl⟩
theorem it_enumLX {xs : List α} (h : Pe K te σ B (LL.mk xs)) : ItD K (iEnum K (tCons te tNil)) σ B (enumX xs) := fun H e R q => h H e _ fun v B1 H1 u hv => by
  obtain ⟨a, vs, rfl, hs, hx⟩ := hv
  have hx' : AtAll K B1 vs xs := hx
  refine ⟨a, vs, rfl, Evl.ex_l u.bh hs, ?_⟩
  refine q (Ite K a) B1 H1 (fun H => SqL K H a vs) (YPair (fun i => some (.int (i : Nat))) (fun i => vs[i]?)) u ?_ (fun H' e' => Evl.ex_l e' hs) fun i x Hx H' hi ex y => ?_
  · rw [enumX_len, ← hx'.length]
    exact walk_enum
  · obtain ⟨T, x1, y1, rfl, hT, eH, e1, e2⟩ := y
    obtain ⟨d, hd, hxd⟩ := AtAll.get' hx' e2
    cases Option.some.inj e1
    exact ⟨_, enumX_get hd, duo_new hT eH (at_int.mpr rfl) hxd⟩
end
theorem St.forCDuo {α β : Type} [Rep α] [Rep β] {wi : TI} {i j : Nat} {xs : List (Duo α β)} (vs : List Nat) (s : St K W0 B0 H0 os Γ σ B H) (h : ItD K wi σ B xs)
    (hs : ∀ done x rest, xs = done ++ x :: rest → ∀ (σ' : L2.St) (B' H' : Hp) (N : L2.St → Hp → Prop), (∀ {Γ3 : List (Option Cell)} {σ3 : L2.St} {B3 H3 : Hp}, St K (os.map (·.l)) B' H' os Γ3 σ3 B3 H3 → cw Γ3 vs = cw Γ vs → N σ3 H3) →
      St K W0 B0 H0 os (cs (cs (cw Γ vs) i (ce x.a)) j (ce x.b)) σ' B' H' → tu { D with nx := N, ct := N, bk := D.nx } σ' H')
    (k : ∀ σ' B' H', St K W0 B0 H0 os (cw Γ vs) σ' B' H' → D.nx σ' H') : tFor wi (gUnp K 2 (gCons (gName i) (gCons (gName j) gNil))) tu D σ H := by
  refine s.forG (δ := Unit) h (fun done _ => os) (fun _ _ => cw Γ vs) (fun _ _ => True) ⟨(), trivial, fun B1 H1 s1 => s1.fg vs⟩ (fun done x rest _ ex _ v σ' B' H' N hN s1 hv => ?_) fun _ _ σ' B' H' s1 => k σ' B' H' s1
  obtain ⟨a, v1, v2, rfl, h1, k1, k2⟩ := hv
  exact .inl ⟨a, _, rfl, ex_tx s1.bh h1, rfl, _, _, rfl, _, _, rfl, rfl, hs done x rest ex _ B' H' N (fun {Γ3 σ3 B3 H3} s3 hΓ => hN () trivial (hΓ ▸ s3.fg vs)) ((s1.put i k1).put j k2)⟩
end
end Ob
namespace Ob
open PySem
theorem ve_initX {K : PySem.W.Frag} : PySem.W.findCls K (.type "ValueError") (.type "type") "__init__" = some (.val (.builtin "ValueError.__init__")) := by kernel_rfl
theorem oe_initX {K : PySem.W.Frag} : PySem.W.findCls K (.type "OverflowError") (.type "type") "__init__" = some (.val (.builtin "OverflowError.__init__")) := by kernel_rfl
end Ob
set_option Elab.async false
set_option linter.all false
set_option maxRecDepth 100000
set_option maxHeartbeats 4000000
/-! E29: _law_kinds, _law_under, _law_right of k29 (printed by mk29.py). -/
namespace L2
open PySem PySem.Spec PyProof.Rows
/-- text * int -/
def rMulTx : R2 := fun x y H Q => ∃ (s : Str) (k : Int), x = .str s ∧ y = .int k ∧ s.length ≤ 16 ∧ 0 ≤ k ∧ k ≤ 1000 ∧ Q (.str (Txt.mul s k)) H
theorem op_mulTx {X : Cx} : OpR X (binaryOp .Mult) rMulTx := by
  intro pins s σ H x y v u Q I rx ry h
  obtain ⟨w, k, rfl, rfl, hz, k0, k1, q⟩ := h
  obtain ⟨t, rfl⟩ := rx
  obtain ⟨t2, rfl⟩ := ry
  refine PySem.W.KXi.mul (n := w.length) rfl hz (by omega) (by show k ≤ 1048576; omega) fun t' k2 _ _ => ?_
  exact ⟨.str (Txt.mul w k), H, I.tok k2, ⟨t', rfl⟩, q⟩
end L2
namespace Ob
open PySem L2
open Evl (Ex)
open PySem.W (Datum Tup DatumOrd)
section
variable {K : PySem.W.Frag} {W0 : List Addr} {B0 H0 : Hp} {os : List OC} {Γ : List (Option Cell)} {σ : L2.St} {B H B1 H1 : Hp} {te ta tb tc td tk tv : TE} {tt tt1 : TT} {D : Ends} {tu tw tz : TS} {b : Addr} {n : Int}
theorem e_mulTx {x : Str} {k : Int} (ha : Pe K ta σ B x) (hb : Pe K tb σ B k) (hz : x.length ≤ 16) (k0 : 0 ≤ k) (k1 : k ≤ 1000) : Pe K (tOp rMulTx ta tb) σ B (Txt.mul x k) :=
  e_op ha hb (rd_val (.str (Txt.mul x k)) (fun _ => at_str.mpr rfl) fun B H v w e h1 h2 Q q => ⟨x, k, at_str.mp h1, at_int.mp h2, hz, k0, k1, q⟩)
theorem e_slS29 {tl th : TO} {s : Str} {lo hi : Option Int} (h : Pe K te σ B s) (h1 : Po tl σ B lo) (h2 : Po th σ B hi) (hz : s.length ≤ 1000000) : Pe K (tSl (rSlU K) te tl th) σ B (cutS s lo hi) := fun H e Q q => h H e _ fun v B1 H1 u hv =>
  h1 H1 (u.bb.trans u.bh) _ fun B2 H2 u2 => h2 H2 (u2.bb.trans u2.bh) _ fun B3 H3 u3 => by
    have b3 : Ex B1 H3 := u.bh.trans (u2.hh.trans u3.hh)
    have v3 : Up B H B1 H3 := ⟨u.bb, b3, u.hh.trans (u2.hh.trans u3.hh), u.nw⟩
    exact .inr (.inr ⟨s, at_str.mp hv, by rw [sizeLine_eq]; omega, q _ _ _ v3 (at_str.mpr rfl)⟩)
theorem b_ixSq29 {α : Type} [Rep α] {xs : List α} (h : Pe K te σ B (Sq.mk xs)) (hk : Pb K b n tk σ B (fun k : Int => 0 ≤ k ∧ k < xs.length)) : Pb K b n (tOp (rIxU K) te tk) σ B (fun x => x ∈ xs) := fun H c e bx hc Q q =>
  h H e _ fun v B1 H1 u1 hv => (hk.mono u1.bb) H1 c u1.bh (u1.box bx) hc _ fun w k B2 H2 u2 bx2 r2 hw => by
    obtain ⟨x, hx⟩ : ∃ x, xs[k.toNat]? = some x := ⟨_, List.getElem?_eq_getElem (by omega)⟩
    have key : tOp (rIxU K) (tC v) (tC w) σ H2 Q := (e_ixSq (e_const (Rep.mono u2.bb hv)) (e_const hw) (atI_nat r2.1 hx)) H2 u2.bh Q fun z B3 H3 u3 hz => q z x B3 H3 ((u1.ub.trans (u1.box bx).ne u2).up bx2.ne u3) (u3.box bx2) (List.mem_of_getElem? hx) hz
    exact key
theorem St.qforCDuo {α β : Type} [Rep α] [Rep β] {wi : TI} {i j : Nat} {xs : List (Duo α β)} (vs : List Nat) (s : St K W0 B0 H0 os Γ σ B H) (h : ItD K wi σ B xs)
    (hs : ∀ done x rest, xs = done ++ x :: rest → ∀ (σ' : L2.St) (B' H' : Hp) (N : L2.St → Hp → Prop), (∀ {Γ3 : List (Option Cell)} {σ3 : L2.St} {B3 H3 : Hp}, St K (os.map (·.l)) B' H' os Γ3 σ3 B3 H3 → cw Γ3 vs = cw Γ vs → N σ3 H3) →
      St K W0 B0 H0 os (cs (cs (cw Γ vs) i (ce x.a)) j (ce x.b)) σ' B' H' → tu { D with nx := N, ct := N, bk := tz D } σ' H')
    (k : ∀ σ' B' H', St K W0 B0 H0 os (cw Γ vs) σ' B' H' → tz D σ' H') : tSeq (tFor wi (gUnp K 2 (gCons (gName i) (gCons (gName j) gNil))) tu) tz D σ H :=
  s.forCDuo (D := { D with nx := tz D }) vs h hs k
theorem dd29 {α : Type} [DecidableEq α] [Datum α] {x : α} (y : PyData) (h : Pe K te σ B x) (e : Datum.toD x = y) : Pe K te σ B (DD.mk y) := e ▸ h
end
/-! what is made -/
def vals29 (fig : Int) (lab : Str) (od cp rs : PyData) : List ExV := [⟨0, .int fig⟩, ⟨1, .int fig⟩, ⟨2, .str lab⟩, ⟨3, od⟩, ⟨4, .none⟩, ⟨5, .none⟩, ⟨6, .str lab⟩, ⟨7, cp⟩, ⟨8, .int (fig - 9)⟩, ⟨9, .int (fig - 9)⟩, ⟨10, rs⟩, ⟨11, .none⟩, ⟨12, .int fig⟩, ⟨13, .str lab⟩, ⟨14, cp⟩, ⟨15, cp⟩, ⟨16, .none⟩, ⟨17, .int fig⟩]
theorem vals_k {fig : Int} {lab : Str} {od cp rs : PyData} : (vals29 fig lab od cp rs).map ExV.k = List.range 18 := rfl
theorem vals_at {fig : Int} {lab : Str} {od cp rs : PyData} {i : Nat} {x : ExV} (h : (vals29 fig lab od cp rs)[i]? = some x) : x.k = i ∧ i < 18 := by
  have h2 : ((vals29 fig lab od cp rs).map ExV.k)[i]? = some x.k := by rw [List.getElem?_map, h]; rfl
  rw [vals_k] at h2
  have hi : i < 18 := by
    have := (List.getElem?_eq_some_iff.mp h2).1
    simpa using this
  rw [List.getElem?_range hi] at h2
  exact ⟨(Option.some.inj h2).symm, hi⟩
def kd29 (k : Nat) : List Bool := (List.range 18).map fun i => decide (i = k)
def un29 (k : Nat) : List Bool := (List.range 4).map fun i => decide (i = bs29 k)
theorem bs_tab : ∀ i : Nat, i < 18 → bs29 i = if i < 6 then 0 else if i < 10 then 1 else if i < 17 then 2 else 3 := by decide +kernel
theorem kd_eq : ∀ i : Nat, i < 18 → (rangeI 0 18).map (fun o => decide (o = (i : Int))) = kd29 i := by decide +kernel
theorem un_eq : ∀ i : Nat, i < 18 → (rangeI 0 4).map (fun o => decide (o = (bs29 i : Int))) = un29 i := by decide +kernel
section
variable {K : PySem.W.Frag}
abbrev sp_Lkinds (K : PySem.W.Frag) : Sp := Fn1 K (fun x : ExV => x.k < 18) fun x => kd29 x.k
abbrev sp_Lunder (K : PySem.W.Frag) : Sp := Fn1 K (fun x : ExV => x.k < 18) fun x => un29 x.k
def N_Lkinds : List Str := ["_law_it", "_law_found"]
def t_Lkinds (K : PySem.W.Frag) (Ce : ok29 K = true) : TS :=
  (tSeq (tAsg (tLst (tCons (tCB (rIsX K) (tCons (tVar 0) (tCons (tC (.ref (He.ga K "BadText"))) tNil))) (tCons (tCB (rIsX K) (tCons (tVar 0) (tCons (tC (.ref (He.ga K "BadRow"))) tNil))) (tCons (tCB (rIsX K) (tCons (tVar 0) (tCons (tC (.ref (He.ga K "SameSwitch"))) tNil))) (tCons (tCB (rIsX K) (tCons (tVar 0) (tCons (tC (.ref (He.ga K "BadName"))) tNil))) tNil))))) (gName 1))
    (tSeq (tAsg (tOp (rAddU K) (tVar 1) (tLst (tCons (tCB (rIsX K) (tCons (tVar 0) (tCons (tC (.ref (He.ga K "NoEffect"))) tNil))) (tCons (tCB (rIsX K) (tCons (tVar 0) (tCons (tC (.ref (He.ga K "NotConnected"))) tNil))) (tCons (tCB (rIsX K) (tCons (tVar 0) (tCons (tC (.ref (He.ga K "NoSwitch"))) tNil))) tNil))))) (gName 1))
    (tSeq (tAsg (tOp (rAddU K) (tVar 1) (tLst (tCons (tCB (rIsX K) (tCons (tVar 0) (tCons (tC (.ref (He.ga K "NoPair"))) tNil))) (tCons (tCB (rIsX K) (tCons (tVar 0) (tCons (tC (.ref (He.ga K "NoState"))) tNil))) (tCons (tCB (rIsX K) (tCons (tVar 0) (tCons (tC (.ref (He.ga K "NoDeed"))) tNil))) (tCons (tCB (rIsX K) (tCons (tVar 0) (tCons (tC (.ref (He.ga K "Barred"))) tNil))) tNil)))))) (gName 1))
    (tSeq (tAsg (tOp (rAddU K) (tVar 1) (tLst (tCons (tCB (rIsX K) (tCons (tVar 0) (tCons (tC (.ref (He.ga K "NoOrder"))) tNil))) (tCons (tCB (rIsX K) (tCons (tVar 0) (tCons (tC (.ref (He.ga K "NoPress"))) tNil))) (tCons (tCB (rIsX K) (tCons (tVar 0) (tCons (tC (.ref (He.ga K "Taken"))) tNil))) (tCons (tCB (rIsX K) (tCons (tVar 0) (tCons (tC (.ref (He.ga K "Known"))) tNil))) tNil)))))) (gName 1))
    (tRet (tOp (rAddU K) (tVar 1) (tLst (tCons (tCB (rIsX K) (tCons (tVar 0) (tCons (tC (.ref (He.ga K "BothOn"))) tNil))) (tCons (tCB (rIsX K) (tCons (tVar 0) (tCons (tC (.ref (He.ga K "LastSwitch"))) tNil))) (tCons (tCB (rIsX K) (tCons (tVar 0) (tCons (tC (.ref (He.ga K "TooMany"))) tNil))) tNil))))))))))
def N_Lunder : List Str := ["_law_it", "_law_found"]
def t_Lunder (K : PySem.W.Frag) (Ce : ok29 K = true) : TS :=
  (tSeq (tIfS (tB (tCB (rIsXT K) (tCons (tVar 0) (tCons (tTup (tCons (tC (.ty "IndexError")) (tCons (tC (.ty "KeyError")) (tCons (tC (.ty "NotImplementedError")) tNil)))) tNil)))) (tRet (tC .non)) tNext)
    (tSeq (tAsg (tLst (tCons (tCB (rIsX K) (tCons (tVar 0) (tCons (tC (.ty "ValueError")) tNil))) (tCons (tCB (rIsX K) (tCons (tVar 0) (tCons (tC (.ty "LookupError")) tNil))) tNil))) (gName 1))
    (tRet (tOp (rAddU K) (tVar 1) (tLst (tCons (tCB (rIsX K) (tCons (tVar 0) (tCons (tC (.ty "RuntimeError")) tNil))) (tCons (tCB (rIsX K) (tCons (tVar 0) (tCons (tC (.ty "OverflowError")) tNil))) tNil)))))))
theorem l_Lkinds (vs : List V) (H : Hp) (Q : VK) (E : XK) (h : sp_Lkinds K vs H Q E) : vs.length = 1 := Fn1.len vs H Q E h
theorem l_Lunder (vs : List V) (H : Hp) (Q : VK) (E : XK) (h : sp_Lunder K vs H Q E) : vs.length = 1 := Fn1.len vs H Q E h
theorem r_Lkinds {Ce : ok29 K = true} (vs : List V) (H : Hp) (Q : VK) (E : XK) (h : sp_Lkinds K vs H Q E) : t_Lkinds K Ce (Ends.ret Q) (start N_Lkinds vs) H := by
  obtain ⟨x, B, hx, s, q⟩ := Fn1.st (E := E) h N_Lkinds
  replace s : St K [] B H [] [ce x, none] _ B H := s
  refine s.set (e_lstW (PaW.cons (e_isX Ce hx 0 "BadText" (by decide) rfl (s.v (x := x) 0 rfl)) (PaW.cons (e_isX Ce hx 1 "BadRow" (by decide) rfl (s.v (x := x) 0 rfl)) (PaW.cons (e_isX Ce hx 2 "SameSwitch" (by decide) rfl (s.v (x := x) 0 rfl)) (PaW.cons (e_isX Ce hx 3 "BadName" (by decide) rfl (s.v (x := x) 0 rfl)) PaW.nil)))) (by simp)) fun σ1 B1 H1 s1 => ?_
  replace s1 : St K [] B H [] [ce x, ce (([decide (0 = x.k), decide (1 = x.k), decide (2 = x.k), decide (3 = x.k)] : List Bool))] σ1 B1 H1 := s1
  refine s1.set (e_addL (s1.v (x := ([decide (0 = x.k), decide (1 = x.k), decide (2 = x.k), decide (3 = x.k)] : List Bool)) 1 rfl) (e_lstW (PaW.cons (e_isX Ce hx 4 "NoEffect" (by decide) rfl (s1.v (x := x) 0 rfl)) (PaW.cons (e_isX Ce hx 5 "NotConnected" (by decide) rfl (s1.v (x := x) 0 rfl)) (PaW.cons (e_isX Ce hx 6 "NoSwitch" (by decide) rfl (s1.v (x := x) 0 rfl)) PaW.nil))) (by simp)) (by simp)) fun σ2 B2 H2 s2 => ?_
  replace s2 : St K [] B H [] [ce x, ce ((([decide (0 = x.k), decide (1 = x.k), decide (2 = x.k), decide (3 = x.k)] : List Bool) ++ [decide (4 = x.k), decide (5 = x.k), decide (6 = x.k)]))] σ2 B2 H2 := s2
  refine s2.set (e_addL (s2.v (x := (([decide (0 = x.k), decide (1 = x.k), decide (2 = x.k), decide (3 = x.k)] : List Bool) ++ [decide (4 = x.k), decide (5 = x.k), decide (6 = x.k)])) 1 rfl) (e_lstW (PaW.cons (e_isX Ce hx 7 "NoPair" (by decide) rfl (s2.v (x := x) 0 rfl)) (PaW.cons (e_isX Ce hx 8 "NoState" (by decide) rfl (s2.v (x := x) 0 rfl)) (PaW.cons (e_isX Ce hx 9 "NoDeed" (by decide) rfl (s2.v (x := x) 0 rfl)) (PaW.cons (e_isX Ce hx 10 "Barred" (by decide) rfl (s2.v (x := x) 0 rfl)) PaW.nil)))) (by simp)) (by simp)) fun σ3 B3 H3 s3 => ?_
  replace s3 : St K [] B H [] [ce x, ce (((([decide (0 = x.k), decide (1 = x.k), decide (2 = x.k), decide (3 = x.k)] : List Bool) ++ [decide (4 = x.k), decide (5 = x.k), decide (6 = x.k)]) ++ [decide (7 = x.k), decide (8 = x.k), decide (9 = x.k), decide (10 = x.k)]))] σ3 B3 H3 := s3
  refine s3.set (e_addL (s3.v (x := ((([decide (0 = x.k), decide (1 = x.k), decide (2 = x.k), decide (3 = x.k)] : List Bool) ++ [decide (4 = x.k), decide (5 = x.k), decide (6 = x.k)]) ++ [decide (7 = x.k), decide (8 = x.k), decide (9 = x.k), decide (10 = x.k)])) 1 rfl) (e_lstW (PaW.cons (e_isX Ce hx 11 "NoOrder" (by decide) rfl (s3.v (x := x) 0 rfl)) (PaW.cons (e_isX Ce hx 12 "NoPress" (by decide) rfl (s3.v (x := x) 0 rfl)) (PaW.cons (e_isX Ce hx 13 "Taken" (by decide) rfl (s3.v (x := x) 0 rfl)) (PaW.cons (e_isX Ce hx 14 "Known" (by decide) rfl (s3.v (x := x) 0 rfl)) PaW.nil)))) (by simp)) (by simp)) fun σ4 B4 H4 s4 => ?_
  replace s4 : St K [] B H [] [ce x, ce ((((([decide (0 = x.k), decide (1 = x.k), decide (2 = x.k), decide (3 = x.k)] : List Bool) ++ [decide (4 = x.k), decide (5 = x.k), decide (6 = x.k)]) ++ [decide (7 = x.k), decide (8 = x.k), decide (9 = x.k), decide (10 = x.k)]) ++ [decide (11 = x.k), decide (12 = x.k), decide (13 = x.k), decide (14 = x.k)]))] σ4 B4 H4 := s4
  exact s4.ret (x := kd29 x.k) ((e_addL (s4.v (x := (((([decide (0 = x.k), decide (1 = x.k), decide (2 = x.k), decide (3 = x.k)] : List Bool) ++ [decide (4 = x.k), decide (5 = x.k), decide (6 = x.k)]) ++ [decide (7 = x.k), decide (8 = x.k), decide (9 = x.k), decide (10 = x.k)]) ++ [decide (11 = x.k), decide (12 = x.k), decide (13 = x.k), decide (14 = x.k)])) 1 rfl) (e_lstW (PaW.cons (e_isX Ce hx 15 "BothOn" (by decide) rfl (s4.v (x := x) 0 rfl)) (PaW.cons (e_isX Ce hx 16 "LastSwitch" (by decide) rfl (s4.v (x := x) 0 rfl)) (PaW.cons (e_isX Ce hx 17 "TooMany" (by decide) rfl (s4.v (x := x) 0 rfl)) PaW.nil))) (by simp)) (by simp)).is rfl) fun v B5 H5 s5 hv => q v B5 H5 s5.toUp hv
theorem r_Lunder {Ce : ok29 K = true} (vs : List V) (H : Hp) (Q : VK) (E : XK) (h : sp_Lunder K vs H Q E) : t_Lunder K Ce (Ends.ret Q) (start N_Lunder vs) H := by
  obtain ⟨x, B, hx, s, q⟩ := Fn1.st (E := E) h N_Lunder
  replace s : St K [] B H [] [ce x, none] _ B H := s
  refine s.no (t_B (e_isXT Ce hx (s.v (x := x) 0 rfl))) fun B0 H0 s0 => ?_
  refine s0.set (e_lstW (PaW.cons (e_isXB Ce hx 0 "ValueError" (by decide) rfl (s0.v (x := x) 0 rfl)) (PaW.cons (e_isXB Ce hx 1 "LookupError" (by decide) rfl (s0.v (x := x) 0 rfl)) PaW.nil)) (by simp)) fun σ1 B1 H1 s1 => ?_
  replace s1 : St K [] B H [] [ce x, ce ([decide (0 = bs29 x.k), decide (1 = bs29 x.k)] : List Bool)] σ1 B1 H1 := s1
  exact s1.ret (x := un29 x.k) ((e_addL (s1.v (x := [decide (0 = bs29 x.k), decide (1 = bs29 x.k)]) 1 rfl) (e_lstW (PaW.cons (e_isXB Ce hx 2 "RuntimeError" (by decide) rfl (s1.v (x := x) 0 rfl)) (PaW.cons (e_isXB Ce hx 3 "OverflowError" (by decide) rfl (s1.v (x := x) 0 rfl)) PaW.nil)) (by simp)) (by simp)).is rfl) fun v B5 H5 s5 hv => q v B5 H5 s5.toUp hv
def odd29 : List PyData := [.none, .int 7, .str "A", .tuple [.str "a"], .list [.str "b"], .str ""]
theorem odd_ok : ∀ d ∈ odd29, DOk 4 d := by
  have k1 : ∀ (s : Str), DOk 4 (.tuple [.str s]) := fun s => ⟨by simp, fun x hx => by rw [List.mem_singleton.mp hx]; exact True.intro⟩
  have k2 : ∀ (s : Str), DOk 4 (.list [.str s]) := fun s => ⟨by simp, fun x hx => by rw [List.mem_singleton.mp hx]; exact True.intro⟩
  intro d hd
  simp only [odd29, List.mem_cons, List.not_mem_nil, or_false] at hd
  rcases hd with rfl | rfl | rfl | rfl | rfl | rfl
  · exact True.intro
  · exact True.intro
  · exact True.intro
  · exact k1 _
  · exact k2 _
  · exact True.intro
theorem pair_ok {a b : Str} : DOk 4 (.tuple [.str a, .str b]) := ⟨by simp, fun x hx => by
  simp only [List.mem_cons, List.not_mem_nil, or_false] at hx
  rcases hx with rfl | rfl <;> exact True.intro⟩
def N_Lright : List Str := ["_law_box_here", "_law_label", "_law_figure", "_law_couple", "_law_reason", "_law_odd", "_law_made", "_law_named", "_law_due", "_law_lot", "_law_k", "_law_it", "_law_base", "_law_found", "_law_other"]
def t_Lright (K : PySem.W.Frag) (Ce : ok29 K = true) : TS :=
  (tSeq (tPar 1 2 (tCons (tSl (rSlU K) (tC (.str "abcdef")) (tPart (tCall (sp_Ltake K) [] E0 (tCons (tVar 0) (tCons (tC (.int 6)) tNil)))) tNoPart) (tCons (tCall (sp_Ltake K) [] E0 (tCons (tVar 0) (tCons (tOp (rI CPow fun i j => .int (i ^ j.toNat)) (tC (.int 10)) (tC (.int 6))) tNil))) tNil)))
    (tSeq (tPar 3 4 (tCons (tTup (tCons (tC (.str "a")) (tCons (tOp (rMulTx) (tC (.str "b")) (tOp (rAddU K) (tC (.int 1)) (tCall (sp_Ltake K) [] E0 (tCons (tVar 0) (tCons (tC (.int 6)) tNil))))) tNil))) (tCons (tTup (tCons (tOp (rIxU K) (tLst (tCons (tC (.str "on")) (tCons (tC (.str "off")) tNil))) (tCall (sp_Ltake K) [] E0 (tCons (tVar 0) (tCons (tC (.int 2)) tNil)))) (tCons (tVar 1) tNil))) tNil)))
    (tSeq (tAsg (tOp (rIxU K) (tLst (tCons (tC .non) (tCons (tC (.int 7)) (tCons (tC (.str "A")) (tCons (tTup (tCons (tC (.str "a")) tNil)) (tCons (tLst (tCons (tC (.str "b")) tNil)) (tCons (tC (.str "")) tNil))))))) (tCall (sp_Ltake K) [] E0 (tCons (tVar 0) (tCons (tC (.int 6)) tNil)))) (gName 5))
    (tSeq (tAsg (tLst (tCons (tMkX (He.ga K "BadText") "at" (tCons (tVar 2) tNil)) (tCons (tMkX (He.ga K "BadRow") "number" (tCons (tVar 2) tNil)) (tCons (tMkX (He.ga K "SameSwitch") "switch" (tCons (tVar 1) tNil)) (tCons (tMkX (He.ga K "BadName") "name" (tCons (tVar 5) tNil)) (tCons (tMkX0 (He.ga K "NoEffect")) (tCons (tMkX0 (He.ga K "NotConnected")) tNil))))))) (gName 6))
    (tSeq (tAsg (tOp (rAddU K) (tVar 6) (tLst (tCons (tMkX (He.ga K "NoSwitch") "switch" (tCons (tVar 1) tNil)) (tCons (tMkX (He.ga K "NoPair") "pair" (tCons (tVar 3) tNil)) (tCons (tMkX (He.ga K "NoState") "number" (tCons (tOp (rI0 fun i j => .int (i - j)) (tVar 2) (tC (.int 9))) tNil)) (tCons (tMkX (He.ga K "NoDeed") "many" (tCons (tOp (rI0 fun i j => .int (i - j)) (tVar 2) (tC (.int 9))) tNil)) (tCons (tMkX (He.ga K "Barred") "obstacle" (tCons (tVar 4) tNil)) (tCons (tMkX0 (He.ga K "NoOrder")) tNil)))))))) (gName 6))
    (tSeq (tAsg (tOp (rAddU K) (tVar 6) (tLst (tCons (tMkX (He.ga K "NoPress") "at" (tCons (tVar 2) tNil)) (tCons (tMkX (He.ga K "Taken") "switch" (tCons (tVar 1) tNil)) (tCons (tMkX (He.ga K "Known") "pair" (tCons (tVar 3) tNil)) (tCons (tMkX (He.ga K "BothOn") "pair" (tCons (tVar 3) tNil)) (tCons (tMkX0 (He.ga K "LastSwitch")) (tCons (tMkX (He.ga K "TooMany") "many" (tCons (tVar 2) tNil)) tNil)))))))) (gName 6))
    (tSeq (tAsg (tLst (tCons (tMkX (He.ga K "BadText") "at" (tCons (tVar 2) tNil)) (tCons (tMkX (He.ga K "BadRow") "number" (tCons (tVar 2) tNil)) (tCons (tMkX (He.ga K "SameSwitch") "switch" (tCons (tVar 1) tNil)) (tCons (tMkX (He.ga K "BadName") "name" (tCons (tVar 5) tNil)) (tCons (tMkX0 (He.ga K "NoEffect")) tNil)))))) (gName 7))
    (tSeq (tAsg (tOp (rAddU K) (tVar 7) (tLst (tCons (tMkX0 (He.ga K "NotConnected")) (tCons (tMkX (He.ga K "NoSwitch") "switch" (tCons (tVar 1) tNil)) (tCons (tMkX (He.ga K "NoPair") "pair" (tCons (tVar 3) tNil)) (tCons (tMkX (He.ga K "NoState") "number" (tCons (tOp (rI0 fun i j => .int (i - j)) (tVar 2) (tC (.int 9))) tNil)) tNil)))))) (gName 7))
    (tSeq (tAsg (tOp (rAddU K) (tVar 7) (tLst (tCons (tMkX (He.ga K "NoDeed") "many" (tCons (tOp (rI0 fun i j => .int (i - j)) (tVar 2) (tC (.int 9))) tNil)) (tCons (tMkX (He.ga K "Barred") "obstacle" (tCons (tVar 4) tNil)) (tCons (tMkX0 (He.ga K "NoOrder")) (tCons (tMkX (He.ga K "NoPress") "at" (tCons (tVar 2) tNil)) tNil)))))) (gName 7))
    (tSeq (tAsg (tOp (rAddU K) (tVar 7) (tLst (tCons (tMkX (He.ga K "Taken") "switch" (tCons (tVar 1) tNil)) (tCons (tMkX (He.ga K "Known") "pair" (tCons (tVar 3) tNil)) (tCons (tMkX (He.ga K "BothOn") "pair" (tCons (tVar 3) tNil)) (tCons (tMkX0 (He.ga K "LastSwitch")) (tCons (tMkX (He.ga K "TooMany") "many" (tCons (tVar 2) tNil)) tNil))))))) (gName 7))
    (tSeq (tAsg (tLst (tCons (tVar 2) (tCons (tVar 2) (tCons (tVar 1) (tCons (tVar 5) (tCons (tVar 1) (tCons (tVar 3) (tCons (tOp (rI0 fun i j => .int (i - j)) (tVar 2) (tC (.int 9))) (tCons (tOp (rI0 fun i j => .int (i - j)) (tVar 2) (tC (.int 9))) (tCons (tVar 4) (tCons (tVar 2) tNil))))))))))) (gName 8))
    (tSeq (tAsg (tOp (rAddU K) (tVar 8) (tLst (tCons (tVar 1) (tCons (tVar 3) (tCons (tVar 3) (tCons (tVar 2) tNil)))))) (gName 8))
    (tSeq (tFor (iSeq K (tTup (tCons (tVar 6) (tCons (tVar 7) tNil)))) (gName 9) (tSeq (tFor (iEnum K (tCons (tVar 9) tNil)) (gUnp K 2 (gCons (gName 10) (gCons (gName 11) gNil))) (tSeq (tAsg (tIf (tTest (tOp (rLtU K) (tVar 10) (tC (.int 6)))) (tC (.int 0)) (tIf (tTest (tOp (rLtU K) (tVar 10) (tC (.int 10)))) (tC (.int 1)) (tIf (tTest (tOp (rLtU K) (tVar 10) (tC (.int 17)))) (tC (.int 2)) (tC (.int 3))))) (gName 12))
    (tSeq (tIfS (tTest (tOp (rNeP K) (tCall (sp_Lkinds K) [] E0 (tCons (tVar 11) tNil)) (tLc (iRng1 (tCons (tC (.int 18)) tNil)) (gName 14) tYes (tOp (rEqP K) (tVar 14) (tVar 10)) [14]))) (tRet (tC (.bl false))) tNext)
    (tIfS (tTest (tOp (rNeP K) (tCall (sp_Lunder K) [] E0 (tCons (tVar 11) tNil)) (tLc (iRng1 (tCons (tC (.int 4)) tNil)) (gName 14) tYes (tOp (rEqP K) (tVar 14) (tVar 12)) [14]))) (tRet (tC (.bl false))) tNext))))
    (tSeq (tAsg (tLst (tCons (tFldX (He.ga K "BadText") "at" (tOp (rIxU K) (tVar 9) (tC (.int 0)))) (tCons (tFldX (He.ga K "BadRow") "number" (tOp (rIxU K) (tVar 9) (tC (.int 1)))) (tCons (tFldX (He.ga K "SameSwitch") "switch" (tOp (rIxU K) (tVar 9) (tC (.int 2)))) (tCons (tFldX (He.ga K "BadName") "name" (tOp (rIxU K) (tVar 9) (tC (.int 3)))) (tCons (tFldX (He.ga K "NoSwitch") "switch" (tOp (rIxU K) (tVar 9) (tC (.int 6)))) (tCons (tFldX (He.ga K "NoPair") "pair" (tOp (rIxU K) (tVar 9) (tC (.int 7)))) (tCons (tFldX (He.ga K "NoState") "number" (tOp (rIxU K) (tVar 9) (tC (.int 8)))) tNil)))))))) (gName 13))
    (tSeq (tAsg (tOp (rAddU K) (tVar 13) (tLst (tCons (tFldX (He.ga K "NoDeed") "many" (tOp (rIxU K) (tVar 9) (tC (.int 9)))) (tCons (tFldX (He.ga K "Barred") "obstacle" (tOp (rIxU K) (tVar 9) (tC (.int 10)))) (tCons (tFldX (He.ga K "NoPress") "at" (tOp (rIxU K) (tVar 9) (tC (.int 12)))) (tCons (tFldX (He.ga K "Taken") "switch" (tOp (rIxU K) (tVar 9) (tC (.int 13)))) (tCons (tFldX (He.ga K "Known") "pair" (tOp (rIxU K) (tVar 9) (tC (.int 14)))) (tCons (tFldX (He.ga K "BothOn") "pair" (tOp (rIxU K) (tVar 9) (tC (.int 15)))) tNil)))))))) (gName 13))
    (tIfS (tNot (tB (tCall (sp_Lsame K) [] E0 (tCons (tOp (rAddU K) (tVar 13) (tLst (tCons (tFldX (He.ga K "TooMany") "many" (tOp (rIxU K) (tVar 9) (tC (.int 17)))) tNil))) (tCons (tVar 8) tNil))))) (tRet (tC (.bl false))) tNext)))))
    (tRet (tC (.bl true))))))))))))))))
theorem r_Lright {Ce : ok29 K = true} (vs : List V) (H : Hp) (Q : VK) (E : XK) (h : sp_Lright K vs H Q E) : t_Lright K Ce (Ends.ret Q) (start N_Lright vs) H := by
  obtain ⟨b, B, s, q⟩ := RightP.st h N_Lright
  replace s : St K [b] B H [boxC b 0] [ca b, none, none, none, none, none, none, none, none, none, none, none, none, none, none] _ B H := s
  refine s.parB (n := 1) (m := 1) (R1 := fun _ : Str => True) (R2 := fun _ : Int => True) (b_lift (fun te => tSl (rSlU K) (tC (.str "abcdef")) (tPart te) tNoPart) (x_take rfl s.sl (e_int (i := 6)) (by decide) (by decide)) fun k _ v B' b' hv => ⟨_, trivial, e_slS29 (e_str (i := "abcdef")) (o_some (K := K) (e_const hv)) o_none (by show 6 ≤ 1000000; decide)⟩)
    ((x_take rfl s.sl ((e_powI (i := 10) (j := 6) e_int e_int ⟨by decide, by decide, by decide⟩).is (y := 1000000) (by decide)) (by decide) (by decide)).imp fun _ _ => trivial) (by decide) (by decide) fun lab fig _ _ σ1 B1 H1 s1 => ?_
  replace s1 : St K [b] B H [boxC b 2] [ca b, ce lab, ce fig, none, none, none, none, none, none, none, none, none, none, none, none] σ1 B1 H1 := s1
  refine s1.parB (n := 1) (m := 1) (R1 := fun d : DD => DOk 4 d.d) (R2 := fun d : DD => DOk 4 d.d) (b_lift (fun te => tTup (tCons (tC (.str "a")) (tCons (tOp rMulTx (tC (.str "b")) (tOp (rAddU K) (tC (.int 1)) te)) tNil))) (x_take rfl s1.sl (e_int (i := 6)) (by decide) (by decide)) fun k hk v B' b' hv => ⟨_, pair_ok, e_tupD (pad_cons (dd29 (.str "a") (e_str (i := "a")) rfl) fun B2 b2 => pad_cons (dd29 (.str (Txt.mul "b" (1 + k))) (e_mulTx (e_str (i := "b")) (e_addI (e_int (i := 1)) (e_const (Rep.mono b2 hv))) (by decide) (by omega) (by omega)) rfl) fun _ _ => pad_nil) (by simp)⟩)
    (b_lift (fun te => tTup (tCons te (tCons (tVar 1) tNil))) (b_ixSq29 (xs := (["on", "off"] : List Str)) ((e_lstW (PaW.cons (e_str (i := "on")) (PaW.cons (e_str (i := "off")) PaW.nil)) (by simp)).imp sq_list) (x_take rfl s1.sl (e_int (i := 2)) (by decide) (by decide))) fun z _ v B' b' hv => ⟨_, pair_ok, e_tupD (pad_cons (dd29 (.str z) (e_const hv) rfl) fun B2 b2 => pad_cons (dd29 (.str lab) ((s1.v (x := lab) 1 rfl).mono (b'.trans b2)) rfl) fun _ _ => pad_nil) (by simp)⟩) (by decide) (by decide) fun cp0 rs0 hcp hrs σ2 B2 H2 s2 => ?_
  obtain ⟨cp⟩ := cp0
  obtain ⟨rs⟩ := rs0
  replace s2 : St K [b] B H [boxC b 4] [ca b, ce lab, ce fig, ce (DD.mk cp), ce (DD.mk rs), none, none, none, none, none, none, none, none, none, none] σ2 B2 H2 := s2
  refine s2.setB (n := 1) (b_ixSq29 (xs := odd29.map DD.mk) ((e_lstD (ds := odd29) (pad_cons (dd29 .none e_non rfl) fun _ _ => pad_cons (dd29 (.int 7) (e_int (i := 7)) rfl) fun _ _ => pad_cons (dd29 (.str "A") (e_str (i := "A")) rfl) fun _ _ => pad_cons (e_tupD (pad_cons (dd29 (.str "a") (e_str (i := "a")) rfl) fun _ _ => pad_nil) (by simp)) fun _ _ => pad_cons (e_lstD (pad_cons (dd29 (.str "b") (e_str (i := "b")) rfl) fun _ _ => pad_nil) (by simp)) fun _ _ => pad_cons (dd29 (.str "") (e_str (i := "")) rfl) fun _ _ => pad_nil) (by show 6 ≤ _; decide)).imp ddL_sq) ((x_take rfl s2.sl (e_int (i := 6)) (by decide) (by decide)).imp fun k hk => hk)) (by decide) fun od0 hod σ3 B3 H3 s3 => ?_
  obtain ⟨od, hodm, rfl⟩ := List.mem_map.mp hod
  have hdo : DOk 4 od := odd_ok od hodm
  have hcp' : DOk 4 cp := hcp
  have hrs' : DOk 4 rs := hrs
  replace s3 : St K [b] B H [boxC b 5] [ca b, ce lab, ce fig, ce (DD.mk cp), ce (DD.mk rs), ce (DD.mk od), none, none, none, none, none, none, none, none, none] σ3 B3 H3 := s3
  refine s3.set (e_lstX (pax_cons (x := ExV.mk 0 (.int fig)) (e_mkX 0 "BadText" "at" rfl rfl (dd29 (.int fig) ((s3.v (x := fig) 2 rfl).mono (Ex.refl _)) rfl)) fun _ x0 => (pax_cons (x := ExV.mk 1 (.int fig)) (e_mkX 1 "BadRow" "number" rfl rfl (dd29 (.int fig) ((s3.v (x := fig) 2 rfl).mono x0) rfl)) fun _ x1 => (pax_cons (x := ExV.mk 2 (.str lab)) (e_mkX 2 "SameSwitch" "switch" rfl rfl (dd29 (.str lab) ((s3.v (x := lab) 1 rfl).mono (x0.trans x1)) rfl)) fun _ x2 => (pax_cons (x := ExV.mk 3 (od)) (e_mkX 3 "BadName" "name" rfl rfl ((s3.v (x := DD.mk od) 5 rfl).mono ((x0.trans x1).trans x2))) fun _ x3 => (pax_cons (x := ExV.mk 4 (.none)) (e_mkX0 (d := .none) 4 "NoEffect" rfl rfl) fun _ x4 => (pax_cons (x := ExV.mk 5 (.none)) (e_mkX0 (d := .none) 5 "NotConnected" rfl rfl) fun _ x5 => pax_nil)))))) (by simp)) fun σ4 B4 H4 s4 => ?_
  replace s4 : St K [b] B H [boxC b 5] [ca b, ce lab, ce fig, ce (DD.mk cp), ce (DD.mk rs), ce (DD.mk od), ce (LL.mk ([⟨0, .int fig⟩, ⟨1, .int fig⟩, ⟨2, .str lab⟩, ⟨3, od⟩, ⟨4, .none⟩, ⟨5, .none⟩] : List ExV)), none, none, none, none, none, none, none, none] σ4 B4 H4 := s4
  refine s4.set (e_addX (s4.v (x := LL.mk (([⟨0, .int fig⟩, ⟨1, .int fig⟩, ⟨2, .str lab⟩, ⟨3, od⟩, ⟨4, .none⟩, ⟨5, .none⟩] : List ExV))) 6 rfl) (e_lstX (pax_cons (x := ExV.mk 6 (.str lab)) (e_mkX 6 "NoSwitch" "switch" rfl rfl (dd29 (.str lab) ((s4.v (x := lab) 1 rfl).mono (Ex.refl _)) rfl)) fun _ x6 => (pax_cons (x := ExV.mk 7 (cp)) (e_mkX 7 "NoPair" "pair" rfl rfl ((s4.v (x := DD.mk cp) 3 rfl).mono x6)) fun _ x7 => (pax_cons (x := ExV.mk 8 (.int (fig - 9))) (e_mkX 8 "NoState" "number" rfl rfl (dd29 (.int (fig - 9)) (e_subI ((s4.v (x := fig) 2 rfl).mono (x6.trans x7)) e_int) rfl)) fun _ x8 => (pax_cons (x := ExV.mk 9 (.int (fig - 9))) (e_mkX 9 "NoDeed" "many" rfl rfl (dd29 (.int (fig - 9)) (e_subI ((s4.v (x := fig) 2 rfl).mono ((x6.trans x7).trans x8)) e_int) rfl)) fun _ x9 => (pax_cons (x := ExV.mk 10 (rs)) (e_mkX 10 "Barred" "obstacle" rfl rfl ((s4.v (x := DD.mk rs) 4 rfl).mono (((x6.trans x7).trans x8).trans x9))) fun _ x10 => (pax_cons (x := ExV.mk 11 (.none)) (e_mkX0 (d := .none) 11 "NoOrder" rfl rfl) fun _ x11 => pax_nil)))))) (by simp)) (by simp)) fun σ5 B5 H5 s5 => ?_
  replace s5 : St K [b] B H [boxC b 5] [ca b, ce lab, ce fig, ce (DD.mk cp), ce (DD.mk rs), ce (DD.mk od), ce (LL.mk (([⟨0, .int fig⟩, ⟨1, .int fig⟩, ⟨2, .str lab⟩, ⟨3, od⟩, ⟨4, .none⟩, ⟨5, .none⟩] : List ExV) ++ [⟨6, .str lab⟩, ⟨7, cp⟩, ⟨8, .int (fig - 9)⟩, ⟨9, .int (fig - 9)⟩, ⟨10, rs⟩, ⟨11, .none⟩])), none, none, none, none, none, none, none, none] σ5 B5 H5 := s5
  refine s5.set (e_addX (s5.v (x := LL.mk ((([⟨0, .int fig⟩, ⟨1, .int fig⟩, ⟨2, .str lab⟩, ⟨3, od⟩, ⟨4, .none⟩, ⟨5, .none⟩] : List ExV) ++ [⟨6, .str lab⟩, ⟨7, cp⟩, ⟨8, .int (fig - 9)⟩, ⟨9, .int (fig - 9)⟩, ⟨10, rs⟩, ⟨11, .none⟩]))) 6 rfl) (e_lstX (pax_cons (x := ExV.mk 12 (.int fig)) (e_mkX 12 "NoPress" "at" rfl rfl (dd29 (.int fig) ((s5.v (x := fig) 2 rfl).mono (Ex.refl _)) rfl)) fun _ x12 => (pax_cons (x := ExV.mk 13 (.str lab)) (e_mkX 13 "Taken" "switch" rfl rfl (dd29 (.str lab) ((s5.v (x := lab) 1 rfl).mono x12) rfl)) fun _ x13 => (pax_cons (x := ExV.mk 14 (cp)) (e_mkX 14 "Known" "pair" rfl rfl ((s5.v (x := DD.mk cp) 3 rfl).mono (x12.trans x13))) fun _ x14 => (pax_cons (x := ExV.mk 15 (cp)) (e_mkX 15 "BothOn" "pair" rfl rfl ((s5.v (x := DD.mk cp) 3 rfl).mono ((x12.trans x13).trans x14))) fun _ x15 => (pax_cons (x := ExV.mk 16 (.none)) (e_mkX0 (d := .none) 16 "LastSwitch" rfl rfl) fun _ x16 => (pax_cons (x := ExV.mk 17 (.int fig)) (e_mkX 17 "TooMany" "many" rfl rfl (dd29 (.int fig) ((s5.v (x := fig) 2 rfl).mono ((((x12.trans x13).trans x14).trans x15).trans x16)) rfl)) fun _ x17 => pax_nil)))))) (by simp)) (by simp)) fun σ6 B6 H6 s6 => ?_
  replace s6 : St K [b] B H [boxC b 5] [ca b, ce lab, ce fig, ce (DD.mk cp), ce (DD.mk rs), ce (DD.mk od), ce (LL.mk ((([⟨0, .int fig⟩, ⟨1, .int fig⟩, ⟨2, .str lab⟩, ⟨3, od⟩, ⟨4, .none⟩, ⟨5, .none⟩] : List ExV) ++ [⟨6, .str lab⟩, ⟨7, cp⟩, ⟨8, .int (fig - 9)⟩, ⟨9, .int (fig - 9)⟩, ⟨10, rs⟩, ⟨11, .none⟩]) ++ [⟨12, .int fig⟩, ⟨13, .str lab⟩, ⟨14, cp⟩, ⟨15, cp⟩, ⟨16, .none⟩, ⟨17, .int fig⟩])), none, none, none, none, none, none, none, none] σ6 B6 H6 := s6
  replace s6 : St K [b] B H [boxC b 5] [ca b, ce lab, ce fig, ce (DD.mk cp), ce (DD.mk rs), ce (DD.mk od), ce (LL.mk (vals29 fig lab od cp rs)), none, none, none, none, none, none, none, none] σ6 B6 H6 := s6
  refine s6.set (e_lstX (pax_cons (x := ExV.mk 0 (.int fig)) (e_mkX 0 "BadText" "at" rfl rfl (dd29 (.int fig) ((s6.v (x := fig) 2 rfl).mono (Ex.refl _)) rfl)) fun _ x0 => (pax_cons (x := ExV.mk 1 (.int fig)) (e_mkX 1 "BadRow" "number" rfl rfl (dd29 (.int fig) ((s6.v (x := fig) 2 rfl).mono x0) rfl)) fun _ x1 => (pax_cons (x := ExV.mk 2 (.str lab)) (e_mkX 2 "SameSwitch" "switch" rfl rfl (dd29 (.str lab) ((s6.v (x := lab) 1 rfl).mono (x0.trans x1)) rfl)) fun _ x2 => (pax_cons (x := ExV.mk 3 (od)) (e_mkX 3 "BadName" "name" rfl rfl ((s6.v (x := DD.mk od) 5 rfl).mono ((x0.trans x1).trans x2))) fun _ x3 => (pax_cons (x := ExV.mk 4 (.none)) (e_mkX0 (d := .none) 4 "NoEffect" rfl rfl) fun _ x4 => pax_nil))))) (by simp)) fun σ7 B7 H7 s7 => ?_
  replace s7 : St K [b] B H [boxC b 5] [ca b, ce lab, ce fig, ce (DD.mk cp), ce (DD.mk rs), ce (DD.mk od), ce (LL.mk (vals29 fig lab od cp rs)), ce (LL.mk ([⟨0, .int fig⟩, ⟨1, .int fig⟩, ⟨2, .str lab⟩, ⟨3, od⟩, ⟨4, .none⟩] : List ExV)), none, none, none, none, none, none, none] σ7 B7 H7 := s7
  refine s7.set (e_addX (s7.v (x := LL.mk (([⟨0, .int fig⟩, ⟨1, .int fig⟩, ⟨2, .str lab⟩, ⟨3, od⟩, ⟨4, .none⟩] : List ExV))) 7 rfl) (e_lstX (pax_cons (x := ExV.mk 5 (.none)) (e_mkX0 (d := .none) 5 "NotConnected" rfl rfl) fun _ x5 => (pax_cons (x := ExV.mk 6 (.str lab)) (e_mkX 6 "NoSwitch" "switch" rfl rfl (dd29 (.str lab) ((s7.v (x := lab) 1 rfl).mono x5) rfl)) fun _ x6 => (pax_cons (x := ExV.mk 7 (cp)) (e_mkX 7 "NoPair" "pair" rfl rfl ((s7.v (x := DD.mk cp) 3 rfl).mono (x5.trans x6))) fun _ x7 => (pax_cons (x := ExV.mk 8 (.int (fig - 9))) (e_mkX 8 "NoState" "number" rfl rfl (dd29 (.int (fig - 9)) (e_subI ((s7.v (x := fig) 2 rfl).mono ((x5.trans x6).trans x7)) e_int) rfl)) fun _ x8 => pax_nil)))) (by simp)) (by simp)) fun σ8 B8 H8 s8 => ?_
  replace s8 : St K [b] B H [boxC b 5] [ca b, ce lab, ce fig, ce (DD.mk cp), ce (DD.mk rs), ce (DD.mk od), ce (LL.mk (vals29 fig lab od cp rs)), ce (LL.mk (([⟨0, .int fig⟩, ⟨1, .int fig⟩, ⟨2, .str lab⟩, ⟨3, od⟩, ⟨4, .none⟩] : List ExV) ++ [⟨5, .none⟩, ⟨6, .str lab⟩, ⟨7, cp⟩, ⟨8, .int (fig - 9)⟩])), none, none, none, none, none, none, none] σ8 B8 H8 := s8
  refine s8.set (e_addX (s8.v (x := LL.mk ((([⟨0, .int fig⟩, ⟨1, .int fig⟩, ⟨2, .str lab⟩, ⟨3, od⟩, ⟨4, .none⟩] : List ExV) ++ [⟨5, .none⟩, ⟨6, .str lab⟩, ⟨7, cp⟩, ⟨8, .int (fig - 9)⟩]))) 7 rfl) (e_lstX (pax_cons (x := ExV.mk 9 (.int (fig - 9))) (e_mkX 9 "NoDeed" "many" rfl rfl (dd29 (.int (fig - 9)) (e_subI ((s8.v (x := fig) 2 rfl).mono (Ex.refl _)) e_int) rfl)) fun _ x9 => (pax_cons (x := ExV.mk 10 (rs)) (e_mkX 10 "Barred" "obstacle" rfl rfl ((s8.v (x := DD.mk rs) 4 rfl).mono x9)) fun _ x10 => (pax_cons (x := ExV.mk 11 (.none)) (e_mkX0 (d := .none) 11 "NoOrder" rfl rfl) fun _ x11 => (pax_cons (x := ExV.mk 12 (.int fig)) (e_mkX 12 "NoPress" "at" rfl rfl (dd29 (.int fig) ((s8.v (x := fig) 2 rfl).mono ((x9.trans x10).trans x11)) rfl)) fun _ x12 => pax_nil)))) (by simp)) (by simp)) fun σ9 B9 H9 s9 => ?_
  replace s9 : St K [b] B H [boxC b 5] [ca b, ce lab, ce fig, ce (DD.mk cp), ce (DD.mk rs), ce (DD.mk od), ce (LL.mk (vals29 fig lab od cp rs)), ce (LL.mk ((([⟨0, .int fig⟩, ⟨1, .int fig⟩, ⟨2, .str lab⟩, ⟨3, od⟩, ⟨4, .none⟩] : List ExV) ++ [⟨5, .none⟩, ⟨6, .str lab⟩, ⟨7, cp⟩, ⟨8, .int (fig - 9)⟩]) ++ [⟨9, .int (fig - 9)⟩, ⟨10, rs⟩, ⟨11, .none⟩, ⟨12, .int fig⟩])), none, none, none, none, none, none, none] σ9 B9 H9 := s9
  refine s9.set (e_addX (s9.v (x := LL.mk (((([⟨0, .int fig⟩, ⟨1, .int fig⟩, ⟨2, .str lab⟩, ⟨3, od⟩, ⟨4, .none⟩] : List ExV) ++ [⟨5, .none⟩, ⟨6, .str lab⟩, ⟨7, cp⟩, ⟨8, .int (fig - 9)⟩]) ++ [⟨9, .int (fig - 9)⟩, ⟨10, rs⟩, ⟨11, .none⟩, ⟨12, .int fig⟩]))) 7 rfl) (e_lstX (pax_cons (x := ExV.mk 13 (.str lab)) (e_mkX 13 "Taken" "switch" rfl rfl (dd29 (.str lab) ((s9.v (x := lab) 1 rfl).mono (Ex.refl _)) rfl)) fun _ x13 => (pax_cons (x := ExV.mk 14 (cp)) (e_mkX 14 "Known" "pair" rfl rfl ((s9.v (x := DD.mk cp) 3 rfl).mono x13)) fun _ x14 => (pax_cons (x := ExV.mk 15 (cp)) (e_mkX 15 "BothOn" "pair" rfl rfl ((s9.v (x := DD.mk cp) 3 rfl).mono (x13.trans x14))) fun _ x15 => (pax_cons (x := ExV.mk 16 (.none)) (e_mkX0 (d := .none) 16 "LastSwitch" rfl rfl) fun _ x16 => (pax_cons (x := ExV.mk 17 (.int fig)) (e_mkX 17 "TooMany" "many" rfl rfl (dd29 (.int fig) ((s9.v (x := fig) 2 rfl).mono (((x13.trans x14).trans x15).trans x16)) rfl)) fun _ x17 => pax_nil))))) (by simp)) (by simp)) fun σ10 B10 H10 s10 => ?_
  replace s10 : St K [b] B H [boxC b 5] [ca b, ce lab, ce fig, ce (DD.mk cp), ce (DD.mk rs), ce (DD.mk od), ce (LL.mk (vals29 fig lab od cp rs)), ce (LL.mk (((([⟨0, .int fig⟩, ⟨1, .int fig⟩, ⟨2, .str lab⟩, ⟨3, od⟩, ⟨4, .none⟩] : List ExV) ++ [⟨5, .none⟩, ⟨6, .str lab⟩, ⟨7, cp⟩, ⟨8, .int (fig - 9)⟩]) ++ [⟨9, .int (fig - 9)⟩, ⟨10, rs⟩, ⟨11, .none⟩, ⟨12, .int fig⟩]) ++ [⟨13, .str lab⟩, ⟨14, cp⟩, ⟨15, cp⟩, ⟨16, .none⟩, ⟨17, .int fig⟩])), none, none, none, none, none, none, none] σ10 B10 H10 := s10
  replace s10 : St K [b] B H [boxC b 5] [ca b, ce lab, ce fig, ce (DD.mk cp), ce (DD.mk rs), ce (DD.mk od), ce (LL.mk (vals29 fig lab od cp rs)), ce (LL.mk (vals29 fig lab od cp rs)), none, none, none, none, none, none, none] σ10 B10 H10 := s10
  refine s10.set (e_lstD (pad_cons (d := .int fig) (dd29 (.int fig) ((s10.v (x := fig) 2 rfl).mono (Ex.refl _)) rfl) fun _ x10 => (pad_cons (d := .int fig) (dd29 (.int fig) ((s10.v (x := fig) 2 rfl).mono x10) rfl) fun _ x9 => (pad_cons (d := .str lab) (dd29 (.str lab) ((s10.v (x := lab) 1 rfl).mono (x10.trans x9)) rfl) fun _ x8 => (pad_cons (d := od) ((s10.v (x := DD.mk od) 5 rfl).mono ((x10.trans x9).trans x8)) fun _ x7 => (pad_cons (d := .str lab) (dd29 (.str lab) ((s10.v (x := lab) 1 rfl).mono (((x10.trans x9).trans x8).trans x7)) rfl) fun _ x6 => (pad_cons (d := cp) ((s10.v (x := DD.mk cp) 3 rfl).mono ((((x10.trans x9).trans x8).trans x7).trans x6)) fun _ x5 => (pad_cons (d := .int (fig - 9)) (dd29 (.int (fig - 9)) (e_subI ((s10.v (x := fig) 2 rfl).mono (((((x10.trans x9).trans x8).trans x7).trans x6).trans x5)) e_int) rfl) fun _ x4 => (pad_cons (d := .int (fig - 9)) (dd29 (.int (fig - 9)) (e_subI ((s10.v (x := fig) 2 rfl).mono ((((((x10.trans x9).trans x8).trans x7).trans x6).trans x5).trans x4)) e_int) rfl) fun _ x3 => (pad_cons (d := rs) ((s10.v (x := DD.mk rs) 4 rfl).mono (((((((x10.trans x9).trans x8).trans x7).trans x6).trans x5).trans x4).trans x3)) fun _ x2 => (pad_cons (d := .int fig) (dd29 (.int fig) ((s10.v (x := fig) 2 rfl).mono ((((((((x10.trans x9).trans x8).trans x7).trans x6).trans x5).trans x4).trans x3).trans x2)) rfl) fun _ x1 => pad_nil)))))))))) (by simp)) fun σ11 B11 H11 s11 => ?_
  replace s11 : St K [b] B H [boxC b 5] [ca b, ce lab, ce fig, ce (DD.mk cp), ce (DD.mk rs), ce (DD.mk od), ce (LL.mk (vals29 fig lab od cp rs)), ce (LL.mk (vals29 fig lab od cp rs)), ce (DD.mk (.list [.int fig, .int fig, .str lab, od, .str lab, cp, .int (fig - 9), .int (fig - 9), rs, .int fig])), none, none, none, none, none, none] σ11 B11 H11 := s11
  refine s11.set (e_addD (s11.v (x := DD.mk (.list [.int fig, .int fig, .str lab, od, .str lab, cp, .int (fig - 9), .int (fig - 9), rs, .int fig])) 8 rfl) (e_lstD (pad_cons (d := .str lab) (dd29 (.str lab) ((s11.v (x := lab) 1 rfl).mono (Ex.refl _)) rfl) fun _ x4 => (pad_cons (d := cp) ((s11.v (x := DD.mk cp) 3 rfl).mono x4) fun _ x3 => (pad_cons (d := cp) ((s11.v (x := DD.mk cp) 3 rfl).mono (x4.trans x3)) fun _ x2 => (pad_cons (d := .int fig) (dd29 (.int fig) ((s11.v (x := fig) 2 rfl).mono ((x4.trans x3).trans x2)) rfl) fun _ x1 => pad_nil)))) (by simp)) (by simp)) fun σ12 B12 H12 s12 => ?_
  replace s12 : St K [b] B H [boxC b 5] [ca b, ce lab, ce fig, ce (DD.mk cp), ce (DD.mk rs), ce (DD.mk od), ce (LL.mk (vals29 fig lab od cp rs)), ce (LL.mk (vals29 fig lab od cp rs)), ce (DD.mk (.list [.int fig, .int fig, .str lab, od, .str lab, cp, .int (fig - 9), .int (fig - 9), rs, .int fig, .str lab, cp, cp, .int fig])), none, none, none, none, none, none] σ12 B12 H12 := s12
  refine s12.qforC (α := LL ExV) [9, 10, 11, 12, 13] (it_sq (xs := [LL.mk (vals29 fig lab od cp rs), LL.mk (vals29 fig lab od cp rs)]) (e_tupX (pax_cons (s12.v 6 rfl) fun _ b1 => pax_cons ((s12.v 7 rfl).mono b1) fun _ _ => pax_nil) (by simp))) (fun done x rest ex σ' B' H' N hN s1 => ?_) fun σ' B' H' s1 => ?_
  · have hx : x = LL.mk (vals29 fig lab od cp rs) := by
      have hm : x ∈ [LL.mk (vals29 fig lab od cp rs), LL.mk (vals29 fig lab od cp rs)] := by rw [ex]; simp
      rcases List.mem_cons.mp hm with e | e
      · exact e
      · exact List.mem_singleton.mp e
    subst hx
    replace s1 : St K [b] B H [boxC b 5] [ca b, ce lab, ce fig, ce (DD.mk cp), ce (DD.mk rs), ce (DD.mk od), ce (LL.mk (vals29 fig lab od cp rs)), ce (LL.mk (vals29 fig lab od cp rs)), ce (DD.mk (.list [.int fig, .int fig, .str lab, od, .str lab, cp, .int (fig - 9), .int (fig - 9), rs, .int fig, .str lab, cp, cp, .int fig])), ce (LL.mk (vals29 fig lab od cp rs)), none, none, none, none, none] σ' B' H' := s1
    replace s1 := s1.here
    refine s1.qforCDuo [10, 11, 12] (it_enumLX (s1.v (x := LL.mk (vals29 fig lab od cp rs)) 9 rfl)) (fun done2 y rest2 ex2 σ2' B2' H2' N2 hN2 t1 => ?_) fun σ2' B2' H2' t1 => ?_
    · obtain ⟨i, x, hi, rfl⟩ := enumX_mem (p := y) (xs := vals29 fig lab od cp rs) (by rw [ex2]; simp)
      obtain ⟨hk, i18⟩ := vals_at hi
      have hx18 : x.k < 18 := by rw [hk]; exact i18
      replace t1 : St K [b] B' H' [boxC b 5] [ca b, ce lab, ce fig, ce (DD.mk cp), ce (DD.mk rs), ce (DD.mk od), ce (LL.mk (vals29 fig lab od cp rs)), ce (LL.mk (vals29 fig lab od cp rs)), ce (DD.mk (.list [.int fig, .int fig, .str lab, od, .str lab, cp, .int (fig - 9), .int (fig - 9), rs, .int fig, .str lab, cp, cp, .int fig])), ce (LL.mk (vals29 fig lab od cp rs)), ce (i : Int), ce x, none, none, none] σ2' B2' H2' := t1
      replace t1 := t1.here
      have hb := bs_tab i i18
      refine t1.set (x := (bs29 i : Int)) (e_if (t_test (e_lt (t1.v (x := (i : Int)) 10 rfl) (e_int (i := 6)))) (fun c => e_int.is ?_) fun c1 => e_if (t_test (e_lt (t1.v (x := (i : Int)) 10 rfl) (e_int (i := 10)))) (fun c => e_int.is ?_) fun c2 => e_if (t_test (e_lt (t1.v (x := (i : Int)) 10 rfl) (e_int (i := 17)))) (fun c => e_int.is ?_) fun c3 => e_int.is ?_) fun σ3' B3' H3' t2 => ?_
      · have c' : (i : Int) < 6 := of_decide_eq_true c
        rw [hb, if_pos (by omega)]; rfl
      · have c' : ¬ (i : Int) < 6 := of_decide_eq_false c1
        have c'' : (i : Int) < 10 := of_decide_eq_true c
        rw [hb, if_neg (by omega), if_pos (by omega)]; rfl
      · have c' : ¬ (i : Int) < 10 := of_decide_eq_false c2
        have c'' : (i : Int) < 17 := of_decide_eq_true c
        rw [hb, if_neg (by omega), if_neg (by omega), if_pos (by omega)]; rfl
      · have c' : ¬ (i : Int) < 17 := of_decide_eq_false c3
        rw [hb, if_neg (by omega), if_neg (by omega), if_neg (by omega)]; rfl
      replace t2 : St K [b] B2' H2' [boxC b 5] [ca b, ce lab, ce fig, ce (DD.mk cp), ce (DD.mk rs), ce (DD.mk od), ce (LL.mk (vals29 fig lab od cp rs)), ce (LL.mk (vals29 fig lab od cp rs)), ce (DD.mk (.list [.int fig, .int fig, .str lab, od, .str lab, cp, .int (fig - 9), .int (fig - 9), rs, .int fig, .str lab, cp, cp, .int fig])), ce (LL.mk (vals29 fig lab od cp rs)), ce (i : Int), ce x, ce (bs29 i : Int), none, none] σ3' B3' H3' := t2
      refine t2.no (t_test ((e_ne (e_call1 (x := x) (pre := fun x : ExV => x.k < 18) (f := fun x => kd29 x.k) (t2.v 11 rfl) hx18) (t2.sl.lcA (j := 14) (fun o : Int => decide (o = (i : Int))) (it_rng1 (e_int (i := 18)) (by decide) (by decide)) (by decide) fun o _ σ5 B5 b5 s5 => e_eq (s5.v (x := o) 14 rfl) (s5.v (x := (i : Int)) 10 rfl))).is (ne_false ?_))) fun B4' H4' t3 => ?_
      · rw [hk]
        exact (kd_eq i i18).symm
      refine t3.noL (t_test ((e_ne (e_call1 (x := x) (pre := fun x : ExV => x.k < 18) (f := fun x => un29 x.k) (t3.v 11 rfl) hx18) (t3.sl.lcA (j := 14) (fun o : Int => decide (o = (bs29 i : Int))) (it_rng1 (e_int (i := 4)) (by decide) (by decide)) (by decide) fun o _ σ5 B5 b5 s5 => e_eq (s5.v (x := o) 14 rfl) (s5.v (x := (bs29 i : Int)) 12 rfl))).is (ne_false ?_))) fun B5' H5' t4 => ?_
      · rw [hk]
        exact (un_eq i i18).symm
      exact hN2 t4 rfl
    · replace t1 : St K [b] B' H' [boxC b 5] [ca b, ce lab, ce fig, ce (DD.mk cp), ce (DD.mk rs), ce (DD.mk od), ce (LL.mk (vals29 fig lab od cp rs)), ce (LL.mk (vals29 fig lab od cp rs)), ce (DD.mk (.list [.int fig, .int fig, .str lab, od, .str lab, cp, .int (fig - 9), .int (fig - 9), rs, .int fig, .str lab, cp, cp, .int fig])), ce (LL.mk (vals29 fig lab od cp rs)), none, none, none, none, none] σ2' B2' H2' := t1
      refine t1.set (e_lstD (pad_cons (d := .int fig) (e_fldX (x := ExV.mk 0 (.int fig)) "BadText" "at" rfl rfl (e_ixSq (xs := vals29 fig lab od cp rs) (((t1.v (x := LL.mk (vals29 fig lab od cp rs)) 9 rfl).mono (Ex.refl _)).imp ll_sq) (e_int (i := 0)) rfl)) fun _ x7 => (pad_cons (d := .int fig) (e_fldX (x := ExV.mk 1 (.int fig)) "BadRow" "number" rfl rfl (e_ixSq (xs := vals29 fig lab od cp rs) (((t1.v (x := LL.mk (vals29 fig lab od cp rs)) 9 rfl).mono x7).imp ll_sq) (e_int (i := 1)) rfl)) fun _ x6 => (pad_cons (d := .str lab) (e_fldX (x := ExV.mk 2 (.str lab)) "SameSwitch" "switch" rfl rfl (e_ixSq (xs := vals29 fig lab od cp rs) (((t1.v (x := LL.mk (vals29 fig lab od cp rs)) 9 rfl).mono (x7.trans x6)).imp ll_sq) (e_int (i := 2)) rfl)) fun _ x5 => (pad_cons (d := od) (e_fldX (x := ExV.mk 3 (od)) "BadName" "name" rfl rfl (e_ixSq (xs := vals29 fig lab od cp rs) (((t1.v (x := LL.mk (vals29 fig lab od cp rs)) 9 rfl).mono ((x7.trans x6).trans x5)).imp ll_sq) (e_int (i := 3)) rfl)) fun _ x4 => (pad_cons (d := .str lab) (e_fldX (x := ExV.mk 6 (.str lab)) "NoSwitch" "switch" rfl rfl (e_ixSq (xs := vals29 fig lab od cp rs) (((t1.v (x := LL.mk (vals29 fig lab od cp rs)) 9 rfl).mono (((x7.trans x6).trans x5).trans x4)).imp ll_sq) (e_int (i := 6)) rfl)) fun _ x3 => (pad_cons (d := cp) (e_fldX (x := ExV.mk 7 (cp)) "NoPair" "pair" rfl rfl (e_ixSq (xs := vals29 fig lab od cp rs) (((t1.v (x := LL.mk (vals29 fig lab od cp rs)) 9 rfl).mono ((((x7.trans x6).trans x5).trans x4).trans x3)).imp ll_sq) (e_int (i := 7)) rfl)) fun _ x2 => (pad_cons (d := .int (fig - 9)) (e_fldX (x := ExV.mk 8 (.int (fig - 9))) "NoState" "number" rfl rfl (e_ixSq (xs := vals29 fig lab od cp rs) (((t1.v (x := LL.mk (vals29 fig lab od cp rs)) 9 rfl).mono (((((x7.trans x6).trans x5).trans x4).trans x3).trans x2)).imp ll_sq) (e_int (i := 8)) rfl)) fun _ x1 => pad_nil))))))) (by simp)) fun σ3' B3' H3' t2 => ?_
      replace t2 : St K [b] B' H' [boxC b 5] [ca b, ce lab, ce fig, ce (DD.mk cp), ce (DD.mk rs), ce (DD.mk od), ce (LL.mk (vals29 fig lab od cp rs)), ce (LL.mk (vals29 fig lab od cp rs)), ce (DD.mk (.list [.int fig, .int fig, .str lab, od, .str lab, cp, .int (fig - 9), .int (fig - 9), rs, .int fig, .str lab, cp, cp, .int fig])), ce (LL.mk (vals29 fig lab od cp rs)), none, none, none, ce (DD.mk (.list [.int fig, .int fig, .str lab, od, .str lab, cp, .int (fig - 9)])), none] σ3' B3' H3' := t2
      refine t2.set (e_addD (t2.v (x := DD.mk (.list [.int fig, .int fig, .str lab, od, .str lab, cp, .int (fig - 9)])) 13 rfl) (e_lstD (pad_cons (d := .int (fig - 9)) (e_fldX (x := ExV.mk 9 (.int (fig - 9))) "NoDeed" "many" rfl rfl (e_ixSq (xs := vals29 fig lab od cp rs) (((t2.v (x := LL.mk (vals29 fig lab od cp rs)) 9 rfl).mono (Ex.refl _)).imp ll_sq) (e_int (i := 9)) rfl)) fun _ x6 => (pad_cons (d := rs) (e_fldX (x := ExV.mk 10 (rs)) "Barred" "obstacle" rfl rfl (e_ixSq (xs := vals29 fig lab od cp rs) (((t2.v (x := LL.mk (vals29 fig lab od cp rs)) 9 rfl).mono x6).imp ll_sq) (e_int (i := 10)) rfl)) fun _ x5 => (pad_cons (d := .int fig) (e_fldX (x := ExV.mk 12 (.int fig)) "NoPress" "at" rfl rfl (e_ixSq (xs := vals29 fig lab od cp rs) (((t2.v (x := LL.mk (vals29 fig lab od cp rs)) 9 rfl).mono (x6.trans x5)).imp ll_sq) (e_int (i := 12)) rfl)) fun _ x4 => (pad_cons (d := .str lab) (e_fldX (x := ExV.mk 13 (.str lab)) "Taken" "switch" rfl rfl (e_ixSq (xs := vals29 fig lab od cp rs) (((t2.v (x := LL.mk (vals29 fig lab od cp rs)) 9 rfl).mono ((x6.trans x5).trans x4)).imp ll_sq) (e_int (i := 13)) rfl)) fun _ x3 => (pad_cons (d := cp) (e_fldX (x := ExV.mk 14 (cp)) "Known" "pair" rfl rfl (e_ixSq (xs := vals29 fig lab od cp rs) (((t2.v (x := LL.mk (vals29 fig lab od cp rs)) 9 rfl).mono (((x6.trans x5).trans x4).trans x3)).imp ll_sq) (e_int (i := 14)) rfl)) fun _ x2 => (pad_cons (d := cp) (e_fldX (x := ExV.mk 15 (cp)) "BothOn" "pair" rfl rfl (e_ixSq (xs := vals29 fig lab od cp rs) (((t2.v (x := LL.mk (vals29 fig lab od cp rs)) 9 rfl).mono ((((x6.trans x5).trans x4).trans x3).trans x2)).imp ll_sq) (e_int (i := 15)) rfl)) fun _ x1 => pad_nil)))))) (by simp)) (by simp)) fun σ4' B4' H4' t3 => ?_
      replace t3 : St K [b] B' H' [boxC b 5] [ca b, ce lab, ce fig, ce (DD.mk cp), ce (DD.mk rs), ce (DD.mk od), ce (LL.mk (vals29 fig lab od cp rs)), ce (LL.mk (vals29 fig lab od cp rs)), ce (DD.mk (.list [.int fig, .int fig, .str lab, od, .str lab, cp, .int (fig - 9), .int (fig - 9), rs, .int fig, .str lab, cp, cp, .int fig])), ce (LL.mk (vals29 fig lab od cp rs)), none, none, none, ce (DD.mk (.list [.int fig, .int fig, .str lab, od, .str lab, cp, .int (fig - 9), .int (fig - 9), rs, .int fig, .str lab, cp, cp])), none] σ4' B4' H4' := t3
      have hdue : DOk 5 (.list [.int fig, .int fig, .str lab, od, .str lab, cp, .int (fig - 9), .int (fig - 9), rs, .int fig, .str lab, cp, cp, .int fig]) := ⟨by simp, fun z hz => by
        simp only [List.mem_cons, List.not_mem_nil, or_false] at hz
        rcases hz with rfl | rfl | rfl | rfl | rfl | rfl | rfl | rfl | rfl | rfl | rfl | rfl | rfl | rfl <;> first | exact True.intro | assumption⟩
      refine t3.noL ((t_not (t_B (e_call2 (x := DD.mk (.list [.int fig, .int fig, .str lab, od, .str lab, cp, .int (fig - 9), .int (fig - 9), rs, .int fig, .str lab, cp, cp, .int fig])) (y := DD.mk (.list [.int fig, .int fig, .str lab, od, .str lab, cp, .int (fig - 9), .int (fig - 9), rs, .int fig, .str lab, cp, cp, .int fig])) (pre := fun (a b : DD) => a = b ∧ DOk 5 a.d) (f := fun _ _ => true) (e_addD (t3.v (x := DD.mk (.list [.int fig, .int fig, .str lab, od, .str lab, cp, .int (fig - 9), .int (fig - 9), rs, .int fig, .str lab, cp, cp])) 13 rfl) (e_lstD (pad_cons (d := .int fig) (e_fldX (x := ExV.mk 17 (.int fig)) "TooMany" "many" rfl rfl (e_ixSq (xs := vals29 fig lab od cp rs) (((t3.v (x := LL.mk (vals29 fig lab od cp rs)) 9 rfl).mono (Ex.refl _)).imp ll_sq) (e_int (i := 17)) rfl)) fun _ x1 => pad_nil) (by simp)) (by simp)) (t3.v 8 rfl) ⟨rfl, hdue⟩))).is rfl) fun B5' H5' t4 => ?_
      exact hN t4 rfl
  · refine s1.ret (x := true) e_bl fun v B4 H4 s4 hv => ?_
    rw [at_bl.mp hv]
    exact q _ _ _ B4 H4 s4
end
end Ob
set_option Elab.async false
set_option linter.all false
set_option maxRecDepth 100000
set_option maxHeartbeats 0
namespace Ob
open PySem PySem.Spec PyProof.Rows L2
open Evl (Ex)
def topS (i : Nat) : Stmt := PySem.Challenge.pw_offbyon_k29_error_classes.main.body.getD i (.Pass ⟨0, 0, 0, 0⟩)
abbrev s_Lcell_at : Stmt := topS 20
abbrev s_Lbox : Stmt := topS 21
abbrev s_Ltake : Stmt := topS 22
abbrev s_Lsame : Stmt := topS 23
abbrev s_Lkinds : Stmt := topS 24
abbrev s_Lunder : Stmt := topS 25
abbrev s_Lright : Stmt := topS 26
abbrev s_law : Stmt := topS 27
theorem sc_Lcell_at : FnScope N_Lcell_at ["_law_script", "_law_k"] (defScope s_Lcell_at) := ⟨rfl, rfl, rfl, by decide +kernel, rfl, by decide +kernel, by decide +kernel⟩
theorem sc_Lbox : FnScope N_Lbox ["_law_script", "_law_k"] (defScope s_Lbox) := ⟨rfl, rfl, rfl, by decide +kernel, rfl, by decide +kernel, by decide +kernel⟩
theorem sc_Ltake : FnScope N_Ltake ["_law_box_here", "_law_size"] (defScope s_Ltake) := ⟨rfl, rfl, rfl, by decide +kernel, rfl, by decide +kernel, by decide +kernel⟩
theorem sc_Lsame : FnScope N_Lsame ["_law_told", "_law_due"] (defScope s_Lsame) := ⟨rfl, rfl, rfl, by decide +kernel, rfl, by decide +kernel, by decide +kernel⟩
theorem sc_Lkinds : FnScope N_Lkinds ["_law_it"] (defScope s_Lkinds) := ⟨rfl, rfl, rfl, by decide +kernel, rfl, by decide +kernel, by decide +kernel⟩
theorem sc_Lunder : FnScope N_Lunder ["_law_it"] (defScope s_Lunder) := ⟨rfl, rfl, rfl, by decide +kernel, rfl, by decide +kernel, by decide +kernel⟩
theorem sc_Lright : FnScope N_Lright ["_law_box_here"] (defScope s_Lright) := ⟨rfl, rfl, rfl, by decide +kernel, rfl, by decide +kernel, by decide +kernel⟩
theorem sc_law : FnScope N_law ["_law_script"] (defScope s_law) := ⟨rfl, rfl, rfl, by decide +kernel, rfl, by decide +kernel, by decide +kernel⟩
abbrev s_init_BadText : Stmt := (C8.clsBody (topS 1)).getD 0 (.Pass ⟨0, 0, 0, 0⟩)
def N_init_BadText : List Str := ["self", "at"]
theorem sc_init_BadText : FnScope N_init_BadText N_init_BadText (defScope s_init_BadText) := ⟨rfl, rfl, rfl, by decide +kernel, rfl, by decide +kernel, by decide +kernel⟩
abbrev s_init_BadRow : Stmt := (C8.clsBody (topS 2)).getD 0 (.Pass ⟨0, 0, 0, 0⟩)
def N_init_BadRow : List Str := ["self", "number"]
theorem sc_init_BadRow : FnScope N_init_BadRow N_init_BadRow (defScope s_init_BadRow) := ⟨rfl, rfl, rfl, by decide +kernel, rfl, by decide +kernel, by decide +kernel⟩
abbrev s_init_SameSwitch : Stmt := (C8.clsBody (topS 3)).getD 0 (.Pass ⟨0, 0, 0, 0⟩)
def N_init_SameSwitch : List Str := ["self", "switch"]
theorem sc_init_SameSwitch : FnScope N_init_SameSwitch N_init_SameSwitch (defScope s_init_SameSwitch) := ⟨rfl, rfl, rfl, by decide +kernel, rfl, by decide +kernel, by decide +kernel⟩
abbrev s_init_BadName : Stmt := (C8.clsBody (topS 4)).getD 0 (.Pass ⟨0, 0, 0, 0⟩)
def N_init_BadName : List Str := ["self", "name"]
theorem sc_init_BadName : FnScope N_init_BadName N_init_BadName (defScope s_init_BadName) := ⟨rfl, rfl, rfl, by decide +kernel, rfl, by decide +kernel, by decide +kernel⟩
abbrev s_init_NoSwitch : Stmt := (C8.clsBody (topS 7)).getD 0 (.Pass ⟨0, 0, 0, 0⟩)
def N_init_NoSwitch : List Str := ["self", "switch"]
theorem sc_init_NoSwitch : FnScope N_init_NoSwitch N_init_NoSwitch (defScope s_init_NoSwitch) := ⟨rfl, rfl, rfl, by decide +kernel, rfl, by decide +kernel, by decide +kernel⟩
abbrev s_init_NoPair : Stmt := (C8.clsBody (topS 8)).getD 0 (.Pass ⟨0, 0, 0, 0⟩)
def N_init_NoPair : List Str := ["self", "pair"]
theorem sc_init_NoPair : FnScope N_init_NoPair N_init_NoPair (defScope s_init_NoPair) := ⟨rfl, rfl, rfl, by decide +kernel, rfl, by decide +kernel, by decide +kernel⟩
abbrev s_init_NoState : Stmt := (C8.clsBody (topS 9)).getD 0 (.Pass ⟨0, 0, 0, 0⟩)
def N_init_NoState : List Str := ["self", "number"]
theorem sc_init_NoState : FnScope N_init_NoState N_init_NoState (defScope s_init_NoState) := ⟨rfl, rfl, rfl, by decide +kernel, rfl, by decide +kernel, by decide +kernel⟩
abbrev s_init_NoDeed : Stmt := (C8.clsBody (topS 10)).getD 0 (.Pass ⟨0, 0, 0, 0⟩)
def N_init_NoDeed : List Str := ["self", "many"]
theorem sc_init_NoDeed : FnScope N_init_NoDeed N_init_NoDeed (defScope s_init_NoDeed) := ⟨rfl, rfl, rfl, by decide +kernel, rfl, by decide +kernel, by decide +kernel⟩
abbrev s_init_Barred : Stmt := (C8.clsBody (topS 11)).getD 0 (.Pass ⟨0, 0, 0, 0⟩)
def N_init_Barred : List Str := ["self", "obstacle"]
theorem sc_init_Barred : FnScope N_init_Barred N_init_Barred (defScope s_init_Barred) := ⟨rfl, rfl, rfl, by decide +kernel, rfl, by decide +kernel, by decide +kernel⟩
abbrev s_init_NoPress : Stmt := (C8.clsBody (topS 13)).getD 0 (.Pass ⟨0, 0, 0, 0⟩)
def N_init_NoPress : List Str := ["self", "at"]
theorem sc_init_NoPress : FnScope N_init_NoPress N_init_NoPress (defScope s_init_NoPress) := ⟨rfl, rfl, rfl, by decide +kernel, rfl, by decide +kernel, by decide +kernel⟩
abbrev s_init_Taken : Stmt := (C8.clsBody (topS 14)).getD 0 (.Pass ⟨0, 0, 0, 0⟩)
def N_init_Taken : List Str := ["self", "switch"]
theorem sc_init_Taken : FnScope N_init_Taken N_init_Taken (defScope s_init_Taken) := ⟨rfl, rfl, rfl, by decide +kernel, rfl, by decide +kernel, by decide +kernel⟩
abbrev s_init_Known : Stmt := (C8.clsBody (topS 15)).getD 0 (.Pass ⟨0, 0, 0, 0⟩)
def N_init_Known : List Str := ["self", "pair"]
theorem sc_init_Known : FnScope N_init_Known N_init_Known (defScope s_init_Known) := ⟨rfl, rfl, rfl, by decide +kernel, rfl, by decide +kernel, by decide +kernel⟩
abbrev s_init_BothOn : Stmt := (C8.clsBody (topS 16)).getD 0 (.Pass ⟨0, 0, 0, 0⟩)
def N_init_BothOn : List Str := ["self", "pair"]
theorem sc_init_BothOn : FnScope N_init_BothOn N_init_BothOn (defScope s_init_BothOn) := ⟨rfl, rfl, rfl, by decide +kernel, rfl, by decide +kernel, by decide +kernel⟩
abbrev s_init_TooMany : Stmt := (C8.clsBody (topS 18)).getD 0 (.Pass ⟨0, 0, 0, 0⟩)
def N_init_TooMany : List Str := ["self", "many"]
theorem sc_init_TooMany : FnScope N_init_TooMany N_init_TooMany (defScope s_init_TooMany) := ⟨rfl, rfl, rfl, by decide +kernel, rfl, by decide +kernel, by decide +kernel⟩
structure Tx (K : PySem.W.Frag) (mg : Str → Option Value) where
  a_Lcell_at : Addr
  fd_Lcell_at : FuncData
  F_Lcell_at : FunD K "_law_cell_at" "_law_cell_at" (defArgs s_Lcell_at) (defBody s_Lcell_at) (defScope s_Lcell_at) [] [] a_Lcell_at fd_Lcell_at
  g_Lcell_at : mg "_law_cell_at" = some (.ref a_Lcell_at)
  b_Lcell_at : Binds K fd_Lcell_at ["_law_script", "_law_k"] []
  a_Lbox : Addr
  fd_Lbox : FuncData
  F_Lbox : FunD K "_law_box" "_law_box" (defArgs s_Lbox) (defBody s_Lbox) (defScope s_Lbox) [] [] a_Lbox fd_Lbox
  g_Lbox : mg "_law_box" = some (.ref a_Lbox)
  b_Lbox : Binds K fd_Lbox ["_law_script", "_law_k"] []
  a_Ltake : Addr
  fd_Ltake : FuncData
  F_Ltake : FunD K "_law_take" "_law_take" (defArgs s_Ltake) (defBody s_Ltake) (defScope s_Ltake) [] [] a_Ltake fd_Ltake
  g_Ltake : mg "_law_take" = some (.ref a_Ltake)
  b_Ltake : Binds K fd_Ltake ["_law_box_here", "_law_size"] []
  a_Lsame : Addr
  fd_Lsame : FuncData
  F_Lsame : FunD K "_law_same" "_law_same" (defArgs s_Lsame) (defBody s_Lsame) (defScope s_Lsame) [] [] a_Lsame fd_Lsame
  g_Lsame : mg "_law_same" = some (.ref a_Lsame)
  b_Lsame : Binds K fd_Lsame ["_law_told", "_law_due"] []
  a_Lkinds : Addr
  fd_Lkinds : FuncData
  F_Lkinds : FunD K "_law_kinds" "_law_kinds" (defArgs s_Lkinds) (defBody s_Lkinds) (defScope s_Lkinds) [] [] a_Lkinds fd_Lkinds
  g_Lkinds : mg "_law_kinds" = some (.ref a_Lkinds)
  b_Lkinds : Binds K fd_Lkinds ["_law_it"] []
  a_Lunder : Addr
  fd_Lunder : FuncData
  F_Lunder : FunD K "_law_under" "_law_under" (defArgs s_Lunder) (defBody s_Lunder) (defScope s_Lunder) [] [] a_Lunder fd_Lunder
  g_Lunder : mg "_law_under" = some (.ref a_Lunder)
  b_Lunder : Binds K fd_Lunder ["_law_it"] []
  a_Lright : Addr
  fd_Lright : FuncData
  F_Lright : FunD K "_law_right" "_law_right" (defArgs s_Lright) (defBody s_Lright) (defScope s_Lright) [] [] a_Lright fd_Lright
  g_Lright : mg "_law_right" = some (.ref a_Lright)
  b_Lright : Binds K fd_Lright ["_law_box_here"] []
  a_law : Addr
  fd_law : FuncData
  F_law : FunD K "law" "law" (defArgs s_law) (defBody s_law) (defScope s_law) [] [] a_law fd_law
  g_law : mg "law" = some (.ref a_law)
  b_law : Binds K fd_law ["_law_script"] []
  ce : ok29 K = true
  gx_BadText : mg "BadText" = some (.ref (He.ga K "BadText"))
  fd_init_BadText : FuncData
  F_init_BadText : FunD K "__init__" "BadText.__init__" (defArgs s_init_BadText) (defBody s_init_BadText) (defScope s_init_BadText) [] [] (He.ma K (He.ga K "BadText") "__init__") fd_init_BadText
  b_init_BadText : Binds K fd_init_BadText ["self", "at"] []
  kw_init_BadText : KBn K fd_init_BadText ["self", "at"] 1 ["at"] (fun us ws => us ++ ws) (fun vs zs => vs ++ zs)
  gx_BadRow : mg "BadRow" = some (.ref (He.ga K "BadRow"))
  fd_init_BadRow : FuncData
  F_init_BadRow : FunD K "__init__" "BadRow.__init__" (defArgs s_init_BadRow) (defBody s_init_BadRow) (defScope s_init_BadRow) [] [] (He.ma K (He.ga K "BadRow") "__init__") fd_init_BadRow
  b_init_BadRow : Binds K fd_init_BadRow ["self", "number"] []
  kw_init_BadRow : KBn K fd_init_BadRow ["self", "number"] 1 ["number"] (fun us ws => us ++ ws) (fun vs zs => vs ++ zs)
  gx_SameSwitch : mg "SameSwitch" = some (.ref (He.ga K "SameSwitch"))
  fd_init_SameSwitch : FuncData
  F_init_SameSwitch : FunD K "__init__" "SameSwitch.__init__" (defArgs s_init_SameSwitch) (defBody s_init_SameSwitch) (defScope s_init_SameSwitch) [] [] (He.ma K (He.ga K "SameSwitch") "__init__") fd_init_SameSwitch
  b_init_SameSwitch : Binds K fd_init_SameSwitch ["self", "switch"] []
  kw_init_SameSwitch : KBn K fd_init_SameSwitch ["self", "switch"] 1 ["switch"] (fun us ws => us ++ ws) (fun vs zs => vs ++ zs)
  gx_BadName : mg "BadName" = some (.ref (He.ga K "BadName"))
  fd_init_BadName : FuncData
  F_init_BadName : FunD K "__init__" "BadName.__init__" (defArgs s_init_BadName) (defBody s_init_BadName) (defScope s_init_BadName) [] [] (He.ma K (He.ga K "BadName") "__init__") fd_init_BadName
  b_init_BadName : Binds K fd_init_BadName ["self", "name"] []
  kw_init_BadName : KBn K fd_init_BadName ["self", "name"] 1 ["name"] (fun us ws => us ++ ws) (fun vs zs => vs ++ zs)
  gx_NoEffect : mg "NoEffect" = some (.ref (He.ga K "NoEffect"))
  gx_NotConnected : mg "NotConnected" = some (.ref (He.ga K "NotConnected"))
  gx_NoSwitch : mg "NoSwitch" = some (.ref (He.ga K "NoSwitch"))
  fd_init_NoSwitch : FuncData
  F_init_NoSwitch : FunD K "__init__" "NoSwitch.__init__" (defArgs s_init_NoSwitch) (defBody s_init_NoSwitch) (defScope s_init_NoSwitch) [] [] (He.ma K (He.ga K "NoSwitch") "__init__") fd_init_NoSwitch
  b_init_NoSwitch : Binds K fd_init_NoSwitch ["self", "switch"] []
  kw_init_NoSwitch : KBn K fd_init_NoSwitch ["self", "switch"] 1 ["switch"] (fun us ws => us ++ ws) (fun vs zs => vs ++ zs)
  gx_NoPair : mg "NoPair" = some (.ref (He.ga K "NoPair"))
  fd_init_NoPair : FuncData
  F_init_NoPair : FunD K "__init__" "NoPair.__init__" (defArgs s_init_NoPair) (defBody s_init_NoPair) (defScope s_init_NoPair) [] [] (He.ma K (He.ga K "NoPair") "__init__") fd_init_NoPair
  b_init_NoPair : Binds K fd_init_NoPair ["self", "pair"] []
  kw_init_NoPair : KBn K fd_init_NoPair ["self", "pair"] 1 ["pair"] (fun us ws => us ++ ws) (fun vs zs => vs ++ zs)
  gx_NoState : mg "NoState" = some (.ref (He.ga K "NoState"))
  fd_init_NoState : FuncData
  F_init_NoState : FunD K "__init__" "NoState.__init__" (defArgs s_init_NoState) (defBody s_init_NoState) (defScope s_init_NoState) [] [] (He.ma K (He.ga K "NoState") "__init__") fd_init_NoState
  b_init_NoState : Binds K fd_init_NoState ["self", "number"] []
  kw_init_NoState : KBn K fd_init_NoState ["self", "number"] 1 ["number"] (fun us ws => us ++ ws) (fun vs zs => vs ++ zs)
  gx_NoDeed : mg "NoDeed" = some (.ref (He.ga K "NoDeed"))
  fd_init_NoDeed : FuncData
  F_init_NoDeed : FunD K "__init__" "NoDeed.__init__" (defArgs s_init_NoDeed) (defBody s_init_NoDeed) (defScope s_init_NoDeed) [] [] (He.ma K (He.ga K "NoDeed") "__init__") fd_init_NoDeed
  b_init_NoDeed : Binds K fd_init_NoDeed ["self", "many"] []
  kw_init_NoDeed : KBn K fd_init_NoDeed ["self", "many"] 1 ["many"] (fun us ws => us ++ ws) (fun vs zs => vs ++ zs)
  gx_Barred : mg "Barred" = some (.ref (He.ga K "Barred"))
  fd_init_Barred : FuncData
  F_init_Barred : FunD K "__init__" "Barred.__init__" (defArgs s_init_Barred) (defBody s_init_Barred) (defScope s_init_Barred) [] [] (He.ma K (He.ga K "Barred") "__init__") fd_init_Barred
  b_init_Barred : Binds K fd_init_Barred ["self", "obstacle"] []
  kw_init_Barred : KBn K fd_init_Barred ["self", "obstacle"] 1 ["obstacle"] (fun us ws => us ++ ws) (fun vs zs => vs ++ zs)
  gx_NoOrder : mg "NoOrder" = some (.ref (He.ga K "NoOrder"))
  gx_NoPress : mg "NoPress" = some (.ref (He.ga K "NoPress"))
  fd_init_NoPress : FuncData
  F_init_NoPress : FunD K "__init__" "NoPress.__init__" (defArgs s_init_NoPress) (defBody s_init_NoPress) (defScope s_init_NoPress) [] [] (He.ma K (He.ga K "NoPress") "__init__") fd_init_NoPress
  b_init_NoPress : Binds K fd_init_NoPress ["self", "at"] []
  kw_init_NoPress : KBn K fd_init_NoPress ["self", "at"] 1 ["at"] (fun us ws => us ++ ws) (fun vs zs => vs ++ zs)
  gx_Taken : mg "Taken" = some (.ref (He.ga K "Taken"))
  fd_init_Taken : FuncData
  F_init_Taken : FunD K "__init__" "Taken.__init__" (defArgs s_init_Taken) (defBody s_init_Taken) (defScope s_init_Taken) [] [] (He.ma K (He.ga K "Taken") "__init__") fd_init_Taken
  b_init_Taken : Binds K fd_init_Taken ["self", "switch"] []
  kw_init_Taken : KBn K fd_init_Taken ["self", "switch"] 1 ["switch"] (fun us ws => us ++ ws) (fun vs zs => vs ++ zs)
  gx_Known : mg "Known" = some (.ref (He.ga K "Known"))
  fd_init_Known : FuncData
  F_init_Known : FunD K "__init__" "Known.__init__" (defArgs s_init_Known) (defBody s_init_Known) (defScope s_init_Known) [] [] (He.ma K (He.ga K "Known") "__init__") fd_init_Known
  b_init_Known : Binds K fd_init_Known ["self", "pair"] []
  kw_init_Known : KBn K fd_init_Known ["self", "pair"] 1 ["pair"] (fun us ws => us ++ ws) (fun vs zs => vs ++ zs)
  gx_BothOn : mg "BothOn" = some (.ref (He.ga K "BothOn"))
  fd_init_BothOn : FuncData
  F_init_BothOn : FunD K "__init__" "BothOn.__init__" (defArgs s_init_BothOn) (defBody s_init_BothOn) (defScope s_init_BothOn) [] [] (He.ma K (He.ga K "BothOn") "__init__") fd_init_BothOn
  b_init_BothOn : Binds K fd_init_BothOn ["self", "pair"] []
  kw_init_BothOn : KBn K fd_init_BothOn ["self", "pair"] 1 ["pair"] (fun us ws => us ++ ws) (fun vs zs => vs ++ zs)
  gx_LastSwitch : mg "LastSwitch" = some (.ref (He.ga K "LastSwitch"))
  gx_TooMany : mg "TooMany" = some (.ref (He.ga K "TooMany"))
  fd_init_TooMany : FuncData
  F_init_TooMany : FunD K "__init__" "TooMany.__init__" (defArgs s_init_TooMany) (defBody s_init_TooMany) (defScope s_init_TooMany) [] [] (He.ma K (He.ga K "TooMany") "__init__") fd_init_TooMany
  b_init_TooMany : Binds K fd_init_TooMany ["self", "many"] []
  kw_init_TooMany : KBn K fd_init_TooMany ["self", "many"] 1 ["many"] (fun us ws => us ++ ws) (fun vs zs => vs ++ zs)
  m_IndexError : mg "IndexError" = none
  m_KeyError : mg "KeyError" = none
  m_LookupError : mg "LookupError" = none
  m_NotImplementedError : mg "NotImplementedError" = none
  m_OverflowError : mg "OverflowError" = none
  m_RuntimeError : mg "RuntimeError" = none
  m_ValueError : mg "ValueError" = none
  m_abs : mg "abs" = none
  m_all : mg "all" = none
  m_bool : mg "bool" = none
  m_enumerate : mg "enumerate" = none
  m_int : mg "int" = none
  m_isinstance : mg "isinstance" = none
  m_len : mg "len" = none
  m_list : mg "list" = none
  m_min : mg "min" = none
  m_range : mg "range" = none
  m_str : mg "str" = none
  m_tuple : mg "tuple" = none
  m_zip : mg "zip" = none
section
variable {P : Program} {w : World} {K : PySem.W.Frag} {mg : Str → Option Value} {base : Heap}
theorem d_init_BadText (T : Tx K mg) : FnOk P w K mg base CX0 1 (He.ma K (He.ga K "BadText") "__init__") T.fd_init_BadText ["self", "at"] (spInit (He.ga K "BadText") "at") := by
  refine T.F_init_BadText.ok sc_init_BadText l_xinit (fun cdv A outer s H vs Q E hr h => ⟨t_xinit (He.ga K "BadText") "at", PSs.nox ?_, r_xinit vs H Q E h⟩)
  have hu := hu_room hr
  exact pss_cons (ps_expr (pe_veinitX (ns29 T.ce 0 "BadText" "at" 0 (by decide) rfl) rfl (by rfl) T.m_ValueError ve_initX (pa_cons (pv 0) (pa_cons (pv 1) pa_nil)))) (pss_one (ps_osf PySem.F.store_ValueError (ns29 T.ce 0 "BadText" "at" 0 (by decide) rfl) (pv 0) (pv 1)))
theorem d_init_BadRow (T : Tx K mg) : FnOk P w K mg base CX0 1 (He.ma K (He.ga K "BadRow") "__init__") T.fd_init_BadRow ["self", "number"] (spInit (He.ga K "BadRow") "number") := by
  refine T.F_init_BadRow.ok sc_init_BadRow l_xinit (fun cdv A outer s H vs Q E hr h => ⟨t_xinit (He.ga K "BadRow") "number", PSs.nox ?_, r_xinit vs H Q E h⟩)
  have hu := hu_room hr
  exact pss_cons (ps_expr (pe_veinitX (ns29 T.ce 1 "BadRow" "number" 0 (by decide) rfl) rfl (by rfl) T.m_ValueError ve_initX (pa_cons (pv 0) (pa_cons (pv 1) pa_nil)))) (pss_one (ps_osf PySem.F.store_ValueError (ns29 T.ce 1 "BadRow" "number" 0 (by decide) rfl) (pv 0) (pv 1)))
theorem d_init_SameSwitch (T : Tx K mg) : FnOk P w K mg base CX0 1 (He.ma K (He.ga K "SameSwitch") "__init__") T.fd_init_SameSwitch ["self", "switch"] (spInit (He.ga K "SameSwitch") "switch") := by
  refine T.F_init_SameSwitch.ok sc_init_SameSwitch l_xinit (fun cdv A outer s H vs Q E hr h => ⟨t_xinit (He.ga K "SameSwitch") "switch", PSs.nox ?_, r_xinit vs H Q E h⟩)
  have hu := hu_room hr
  exact pss_cons (ps_expr (pe_veinitX (ns29 T.ce 2 "SameSwitch" "switch" 0 (by decide) rfl) rfl (by rfl) T.m_ValueError ve_initX (pa_cons (pv 0) (pa_cons (pv 1) pa_nil)))) (pss_one (ps_osf PySem.F.store_ValueError (ns29 T.ce 2 "SameSwitch" "switch" 0 (by decide) rfl) (pv 0) (pv 1)))
theorem d_init_BadName (T : Tx K mg) : FnOk P w K mg base CX0 1 (He.ma K (He.ga K "BadName") "__init__") T.fd_init_BadName ["self", "name"] (spInit (He.ga K "BadName") "name") := by
  refine T.F_init_BadName.ok sc_init_BadName l_xinit (fun cdv A outer s H vs Q E hr h => ⟨t_xinit (He.ga K "BadName") "name", PSs.nox ?_, r_xinit vs H Q E h⟩)
  have hu := hu_room hr
  exact pss_cons (ps_expr (pe_veinitX (ns29 T.ce 3 "BadName" "name" 0 (by decide) rfl) rfl (by rfl) T.m_ValueError ve_initX (pa_cons (pv 0) (pa_cons (pv 1) pa_nil)))) (pss_one (ps_osf PySem.F.store_ValueError (ns29 T.ce 3 "BadName" "name" 0 (by decide) rfl) (pv 0) (pv 1)))
theorem d_init_NoSwitch (T : Tx K mg) : FnOk P w K mg base CX0 1 (He.ma K (He.ga K "NoSwitch") "__init__") T.fd_init_NoSwitch ["self", "switch"] (spInit (He.ga K "NoSwitch") "switch") := by
  refine T.F_init_NoSwitch.ok sc_init_NoSwitch l_xinit (fun cdv A outer s H vs Q E hr h => ⟨t_xinit (He.ga K "NoSwitch") "switch", PSs.nox ?_, r_xinit vs H Q E h⟩)
  have hu := hu_room hr
  exact pss_cons (ps_expr (pe_leinit (ns29 T.ce 6 "NoSwitch" "switch" 1 (by decide) rfl) rfl (by rfl) T.m_LookupError le_init (pa_cons (pv 0) (pa_cons (pv 1) pa_nil)))) (pss_one (ps_osf PySem.F.store_LookupError (ns29 T.ce 6 "NoSwitch" "switch" 1 (by decide) rfl) (pv 0) (pv 1)))
theorem d_init_NoPair (T : Tx K mg) : FnOk P w K mg base CX0 1 (He.ma K (He.ga K "NoPair") "__init__") T.fd_init_NoPair ["self", "pair"] (spInit (He.ga K "NoPair") "pair") := by
  refine T.F_init_NoPair.ok sc_init_NoPair l_xinit (fun cdv A outer s H vs Q E hr h => ⟨t_xinit (He.ga K "NoPair") "pair", PSs.nox ?_, r_xinit vs H Q E h⟩)
  have hu := hu_room hr
  exact pss_cons (ps_expr (pe_leinit (ns29 T.ce 7 "NoPair" "pair" 1 (by decide) rfl) rfl (by rfl) T.m_LookupError le_init (pa_cons (pv 0) (pa_cons (pv 1) pa_nil)))) (pss_one (ps_osf PySem.F.store_LookupError (ns29 T.ce 7 "NoPair" "pair" 1 (by decide) rfl) (pv 0) (pv 1)))
theorem d_init_NoState (T : Tx K mg) : FnOk P w K mg base CX0 1 (He.ma K (He.ga K "NoState") "__init__") T.fd_init_NoState ["self", "number"] (spInit (He.ga K "NoState") "number") := by
  refine T.F_init_NoState.ok sc_init_NoState l_xinit (fun cdv A outer s H vs Q E hr h => ⟨t_xinit (He.ga K "NoState") "number", PSs.nox ?_, r_xinit vs H Q E h⟩)
  have hu := hu_room hr
  exact pss_cons (ps_expr (pe_leinit (ns29 T.ce 8 "NoState" "number" 1 (by decide) rfl) rfl (by rfl) T.m_LookupError le_init (pa_cons (pv 0) (pa_cons (pv 1) pa_nil)))) (pss_one (ps_osf PySem.F.store_LookupError (ns29 T.ce 8 "NoState" "number" 1 (by decide) rfl) (pv 0) (pv 1)))
theorem d_init_NoDeed (T : Tx K mg) : FnOk P w K mg base CX0 1 (He.ma K (He.ga K "NoDeed") "__init__") T.fd_init_NoDeed ["self", "many"] (spInit (He.ga K "NoDeed") "many") := by
  refine T.F_init_NoDeed.ok sc_init_NoDeed l_xinit (fun cdv A outer s H vs Q E hr h => ⟨t_xinit (He.ga K "NoDeed") "many", PSs.nox ?_, r_xinit vs H Q E h⟩)
  have hu := hu_room hr
  exact pss_cons (ps_expr (pe_leinit (ns29 T.ce 9 "NoDeed" "many" 1 (by decide) rfl) rfl (by rfl) T.m_LookupError le_init (pa_cons (pv 0) (pa_cons (pv 1) pa_nil)))) (pss_one (ps_osf PySem.F.store_LookupError (ns29 T.ce 9 "NoDeed" "many" 1 (by decide) rfl) (pv 0) (pv 1)))
theorem d_init_Barred (T : Tx K mg) : FnOk P w K mg base CX0 1 (He.ma K (He.ga K "Barred") "__init__") T.fd_init_Barred ["self", "obstacle"] (spInit (He.ga K "Barred") "obstacle") := by
  refine T.F_init_Barred.ok sc_init_Barred l_xinit (fun cdv A outer s H vs Q E hr h => ⟨t_xinit (He.ga K "Barred") "obstacle", PSs.nox ?_, r_xinit vs H Q E h⟩)
  have hu := hu_room hr
  exact pss_cons (ps_expr (pe_reinit (ns29 T.ce 10 "Barred" "obstacle" 2 (by decide) rfl) rfl (by rfl) T.m_RuntimeError re_init (pa_cons (pv 0) (pa_cons (pv 1) pa_nil)))) (pss_one (ps_osf PySem.F.store_RuntimeError (ns29 T.ce 10 "Barred" "obstacle" 2 (by decide) rfl) (pv 0) (pv 1)))
theorem d_init_NoPress (T : Tx K mg) : FnOk P w K mg base CX0 1 (He.ma K (He.ga K "NoPress") "__init__") T.fd_init_NoPress ["self", "at"] (spInit (He.ga K "NoPress") "at") := by
  refine T.F_init_NoPress.ok sc_init_NoPress l_xinit (fun cdv A outer s H vs Q E hr h => ⟨t_xinit (He.ga K "NoPress") "at", PSs.nox ?_, r_xinit vs H Q E h⟩)
  have hu := hu_room hr
  exact pss_cons (ps_expr (pe_reinit (ns29 T.ce 12 "NoPress" "at" 2 (by decide) rfl) rfl (by rfl) T.m_RuntimeError re_init (pa_cons (pv 0) (pa_cons (pv 1) pa_nil)))) (pss_one (ps_osf PySem.F.store_RuntimeError (ns29 T.ce 12 "NoPress" "at" 2 (by decide) rfl) (pv 0) (pv 1)))
theorem d_init_Taken (T : Tx K mg) : FnOk P w K mg base CX0 1 (He.ma K (He.ga K "Taken") "__init__") T.fd_init_Taken ["self", "switch"] (spInit (He.ga K "Taken") "switch") := by
  refine T.F_init_Taken.ok sc_init_Taken l_xinit (fun cdv A outer s H vs Q E hr h => ⟨t_xinit (He.ga K "Taken") "switch", PSs.nox ?_, r_xinit vs H Q E h⟩)
  have hu := hu_room hr
  exact pss_cons (ps_expr (pe_reinit (ns29 T.ce 13 "Taken" "switch" 2 (by decide) rfl) rfl (by rfl) T.m_RuntimeError re_init (pa_cons (pv 0) (pa_cons (pv 1) pa_nil)))) (pss_one (ps_osf PySem.F.store_RuntimeError (ns29 T.ce 13 "Taken" "switch" 2 (by decide) rfl) (pv 0) (pv 1)))
theorem d_init_Known (T : Tx K mg) : FnOk P w K mg base CX0 1 (He.ma K (He.ga K "Known") "__init__") T.fd_init_Known ["self", "pair"] (spInit (He.ga K "Known") "pair") := by
  refine T.F_init_Known.ok sc_init_Known l_xinit (fun cdv A outer s H vs Q E hr h => ⟨t_xinit (He.ga K "Known") "pair", PSs.nox ?_, r_xinit vs H Q E h⟩)
  have hu := hu_room hr
  exact pss_cons (ps_expr (pe_reinit (ns29 T.ce 14 "Known" "pair" 2 (by decide) rfl) rfl (by rfl) T.m_RuntimeError re_init (pa_cons (pv 0) (pa_cons (pv 1) pa_nil)))) (pss_one (ps_osf PySem.F.store_RuntimeError (ns29 T.ce 14 "Known" "pair" 2 (by decide) rfl) (pv 0) (pv 1)))
theorem d_init_BothOn (T : Tx K mg) : FnOk P w K mg base CX0 1 (He.ma K (He.ga K "BothOn") "__init__") T.fd_init_BothOn ["self", "pair"] (spInit (He.ga K "BothOn") "pair") := by
  refine T.F_init_BothOn.ok sc_init_BothOn l_xinit (fun cdv A outer s H vs Q E hr h => ⟨t_xinit (He.ga K "BothOn") "pair", PSs.nox ?_, r_xinit vs H Q E h⟩)
  have hu := hu_room hr
  exact pss_cons (ps_expr (pe_reinit (ns29 T.ce 15 "BothOn" "pair" 2 (by decide) rfl) rfl (by rfl) T.m_RuntimeError re_init (pa_cons (pv 0) (pa_cons (pv 1) pa_nil)))) (pss_one (ps_osf PySem.F.store_RuntimeError (ns29 T.ce 15 "BothOn" "pair" 2 (by decide) rfl) (pv 0) (pv 1)))
theorem d_init_TooMany (T : Tx K mg) : FnOk P w K mg base CX0 1 (He.ma K (He.ga K "TooMany") "__init__") T.fd_init_TooMany ["self", "many"] (spInit (He.ga K "TooMany") "many") := by
  refine T.F_init_TooMany.ok sc_init_TooMany l_xinit (fun cdv A outer s H vs Q E hr h => ⟨t_xinit (He.ga K "TooMany") "many", PSs.nox ?_, r_xinit vs H Q E h⟩)
  have hu := hu_room hr
  exact pss_cons (ps_expr (pe_oeinitX (ns29 T.ce 17 "TooMany" "many" 3 (by decide) rfl) rfl (by rfl) T.m_OverflowError oe_initX (pa_cons (pv 0) (pa_cons (pv 1) pa_nil)))) (pss_one (ps_osf PySem.F.store_OverflowError (ns29 T.ce 17 "TooMany" "many" 3 (by decide) rfl) (pv 0) (pv 1)))
theorem d_Lcell_at (T : Tx K mg) : FnOk P w K mg base CX0 3 T.a_Lcell_at T.fd_Lcell_at ["_law_script", "_law_k"] (sp_Lcell_at K) := by
  refine T.F_Lcell_at.ok sc_Lcell_at l_Lcell_at (fun cdv A outer s H vs Q E hr h => ⟨t_Lcell_at K, PSs.nox ?_, r_Lcell_at vs H Q E h⟩)
  have hu := hu_room hr
  exact (pss_cons (ps_if (pt_cmpR (op_ltU hu) (pv 1) (pe_callB call_lenU (by rfl) T.m_len (by decide +kernel) (pa_cons (pv 0) pa_nil)) (nomark _)) (pss_one (ps_ret (pe_ix (ix_U hu) (pv 0) (pv 1) (fun _ _ => rfl)))) pss_nil)
      (pss_one (ps_ret pe_int)))
theorem d_Lbox (T : Tx K mg) : FnOk P w K mg base CX0 4 T.a_Lbox T.fd_Lbox ["_law_script", "_law_k"] (sp_Lbox K) := by
  refine T.F_Lbox.ok sc_Lbox l_Lbox (fun cdv A outer s H vs Q E hr h => ⟨t_Lbox K, PSs.nox ?_, r_Lbox vs H Q E h⟩)
  have hu := hu_room hr
  exact (pss_cons (ps_set (i := 2) sc_Lbox.nd rfl (Or.inl rfl) (pe_call (d_Lcell_at T) (hr.mono (by decide)) (by rfl) T.g_Lcell_at T.F_Lcell_at.kp T.b_Lcell_at .nil pass0 (pa_cons (pv 0) (pa_cons (pv 1) pa_nil))))
      (pss_one (ps_ret (pe_lst (pa_cons (pe_op op_mulU (pe_callB call_absr (by rfl) T.m_abs (by decide +kernel) (pa_cons (pv 2) pa_nil)) (pe_callTy call_int1r (by rfl) T.m_int (by decide +kernel) (pa_cons (pe_cmpR (op_geU hu) (pe_callB call_absr (by rfl) T.m_abs (by decide +kernel) (pa_cons (pv 2) pa_nil)) (pe_op op_pow pe_int pe_int) (nomark _)) pa_nil))) (pa_cons (pe_op op_addU (pe_op op_addU (pe_op op_mod (pv 2) pe_int) (pe_op op_mulU pe_int (pv 1))) pe_int) (pa_cons pe_int pa_nil)))))))
theorem d_Ltake (T : Tx K mg) : FnOk P w K mg base CX0 3 T.a_Ltake T.fd_Ltake ["_law_box_here", "_law_size"] (sp_Ltake K) := by
  refine T.F_Ltake.ok sc_Ltake l_Ltake (fun cdv A outer s H vs Q E hr h => ⟨t_Ltake K, PSs.nox ?_, r_Ltake vs H Q E h⟩)
  have hu := hu_room hr
  exact (pss_cons (ps_if (pt_cmpR (op_gtU hu) (pe_ix (ix_U hu) (pv 0) pe_int (fun _ _ => rfl)) pe_int (nomark _)) (pss_cons (ps_set (i := 2) sc_Ltake.nd rfl (Or.inl rfl) (pe_op op_mod (pe_ix (ix_U hu) (pv 0) pe_int (fun _ _ => rfl)) (pv 1)))
      (pss_cons (ps_asg (pe_op op_fdiv (pe_ix (ix_U hu) (pv 0) pe_int (fun _ _ => rfl)) (pv 1)) (pg_sub (pv 0) pe_int set_list))
      (pss_one (ps_ret (pv 2))))) pss_nil)
      (pss_cons (ps_asg (pe_op op_addU (pe_ix (ix_U hu) (pv 0) pe_int (fun _ _ => rfl)) pe_int) (pg_sub (pv 0) pe_int set_list))
      (pss_cons (ps_set (i := 3) sc_Ltake.nd rfl (Or.inl rfl) (pe_op op_mod (pe_op op_mulU (pe_op op_addU (pe_ix (ix_U hu) (pv 0) pe_int (fun _ _ => rfl)) (pe_op op_mulU pe_int (pe_ix (ix_U hu) (pv 0) pe_int (fun _ _ => rfl)))) (pe_op op_addU pe_int (pe_ix (ix_U hu) (pv 0) pe_int (fun _ _ => rfl)))) pe_int))
      (pss_cons (ps_set (i := 4) sc_Ltake.nd rfl (Or.inl rfl) (pe_op op_mod (pe_op op_mulU (pe_op op_addU (pe_op op_addU (pv 3) (pe_ix (ix_U hu) (pv 0) pe_int (fun _ _ => rfl))) (pe_op op_fdiv (pe_ix (ix_U hu) (pv 0) pe_int (fun _ _ => rfl)) pe_int)) (pe_op op_addU (pe_op op_mod (pv 3) pe_int) pe_int)) pe_int))
      (pss_one (ps_ret (pe_op op_mod (pe_op op_fdiv (pe_op op_mod (pe_op op_addU (pe_op op_mulU (pv 4) pe_int) (pv 3)) pe_int) pe_int) (pv 1))))))))
theorem dr_Lsame (T : Tx K mg) (n j : Nat) (hj : 3 ≤ j) (d_Lsame : Tx K mg → FnOk P w K mg base CX0 j T.a_Lsame T.fd_Lsame ["_law_told", "_law_due"] (spOf_Lsame K n)) : FnOk P w K mg base CX0 (j + 1) T.a_Lsame T.fd_Lsame ["_law_told", "_law_due"] (spOf_Lsame K (n + 1)) := by
  refine T.F_Lsame.ok sc_Lsame lOf_Lsame (fun cdv A outer s H vs Q E hr h => ⟨t_Lsame K (fun K => spOf_Lsame K n), PSs.nox ?_, r_Lsame n vs H Q E h⟩)
  have hu := hu_room hr
  exact (pss_cons (ps_if (pt_val (pe_callB call_isiT (by rfl) T.m_isinstance (by decide +kernel) (pa_cons (pv 1) (pa_cons (pe_tup (pa_cons (pe_bltn (v := .ty "list") (by rfl) T.m_list (by decide +kernel) rfl) (pa_cons (pe_bltn (v := .ty "tuple") (by rfl) T.m_tuple (by decide +kernel) rfl) pa_nil))) pa_nil)))) (pss_cons (ps_if (PW.pt (pw_or (pt_cmpR (op_neP hu) (pe_callB call_isi (by rfl) T.m_isinstance (by decide +kernel) (pa_cons (pv 0) (pa_cons (pe_bltn (v := .ty "list") (by rfl) T.m_list (by decide +kernel) rfl) pa_nil))) (pe_callB call_isi (by rfl) T.m_isinstance (by decide +kernel) (pa_cons (pv 1) (pa_cons (pe_bltn (v := .ty "list") (by rfl) T.m_list (by decide +kernel) rfl) pa_nil))) (nomark _)) (pw_or1 (pt_cmpR (op_neP hu) (pe_callB call_isi (by rfl) T.m_isinstance (by decide +kernel) (pa_cons (pv 0) (pa_cons (pe_bltn (v := .ty "tuple") (by rfl) T.m_tuple (by decide +kernel) rfl) pa_nil))) (pe_callB call_isi (by rfl) T.m_isinstance (by decide +kernel) (pa_cons (pv 1) (pa_cons (pe_bltn (v := .ty "tuple") (by rfl) T.m_tuple (by decide +kernel) rfl) pa_nil))) (nomark _))))) (pss_one (ps_ret pe_bl)) pss_nil)
      (pss_one (ps_ret (pe_and (pe_cmpR (op_eqP hu) (pe_callB call_lenU (by rfl) T.m_len (by decide +kernel) (pa_cons (pv 0) pa_nil)) (pe_callB call_lenU (by rfl) T.m_len (by decide +kernel) (pa_cons (pv 1) pa_nil)) (nomark _)) (pe_one (pe_callB (cr_all rfl) (by rfl) T.m_all (by decide +kernel) (pa_cons (pe_lc (own := [("_law_one", 2), ("_law_two", 3)]) rfl sc_Lsame.nd (RZ.pi_zipA (by rfl) T.m_zip (pa_cons (pv 0) (pa_cons (pv 1) pa_nil))) (blkOk_by (own := [("_law_one", 2), ("_law_two", 3)]) (N := N_Lsame) (sc := defScope s_Lsame) (by decide +kernel)) (fun _ _ _ _ _ => (pg_unp rfl (pgs_cons (pg_name (i := 2) sc_Lsame.nd rfl (by first | exact Or.inl rfl | exact Or.inr rfl)) (pgs_cons (pg_name (i := 3) sc_Lsame.nd rfl (by first | exact Or.inl rfl | exact Or.inr rfl)) pgs_nil)))) (fun _ _ _ _ _ => pts_nil) (fun _ _ _ _ _ => (pe_call (d_Lsame T) (hr.mono (Nat.le_refl _)) (by rfl) T.g_Lsame T.F_Lsame.kp T.b_Lsame .nil pass0 (pa_cons (pv 2) (pa_cons (pv 3) pa_nil))))) pa_nil))))))) pss_nil)
      (pss_cons (ps_if (PW.pt (pw_or (pt_cmpR op_isNr (pv 1) pe_non (nomark _)) (pw_or1 (pt_val (pe_callB call_isiT (by rfl) T.m_isinstance (by decide +kernel) (pa_cons (pv 1) (pa_cons (pe_tup (pa_cons (pe_bltn (v := .ty "bool") (by rfl) T.m_bool (by decide +kernel) rfl) (pa_cons (pe_bltn (v := .ty "str") (by rfl) T.m_str (by decide +kernel) rfl) pa_nil))) pa_nil))))))) (pss_one (ps_ret (pe_and (pe_cmpR (op_eqP hu) (pv 0) (pv 1) (nomark _)) (pe_and (pe_cmpR (op_eqP hu) (pe_callB call_isi (by rfl) T.m_isinstance (by decide +kernel) (pa_cons (pv 0) (pa_cons (pe_bltn (v := .ty "bool") (by rfl) T.m_bool (by decide +kernel) rfl) pa_nil))) (pe_callB call_isi (by rfl) T.m_isinstance (by decide +kernel) (pa_cons (pv 1) (pa_cons (pe_bltn (v := .ty "bool") (by rfl) T.m_bool (by decide +kernel) rfl) pa_nil))) (nomark _)) (pe_one (pe_cmpR (op_eqP hu) (pe_cmpR op_isNr (pv 0) pe_non (nomark _)) (pe_cmpR op_isNr (pv 1) pe_non (nomark _)) (nomark _))))))) pss_nil)
      (pss_one (ps_ret (pe_and (pe_callB call_isi (by rfl) T.m_isinstance (by decide +kernel) (pa_cons (pv 0) (pa_cons (pe_bltn (v := .ty "int") (by rfl) T.m_int (by decide +kernel) rfl) pa_nil))) (pe_and (pe_not (pe_callB call_isi (by rfl) T.m_isinstance (by decide +kernel) (pa_cons (pv 0) (pa_cons (pe_bltn (v := .ty "bool") (by rfl) T.m_bool (by decide +kernel) rfl) pa_nil)))) (pe_one (pe_cmpR (op_eqP hu) (pv 0) (pv 1) (nomark _)))))))))
theorem d_Lsame (T : Tx K mg) : FnOk P w K mg base CX0 9 T.a_Lsame T.fd_Lsame ["_law_told", "_law_due"] (sp_Lsame K) := by
  have h : ∀ n, FnOk P w K mg base CX0 (3 + n) T.a_Lsame T.fd_Lsame ["_law_told", "_law_due"] (spOf_Lsame K n) := fun n => by
    induction n with
    | zero => exact ⟨fun vs H Q E h => h.elim, fun A outer s H args us vs Q E hr he hb hv h => h.elim⟩
    | succ n ih => exact dr_Lsame T n (3 + n) (Nat.le_add_right _ _) (fun _ => ih)
  exact h 6
theorem d_Lkinds (T : Tx K mg) : FnOk P w K mg base CX0 3 T.a_Lkinds T.fd_Lkinds ["_law_it"] (sp_Lkinds K) := by
  refine T.F_Lkinds.ok sc_Lkinds l_Lkinds (fun cdv A outer s H vs Q E hr h => ⟨t_Lkinds K T.ce, PSs.nox ?_, r_Lkinds vs H Q E h⟩)
  have hu := hu_room hr
  exact (pss_cons (ps_set (i := 1) sc_Lkinds.nd rfl (Or.inl rfl) (pe_lst (pa_cons (pe_callB call_isX (by rfl) T.m_isinstance (by decide +kernel) (pa_cons (pv 0) (pa_cons (pe_glob (by rfl) T.gx_BadText rfl) pa_nil))) (pa_cons (pe_callB call_isX (by rfl) T.m_isinstance (by decide +kernel) (pa_cons (pv 0) (pa_cons (pe_glob (by rfl) T.gx_BadRow rfl) pa_nil))) (pa_cons (pe_callB call_isX (by rfl) T.m_isinstance (by decide +kernel) (pa_cons (pv 0) (pa_cons (pe_glob (by rfl) T.gx_SameSwitch rfl) pa_nil))) (pa_cons (pe_callB call_isX (by rfl) T.m_isinstance (by decide +kernel) (pa_cons (pv 0) (pa_cons (pe_glob (by rfl) T.gx_BadName rfl) pa_nil))) pa_nil))))))
      (pss_cons (ps_set (i := 1) sc_Lkinds.nd rfl (Or.inl rfl) (pe_op op_addU (pv 1) (pe_lst (pa_cons (pe_callB call_isX (by rfl) T.m_isinstance (by decide +kernel) (pa_cons (pv 0) (pa_cons (pe_glob (by rfl) T.gx_NoEffect rfl) pa_nil))) (pa_cons (pe_callB call_isX (by rfl) T.m_isinstance (by decide +kernel) (pa_cons (pv 0) (pa_cons (pe_glob (by rfl) T.gx_NotConnected rfl) pa_nil))) (pa_cons (pe_callB call_isX (by rfl) T.m_isinstance (by decide +kernel) (pa_cons (pv 0) (pa_cons (pe_glob (by rfl) T.gx_NoSwitch rfl) pa_nil))) pa_nil))))))
      (pss_cons (ps_set (i := 1) sc_Lkinds.nd rfl (Or.inl rfl) (pe_op op_addU (pv 1) (pe_lst (pa_cons (pe_callB call_isX (by rfl) T.m_isinstance (by decide +kernel) (pa_cons (pv 0) (pa_cons (pe_glob (by rfl) T.gx_NoPair rfl) pa_nil))) (pa_cons (pe_callB call_isX (by rfl) T.m_isinstance (by decide +kernel) (pa_cons (pv 0) (pa_cons (pe_glob (by rfl) T.gx_NoState rfl) pa_nil))) (pa_cons (pe_callB call_isX (by rfl) T.m_isinstance (by decide +kernel) (pa_cons (pv 0) (pa_cons (pe_glob (by rfl) T.gx_NoDeed rfl) pa_nil))) (pa_cons (pe_callB call_isX (by rfl) T.m_isinstance (by decide +kernel) (pa_cons (pv 0) (pa_cons (pe_glob (by rfl) T.gx_Barred rfl) pa_nil))) pa_nil)))))))
      (pss_cons (ps_set (i := 1) sc_Lkinds.nd rfl (Or.inl rfl) (pe_op op_addU (pv 1) (pe_lst (pa_cons (pe_callB call_isX (by rfl) T.m_isinstance (by decide +kernel) (pa_cons (pv 0) (pa_cons (pe_glob (by rfl) T.gx_NoOrder rfl) pa_nil))) (pa_cons (pe_callB call_isX (by rfl) T.m_isinstance (by decide +kernel) (pa_cons (pv 0) (pa_cons (pe_glob (by rfl) T.gx_NoPress rfl) pa_nil))) (pa_cons (pe_callB call_isX (by rfl) T.m_isinstance (by decide +kernel) (pa_cons (pv 0) (pa_cons (pe_glob (by rfl) T.gx_Taken rfl) pa_nil))) (pa_cons (pe_callB call_isX (by rfl) T.m_isinstance (by decide +kernel) (pa_cons (pv 0) (pa_cons (pe_glob (by rfl) T.gx_Known rfl) pa_nil))) pa_nil)))))))
      (pss_one (ps_ret (pe_op op_addU (pv 1) (pe_lst (pa_cons (pe_callB call_isX (by rfl) T.m_isinstance (by decide +kernel) (pa_cons (pv 0) (pa_cons (pe_glob (by rfl) T.gx_BothOn rfl) pa_nil))) (pa_cons (pe_callB call_isX (by rfl) T.m_isinstance (by decide +kernel) (pa_cons (pv 0) (pa_cons (pe_glob (by rfl) T.gx_LastSwitch rfl) pa_nil))) (pa_cons (pe_callB call_isX (by rfl) T.m_isinstance (by decide +kernel) (pa_cons (pv 0) (pa_cons (pe_glob (by rfl) T.gx_TooMany rfl) pa_nil))) pa_nil)))))))))))
theorem d_Lunder (T : Tx K mg) : FnOk P w K mg base CX0 3 T.a_Lunder T.fd_Lunder ["_law_it"] (sp_Lunder K) := by
  refine T.F_Lunder.ok sc_Lunder l_Lunder (fun cdv A outer s H vs Q E hr h => ⟨t_Lunder K T.ce, PSs.nox ?_, r_Lunder vs H Q E h⟩)
  have hu := hu_room hr
  exact (pss_cons (ps_if (pt_val (pe_callB call_isXT (by rfl) T.m_isinstance (by decide +kernel) (pa_cons (pv 0) (pa_cons (pe_tup (pa_cons (pe_bltn (v := .ty "IndexError") (by rfl) T.m_IndexError (by decide +kernel) rfl) (pa_cons (pe_bltn (v := .ty "KeyError") (by rfl) T.m_KeyError (by decide +kernel) rfl) (pa_cons (pe_bltn (v := .ty "NotImplementedError") (by rfl) T.m_NotImplementedError (by decide +kernel) rfl) pa_nil)))) pa_nil)))) (pss_one (ps_ret pe_non)) pss_nil)
      (pss_cons (ps_set (i := 1) sc_Lunder.nd rfl (Or.inl rfl) (pe_lst (pa_cons (pe_callB call_isX (by rfl) T.m_isinstance (by decide +kernel) (pa_cons (pv 0) (pa_cons (pe_bltn (v := .ty "ValueError") (by rfl) T.m_ValueError (by decide +kernel) rfl) pa_nil))) (pa_cons (pe_callB call_isX (by rfl) T.m_isinstance (by decide +kernel) (pa_cons (pv 0) (pa_cons (pe_bltn (v := .ty "LookupError") (by rfl) T.m_LookupError (by decide +kernel) rfl) pa_nil))) pa_nil))))
      (pss_one (ps_ret (pe_op op_addU (pv 1) (pe_lst (pa_cons (pe_callB call_isX (by rfl) T.m_isinstance (by decide +kernel) (pa_cons (pv 0) (pa_cons (pe_bltn (v := .ty "RuntimeError") (by rfl) T.m_RuntimeError (by decide +kernel) rfl) pa_nil))) (pa_cons (pe_callB call_isX (by rfl) T.m_isinstance (by decide +kernel) (pa_cons (pv 0) (pa_cons (pe_bltn (v := .ty "OverflowError") (by rfl) T.m_OverflowError (by decide +kernel) rfl) pa_nil))) pa_nil))))))))
theorem d_Lright (T : Tx K mg) : FnOk P w K mg base CX0 10 T.a_Lright T.fd_Lright ["_law_box_here"] (sp_Lright K) := by
  refine T.F_Lright.ok sc_Lright l_Lright (fun cdv A outer s H vs Q E hr h => ⟨t_Lright K T.ce, PSs.nox ?_, r_Lright vs H Q E h⟩)
  have hu := hu_room hr
  exact (pss_cons (ps_par (i := 1) (j := 2) (by rfl) sc_Lright.nd rfl rfl (by decide) rfl rfl (pa_cons (pe_slice sl_U pe_str (po_some (pe_call (d_Ltake T) (hr.mono (by decide)) (by rfl) T.g_Ltake T.F_Ltake.kp T.b_Ltake .nil pass0 (pa_cons (pv 0) (pa_cons pe_int pa_nil)))) po_none) (pa_cons (pe_call (d_Ltake T) (hr.mono (by decide)) (by rfl) T.g_Ltake T.F_Ltake.kp T.b_Ltake .nil pass0 (pa_cons (pv 0) (pa_cons (pe_op op_pow pe_int pe_int) pa_nil))) pa_nil)) (by rfl))
      (pss_cons (ps_par (i := 3) (j := 4) (by rfl) sc_Lright.nd rfl rfl (by decide) rfl rfl (pa_cons (pe_tup (pa_cons pe_str (pa_cons (pe_op op_mulTx pe_str (pe_op op_addU pe_int (pe_call (d_Ltake T) (hr.mono (by decide)) (by rfl) T.g_Ltake T.F_Ltake.kp T.b_Ltake .nil pass0 (pa_cons (pv 0) (pa_cons pe_int pa_nil))))) pa_nil))) (pa_cons (pe_tup (pa_cons (pe_ix (ix_U hu) (pe_lst (pa_cons pe_str (pa_cons pe_str pa_nil))) (pe_call (d_Ltake T) (hr.mono (by decide)) (by rfl) T.g_Ltake T.F_Ltake.kp T.b_Ltake .nil pass0 (pa_cons (pv 0) (pa_cons pe_int pa_nil))) (fun _ _ => rfl)) (pa_cons (pv 1) pa_nil))) pa_nil)) (by rfl))
      (pss_cons (ps_set (i := 5) sc_Lright.nd rfl (Or.inl rfl) (pe_ix (ix_U hu) (pe_lst (pa_cons pe_non (pa_cons pe_int (pa_cons pe_str (pa_cons (pe_tup (pa_cons pe_str pa_nil)) (pa_cons (pe_lst (pa_cons pe_str pa_nil)) (pa_cons pe_str pa_nil))))))) (pe_call (d_Ltake T) (hr.mono (by decide)) (by rfl) T.g_Ltake T.F_Ltake.kp T.b_Ltake .nil pass0 (pa_cons (pv 0) (pa_cons pe_int pa_nil))) (fun _ _ => rfl)))
      (pss_cons (ps_set (i := 6) sc_Lright.nd rfl (Or.inl rfl) (pe_lst (pa_cons (pe_mkX PySem.F.excBase_ValueError (ns29 T.ce 0 "BadText" "at" 0 (by decide) rfl) (d_init_BadText T) (hr.mono (by decide)) T.b_init_BadText passInit (by rfl) T.gx_BadText (pa_cons (pv 2) pa_nil)) (pa_cons (pe_mkX PySem.F.excBase_ValueError (ns29 T.ce 1 "BadRow" "number" 0 (by decide) rfl) (d_init_BadRow T) (hr.mono (by decide)) T.b_init_BadRow passInit (by rfl) T.gx_BadRow (pa_cons (pv 2) pa_nil)) (pa_cons (pe_mkX PySem.F.excBase_ValueError (ns29 T.ce 2 "SameSwitch" "switch" 0 (by decide) rfl) (d_init_SameSwitch T) (hr.mono (by decide)) T.b_init_SameSwitch passInit (by rfl) T.gx_SameSwitch (pa_cons (pv 1) pa_nil)) (pa_cons (pe_mkX PySem.F.excBase_ValueError (ns29 T.ce 3 "BadName" "name" 0 (by decide) rfl) (d_init_BadName T) (hr.mono (by decide)) T.b_init_BadName passInit (by rfl) T.gx_BadName (pa_cons (pv 5) pa_nil)) (pa_cons (pe_mkX0 PySem.F.excBase_ValueError (nf29 T.ce 4 "NoEffect" 0 (by decide) rfl).1 (nf29 T.ce 4 "NoEffect" 0 (by decide) rfl).2 (by rfl) T.gx_NoEffect) (pa_cons (pe_mkX0 PySem.F.excBase_ValueError (nf29 T.ce 5 "NotConnected" 0 (by decide) rfl).1 (nf29 T.ce 5 "NotConnected" 0 (by decide) rfl).2 (by rfl) T.gx_NotConnected) pa_nil))))))))
      (pss_cons (ps_set (i := 6) sc_Lright.nd rfl (Or.inl rfl) (pe_op op_addU (pv 6) (pe_lst (pa_cons (pe_mkX PySem.F.excBase_LookupError (ns29 T.ce 6 "NoSwitch" "switch" 1 (by decide) rfl) (d_init_NoSwitch T) (hr.mono (by decide)) T.b_init_NoSwitch passInit (by rfl) T.gx_NoSwitch (pa_cons (pv 1) pa_nil)) (pa_cons (pe_mkX PySem.F.excBase_LookupError (ns29 T.ce 7 "NoPair" "pair" 1 (by decide) rfl) (d_init_NoPair T) (hr.mono (by decide)) T.b_init_NoPair passInit (by rfl) T.gx_NoPair (pa_cons (pv 3) pa_nil)) (pa_cons (pe_mkX PySem.F.excBase_LookupError (ns29 T.ce 8 "NoState" "number" 1 (by decide) rfl) (d_init_NoState T) (hr.mono (by decide)) T.b_init_NoState passInit (by rfl) T.gx_NoState (pa_cons (pe_op op_sub (pv 2) pe_int) pa_nil)) (pa_cons (pe_mkX PySem.F.excBase_LookupError (ns29 T.ce 9 "NoDeed" "many" 1 (by decide) rfl) (d_init_NoDeed T) (hr.mono (by decide)) T.b_init_NoDeed passInit (by rfl) T.gx_NoDeed (pa_cons (pe_op op_sub (pv 2) pe_int) pa_nil)) (pa_cons (pe_mkX PySem.F.excBase_RuntimeError (ns29 T.ce 10 "Barred" "obstacle" 2 (by decide) rfl) (d_init_Barred T) (hr.mono (by decide)) T.b_init_Barred passInit (by rfl) T.gx_Barred (pa_cons (pv 4) pa_nil)) (pa_cons (pe_mkX0 PySem.F.excBase_RuntimeError (nf29 T.ce 11 "NoOrder" 2 (by decide) rfl).1 (nf29 T.ce 11 "NoOrder" 2 (by decide) rfl).2 (by rfl) T.gx_NoOrder) pa_nil)))))))))
      (pss_cons (ps_set (i := 6) sc_Lright.nd rfl (Or.inl rfl) (pe_op op_addU (pv 6) (pe_lst (pa_cons (pe_mkX PySem.F.excBase_RuntimeError (ns29 T.ce 12 "NoPress" "at" 2 (by decide) rfl) (d_init_NoPress T) (hr.mono (by decide)) T.b_init_NoPress passInit (by rfl) T.gx_NoPress (pa_cons (pv 2) pa_nil)) (pa_cons (pe_mkX PySem.F.excBase_RuntimeError (ns29 T.ce 13 "Taken" "switch" 2 (by decide) rfl) (d_init_Taken T) (hr.mono (by decide)) T.b_init_Taken passInit (by rfl) T.gx_Taken (pa_cons (pv 1) pa_nil)) (pa_cons (pe_mkX PySem.F.excBase_RuntimeError (ns29 T.ce 14 "Known" "pair" 2 (by decide) rfl) (d_init_Known T) (hr.mono (by decide)) T.b_init_Known passInit (by rfl) T.gx_Known (pa_cons (pv 3) pa_nil)) (pa_cons (pe_mkX PySem.F.excBase_RuntimeError (ns29 T.ce 15 "BothOn" "pair" 2 (by decide) rfl) (d_init_BothOn T) (hr.mono (by decide)) T.b_init_BothOn passInit (by rfl) T.gx_BothOn (pa_cons (pv 3) pa_nil)) (pa_cons (pe_mkX0 PySem.F.excBase_RuntimeError (nf29 T.ce 16 "LastSwitch" 2 (by decide) rfl).1 (nf29 T.ce 16 "LastSwitch" 2 (by decide) rfl).2 (by rfl) T.gx_LastSwitch) (pa_cons (pe_mkX PySem.F.excBase_OverflowError (ns29 T.ce 17 "TooMany" "many" 3 (by decide) rfl) (d_init_TooMany T) (hr.mono (by decide)) T.b_init_TooMany passInit (by rfl) T.gx_TooMany (pa_cons (pv 2) pa_nil)) pa_nil)))))))))
      (pss_cons (ps_set (i := 7) sc_Lright.nd rfl (Or.inl rfl) (pe_lst (pa_cons (pe_mkXK PySem.F.excBase_ValueError (ns29 T.ce 0 "BadText" "at" 0 (by decide) rfl) (d_init_BadText T) (hr.mono (by decide)) T.kw_init_BadText passInit (by rfl) T.gx_BadText (pk_cons (pv 2) pk_nil)) (pa_cons (pe_mkXK PySem.F.excBase_ValueError (ns29 T.ce 1 "BadRow" "number" 0 (by decide) rfl) (d_init_BadRow T) (hr.mono (by decide)) T.kw_init_BadRow passInit (by rfl) T.gx_BadRow (pk_cons (pv 2) pk_nil)) (pa_cons (pe_mkXK PySem.F.excBase_ValueError (ns29 T.ce 2 "SameSwitch" "switch" 0 (by decide) rfl) (d_init_SameSwitch T) (hr.mono (by decide)) T.kw_init_SameSwitch passInit (by rfl) T.gx_SameSwitch (pk_cons (pv 1) pk_nil)) (pa_cons (pe_mkXK PySem.F.excBase_ValueError (ns29 T.ce 3 "BadName" "name" 0 (by decide) rfl) (d_init_BadName T) (hr.mono (by decide)) T.kw_init_BadName passInit (by rfl) T.gx_BadName (pk_cons (pv 5) pk_nil)) (pa_cons (pe_mkX0 PySem.F.excBase_ValueError (nf29 T.ce 4 "NoEffect" 0 (by decide) rfl).1 (nf29 T.ce 4 "NoEffect" 0 (by decide) rfl).2 (by rfl) T.gx_NoEffect) pa_nil)))))))
      (pss_cons (ps_set (i := 7) sc_Lright.nd rfl (Or.inl rfl) (pe_op op_addU (pv 7) (pe_lst (pa_cons (pe_mkX0 PySem.F.excBase_ValueError (nf29 T.ce 5 "NotConnected" 0 (by decide) rfl).1 (nf29 T.ce 5 "NotConnected" 0 (by decide) rfl).2 (by rfl) T.gx_NotConnected) (pa_cons (pe_mkXK PySem.F.excBase_LookupError (ns29 T.ce 6 "NoSwitch" "switch" 1 (by decide) rfl) (d_init_NoSwitch T) (hr.mono (by decide)) T.kw_init_NoSwitch passInit (by rfl) T.gx_NoSwitch (pk_cons (pv 1) pk_nil)) (pa_cons (pe_mkXK PySem.F.excBase_LookupError (ns29 T.ce 7 "NoPair" "pair" 1 (by decide) rfl) (d_init_NoPair T) (hr.mono (by decide)) T.kw_init_NoPair passInit (by rfl) T.gx_NoPair (pk_cons (pv 3) pk_nil)) (pa_cons (pe_mkXK PySem.F.excBase_LookupError (ns29 T.ce 8 "NoState" "number" 1 (by decide) rfl) (d_init_NoState T) (hr.mono (by decide)) T.kw_init_NoState passInit (by rfl) T.gx_NoState (pk_cons (pe_op op_sub (pv 2) pe_int) pk_nil)) pa_nil)))))))
      (pss_cons (ps_set (i := 7) sc_Lright.nd rfl (Or.inl rfl) (pe_op op_addU (pv 7) (pe_lst (pa_cons (pe_mkXK PySem.F.excBase_LookupError (ns29 T.ce 9 "NoDeed" "many" 1 (by decide) rfl) (d_init_NoDeed T) (hr.mono (by decide)) T.kw_init_NoDeed passInit (by rfl) T.gx_NoDeed (pk_cons (pe_op op_sub (pv 2) pe_int) pk_nil)) (pa_cons (pe_mkXK PySem.F.excBase_RuntimeError (ns29 T.ce 10 "Barred" "obstacle" 2 (by decide) rfl) (d_init_Barred T) (hr.mono (by decide)) T.kw_init_Barred passInit (by rfl) T.gx_Barred (pk_cons (pv 4) pk_nil)) (pa_cons (pe_mkX0 PySem.F.excBase_RuntimeError (nf29 T.ce 11 "NoOrder" 2 (by decide) rfl).1 (nf29 T.ce 11 "NoOrder" 2 (by decide) rfl).2 (by rfl) T.gx_NoOrder) (pa_cons (pe_mkXK PySem.F.excBase_RuntimeError (ns29 T.ce 12 "NoPress" "at" 2 (by decide) rfl) (d_init_NoPress T) (hr.mono (by decide)) T.kw_init_NoPress passInit (by rfl) T.gx_NoPress (pk_cons (pv 2) pk_nil)) pa_nil)))))))
      (pss_cons (ps_set (i := 7) sc_Lright.nd rfl (Or.inl rfl) (pe_op op_addU (pv 7) (pe_lst (pa_cons (pe_mkXK PySem.F.excBase_RuntimeError (ns29 T.ce 13 "Taken" "switch" 2 (by decide) rfl) (d_init_Taken T) (hr.mono (by decide)) T.kw_init_Taken passInit (by rfl) T.gx_Taken (pk_cons (pv 1) pk_nil)) (pa_cons (pe_mkXK PySem.F.excBase_RuntimeError (ns29 T.ce 14 "Known" "pair" 2 (by decide) rfl) (d_init_Known T) (hr.mono (by decide)) T.kw_init_Known passInit (by rfl) T.gx_Known (pk_cons (pv 3) pk_nil)) (pa_cons (pe_mkXK PySem.F.excBase_RuntimeError (ns29 T.ce 15 "BothOn" "pair" 2 (by decide) rfl) (d_init_BothOn T) (hr.mono (by decide)) T.kw_init_BothOn passInit (by rfl) T.gx_BothOn (pk_cons (pv 3) pk_nil)) (pa_cons (pe_mkX0 PySem.F.excBase_RuntimeError (nf29 T.ce 16 "LastSwitch" 2 (by decide) rfl).1 (nf29 T.ce 16 "LastSwitch" 2 (by decide) rfl).2 (by rfl) T.gx_LastSwitch) (pa_cons (pe_mkXK PySem.F.excBase_OverflowError (ns29 T.ce 17 "TooMany" "many" 3 (by decide) rfl) (d_init_TooMany T) (hr.mono (by decide)) T.kw_init_TooMany passInit (by rfl) T.gx_TooMany (pk_cons (pv 2) pk_nil)) pa_nil))))))))
      (pss_cons (ps_set (i := 8) sc_Lright.nd rfl (Or.inl rfl) (pe_lst (pa_cons (pv 2) (pa_cons (pv 2) (pa_cons (pv 1) (pa_cons (pv 5) (pa_cons (pv 1) (pa_cons (pv 3) (pa_cons (pe_op op_sub (pv 2) pe_int) (pa_cons (pe_op op_sub (pv 2) pe_int) (pa_cons (pv 4) (pa_cons (pv 2) pa_nil))))))))))))
      (pss_cons (ps_set (i := 8) sc_Lright.nd rfl (Or.inl rfl) (pe_op op_addU (pv 8) (pe_lst (pa_cons (pv 1) (pa_cons (pv 3) (pa_cons (pv 3) (pa_cons (pv 2) pa_nil)))))))
      (pss_cons (ps_for PassesOwn.never rfl (pi_seq (pe_tup (pa_cons (pv 6) (pa_cons (pv 7) pa_nil)))) (pg_name (i := 9) sc_Lright.nd rfl (Or.inl rfl)) (pss_cons (ps_for PassesOwn.never rfl (pi_enum (by rfl) T.m_enumerate (pa_cons (pv 9) pa_nil)) (pg_unp rfl (pgs_cons (pg_name (i := 10) sc_Lright.nd rfl (Or.inr rfl)) (pgs_cons (pg_name (i := 11) sc_Lright.nd rfl (Or.inl rfl)) pgs_nil))) (pss_cons (ps_set (i := 12) sc_Lright.nd rfl (Or.inr rfl) (pe_ifExp (pt_cmpR (op_ltU hu) (pv 10) pe_int (nomark _)) pe_int (pe_ifExp (pt_cmpR (op_ltU hu) (pv 10) pe_int (nomark _)) pe_int (pe_ifExp (pt_cmpR (op_ltU hu) (pv 10) pe_int (nomark _)) pe_int pe_int))))
      (pss_cons (ps_if (pt_cmpR (op_neP hu) (pe_call (d_Lkinds T) (hr.mono (by decide)) (by rfl) T.g_Lkinds T.F_Lkinds.kp T.b_Lkinds .nil pass0 (pa_cons (pv 11) pa_nil)) (pe_lc (own := [("_law_other", 14)]) rfl sc_Lright.nd (pi_range1 (by rfl) T.m_range (pa_cons pe_int pa_nil)) (blkOk_by (own := [("_law_other", 14)]) (N := N_Lright) (sc := defScope s_Lright) (by decide +kernel)) (fun _ _ _ _ _ => (pg_name (i := 14) sc_Lright.nd rfl (by first | exact Or.inl rfl | exact Or.inr rfl))) (fun _ _ _ _ _ => pts_nil) (fun _ _ _ _ _ => (pe_cmpR (op_eqP hu) (pv 14) (pv 10) (nomark _)))) (nomark _)) (pss_one (ps_ret pe_bl)) pss_nil)
      (pss_one (ps_if (pt_cmpR (op_neP hu) (pe_call (d_Lunder T) (hr.mono (by decide)) (by rfl) T.g_Lunder T.F_Lunder.kp T.b_Lunder .nil pass0 (pa_cons (pv 11) pa_nil)) (pe_lc (own := [("_law_other", 14)]) rfl sc_Lright.nd (pi_range1 (by rfl) T.m_range (pa_cons pe_int pa_nil)) (blkOk_by (own := [("_law_other", 14)]) (N := N_Lright) (sc := defScope s_Lright) (by decide +kernel)) (fun _ _ _ _ _ => (pg_name (i := 14) sc_Lright.nd rfl (by first | exact Or.inl rfl | exact Or.inr rfl))) (fun _ _ _ _ _ => pts_nil) (fun _ _ _ _ _ => (pe_cmpR (op_eqP hu) (pv 14) (pv 12) (nomark _)))) (nomark _)) (pss_one (ps_ret pe_bl)) pss_nil)))))
      (pss_cons (ps_set (i := 13) sc_Lright.nd rfl (Or.inl rfl) (pe_lst (pa_cons (pe_fldX (ns29 T.ce 0 "BadText" "at" 0 (by decide) rfl) (pe_ix (ix_U hu) (pv 9) pe_int (fun _ _ => rfl))) (pa_cons (pe_fldX (ns29 T.ce 1 "BadRow" "number" 0 (by decide) rfl) (pe_ix (ix_U hu) (pv 9) pe_int (fun _ _ => rfl))) (pa_cons (pe_fldX (ns29 T.ce 2 "SameSwitch" "switch" 0 (by decide) rfl) (pe_ix (ix_U hu) (pv 9) pe_int (fun _ _ => rfl))) (pa_cons (pe_fldX (ns29 T.ce 3 "BadName" "name" 0 (by decide) rfl) (pe_ix (ix_U hu) (pv 9) pe_int (fun _ _ => rfl))) (pa_cons (pe_fldX (ns29 T.ce 6 "NoSwitch" "switch" 1 (by decide) rfl) (pe_ix (ix_U hu) (pv 9) pe_int (fun _ _ => rfl))) (pa_cons (pe_fldX (ns29 T.ce 7 "NoPair" "pair" 1 (by decide) rfl) (pe_ix (ix_U hu) (pv 9) pe_int (fun _ _ => rfl))) (pa_cons (pe_fldX (ns29 T.ce 8 "NoState" "number" 1 (by decide) rfl) (pe_ix (ix_U hu) (pv 9) pe_int (fun _ _ => rfl))) pa_nil)))))))))
      (pss_cons (ps_set (i := 13) sc_Lright.nd rfl (Or.inl rfl) (pe_op op_addU (pv 13) (pe_lst (pa_cons (pe_fldX (ns29 T.ce 9 "NoDeed" "many" 1 (by decide) rfl) (pe_ix (ix_U hu) (pv 9) pe_int (fun _ _ => rfl))) (pa_cons (pe_fldX (ns29 T.ce 10 "Barred" "obstacle" 2 (by decide) rfl) (pe_ix (ix_U hu) (pv 9) pe_int (fun _ _ => rfl))) (pa_cons (pe_fldX (ns29 T.ce 12 "NoPress" "at" 2 (by decide) rfl) (pe_ix (ix_U hu) (pv 9) pe_int (fun _ _ => rfl))) (pa_cons (pe_fldX (ns29 T.ce 13 "Taken" "switch" 2 (by decide) rfl) (pe_ix (ix_U hu) (pv 9) pe_int (fun _ _ => rfl))) (pa_cons (pe_fldX (ns29 T.ce 14 "Known" "pair" 2 (by decide) rfl) (pe_ix (ix_U hu) (pv 9) pe_int (fun _ _ => rfl))) (pa_cons (pe_fldX (ns29 T.ce 15 "BothOn" "pair" 2 (by decide) rfl) (pe_ix (ix_U hu) (pv 9) pe_int (fun _ _ => rfl))) pa_nil)))))))))
      (pss_one (ps_if (pt_not (pt_val (pe_call (d_Lsame T) (hr.mono (by decide)) (by rfl) T.g_Lsame T.F_Lsame.kp T.b_Lsame .nil pass0 (pa_cons (pe_op op_addU (pv 13) (pe_lst (pa_cons (pe_fldX (ns29 T.ce 17 "TooMany" "many" 3 (by decide) rfl) (pe_ix (ix_U hu) (pv 9) pe_int (fun _ _ => rfl))) pa_nil))) (pa_cons (pv 8) pa_nil))))) (pss_one (ps_ret pe_bl)) pss_nil))))))
      (pss_one (ps_ret pe_bl)))))))))))))))
theorem d_law (T : Tx K mg) : FnOk P w K mg base CX0 11 T.a_law T.fd_law ["_law_script"] (sp_law K) := by
  refine T.F_law.ok sc_law l_law (fun cdv A outer s H vs Q E hr h => ⟨t_law K, PSs.nox ?_, r_law vs H Q E h⟩)
  have hu := hu_room hr
  exact (pss_one (ps_ret (pe_callB (cr_all rfl) (by rfl) T.m_all (by decide +kernel) (pa_cons (pe_lc (own := [("_law_k", 1)]) rfl sc_law.nd (pi_range1 (by rfl) T.m_range (pa_cons (pe_op op_addU pe_int (pe_callB (cr_minU rfl) (by rfl) T.m_min (by decide +kernel) (pa_cons pe_int (pa_cons (pe_callB call_lenU (by rfl) T.m_len (by decide +kernel) (pa_cons (pv 0) pa_nil)) pa_nil)))) pa_nil)) (blkOk_by (own := [("_law_k", 1)]) (N := N_law) (sc := defScope s_law) (by decide +kernel)) (fun _ _ _ _ _ => (pg_name (i := 1) sc_law.nd rfl (by first | exact Or.inl rfl | exact Or.inr rfl))) (fun _ _ _ _ _ => pts_nil) (fun _ _ _ _ _ => (pe_call (d_Lright T) (hr.mono (by decide)) (by rfl) T.g_Lright T.F_Lright.kp T.b_Lright .nil pass0 (pa_cons (pe_call (d_Lbox T) (hr.mono (by decide)) (by rfl) T.g_Lbox T.F_Lbox.kp T.b_Lbox .nil pass0 (pa_cons (pv 0) (pa_cons (pv 1) pa_nil))) pa_nil)))) pa_nil))))
end
def D_Lcell_at : He.DefD := ⟨("_law_cell_at", none), "_law_cell_at", "_law_cell_at", defArgs s_Lcell_at, defBody s_Lcell_at, defScope s_Lcell_at, [], []⟩
def D_Lbox : He.DefD := ⟨("_law_box", none), "_law_box", "_law_box", defArgs s_Lbox, defBody s_Lbox, defScope s_Lbox, [], []⟩
def D_Ltake : He.DefD := ⟨("_law_take", none), "_law_take", "_law_take", defArgs s_Ltake, defBody s_Ltake, defScope s_Ltake, [], []⟩
def D_Lsame : He.DefD := ⟨("_law_same", none), "_law_same", "_law_same", defArgs s_Lsame, defBody s_Lsame, defScope s_Lsame, [], []⟩
def D_Lkinds : He.DefD := ⟨("_law_kinds", none), "_law_kinds", "_law_kinds", defArgs s_Lkinds, defBody s_Lkinds, defScope s_Lkinds, [], []⟩
def D_Lunder : He.DefD := ⟨("_law_under", none), "_law_under", "_law_under", defArgs s_Lunder, defBody s_Lunder, defScope s_Lunder, [], []⟩
def D_Lright : He.DefD := ⟨("_law_right", none), "_law_right", "_law_right", defArgs s_Lright, defBody s_Lright, defScope s_Lright, [], []⟩
def D_law : He.DefD := ⟨("law", none), "law", "law", defArgs s_law, defBody s_law, defScope s_law, [], []⟩
def D_init_BadText : He.DefD := ⟨("BadText", some "__init__"), "__init__", "BadText.__init__", defArgs s_init_BadText, defBody s_init_BadText, defScope s_init_BadText, [], []⟩
def D_init_BadRow : He.DefD := ⟨("BadRow", some "__init__"), "__init__", "BadRow.__init__", defArgs s_init_BadRow, defBody s_init_BadRow, defScope s_init_BadRow, [], []⟩
def D_init_SameSwitch : He.DefD := ⟨("SameSwitch", some "__init__"), "__init__", "SameSwitch.__init__", defArgs s_init_SameSwitch, defBody s_init_SameSwitch, defScope s_init_SameSwitch, [], []⟩
def D_init_BadName : He.DefD := ⟨("BadName", some "__init__"), "__init__", "BadName.__init__", defArgs s_init_BadName, defBody s_init_BadName, defScope s_init_BadName, [], []⟩
def D_init_NoSwitch : He.DefD := ⟨("NoSwitch", some "__init__"), "__init__", "NoSwitch.__init__", defArgs s_init_NoSwitch, defBody s_init_NoSwitch, defScope s_init_NoSwitch, [], []⟩
def D_init_NoPair : He.DefD := ⟨("NoPair", some "__init__"), "__init__", "NoPair.__init__", defArgs s_init_NoPair, defBody s_init_NoPair, defScope s_init_NoPair, [], []⟩
def D_init_NoState : He.DefD := ⟨("NoState", some "__init__"), "__init__", "NoState.__init__", defArgs s_init_NoState, defBody s_init_NoState, defScope s_init_NoState, [], []⟩
def D_init_NoDeed : He.DefD := ⟨("NoDeed", some "__init__"), "__init__", "NoDeed.__init__", defArgs s_init_NoDeed, defBody s_init_NoDeed, defScope s_init_NoDeed, [], []⟩
def D_init_Barred : He.DefD := ⟨("Barred", some "__init__"), "__init__", "Barred.__init__", defArgs s_init_Barred, defBody s_init_Barred, defScope s_init_Barred, [], []⟩
def D_init_NoPress : He.DefD := ⟨("NoPress", some "__init__"), "__init__", "NoPress.__init__", defArgs s_init_NoPress, defBody s_init_NoPress, defScope s_init_NoPress, [], []⟩
def D_init_Taken : He.DefD := ⟨("Taken", some "__init__"), "__init__", "Taken.__init__", defArgs s_init_Taken, defBody s_init_Taken, defScope s_init_Taken, [], []⟩
def D_init_Known : He.DefD := ⟨("Known", some "__init__"), "__init__", "Known.__init__", defArgs s_init_Known, defBody s_init_Known, defScope s_init_Known, [], []⟩
def D_init_BothOn : He.DefD := ⟨("BothOn", some "__init__"), "__init__", "BothOn.__init__", defArgs s_init_BothOn, defBody s_init_BothOn, defScope s_init_BothOn, [], []⟩
def D_init_TooMany : He.DefD := ⟨("TooMany", some "__init__"), "__init__", "TooMany.__init__", defArgs s_init_TooMany, defBody s_init_TooMany, defScope s_init_TooMany, [], []⟩
def fn : List He.DefD := [D_Lcell_at, D_Lbox, D_Ltake, D_Lsame, D_Lkinds, D_Lunder, D_Lright, D_law, D_init_BadText, D_init_BadRow, D_init_SameSwitch, D_init_BadName, D_init_NoSwitch, D_init_NoPair, D_init_NoState, D_init_NoDeed, D_init_Barred, D_init_NoPress, D_init_Taken, D_init_Known, D_init_BothOn, D_init_TooMany]
def fa : List He.Fa := [.glo "_law_cell_at", .glo "_law_box", .glo "_law_take", .glo "_law_same", .glo "_law_kinds", .glo "_law_under", .glo "_law_right", .glo "law", .free "IndexError", .free "KeyError", .free "LookupError", .free "NotImplementedError", .free "OverflowError", .free "RuntimeError", .free "ValueError", .free "abs", .free "all", .free "bool", .free "enumerate", .free "int", .free "isinstance", .free "len", .free "list", .free "min", .free "range", .free "str", .free "tuple", .free "zip", .glo "BadText", .glo "BadRow", .glo "SameSwitch", .glo "BadName", .glo "NoEffect", .glo "NotConnected", .glo "NoSwitch", .glo "NoPair", .glo "NoState", .glo "NoDeed", .glo "Barred", .glo "NoOrder", .glo "NoPress", .glo "Taken", .glo "Known", .glo "BothOn", .glo "LastSwitch", .glo "TooMany"]
def loose : List Str := (["BadText", "BadRow", "SameSwitch", "BadName", "NoEffect", "NotConnected", "NoSwitch", "NoPair", "NoState", "NoDeed", "Barred", "NoOrder", "NoPress", "Taken", "Known", "BothOn", "LastSwitch", "TooMany", "_law_cell_at", "_law_box"] : List Str) ++ (["_law_take", "_law_same", "_law_kinds", "_law_under", "_law_right"] : List Str)
abbrev R : PySem.W.OpenRow := PySem.W.OpenLaw.row PySem.Challenge.rw_offbyon_k29_error_classes
def tf : List He.Defn := []
abbrev hk : PySem.W.Hook := He.hookX 4 fa fn [] tf ok29
def ob (s : PySem.W.SharedT) : He.AlX := He.obsX 4 fa fn [] tf ok29 (HandSHeadRun.getT s)
theorem ob_eq (s : PySem.W.SharedT) : ob s = hk.obs s.abs := He.obsX_eq (HandSHeadRun.getT_eq s)
theorem run (w : World) : HandSHeadRun.RunEq R (PySem.W.view R.prog [27]) hk ob 40000 loose w := by
  intro os
  kernel_rfl
theorem facts {P : Program} {w : World} {K : PySem.W.Frag} {h : Heap} {mg : Str → Option Value} {f : Addr} (X : K.In h) (G : h.Ns mainGlobals mg) (hfa : mg ("law" : Str) = some (.ref f)) (c : He.SaysD fa fn K) (cm : ok29 K = true) :
    ∃ fd : FuncData, (∀ (s : Shared) (v : Value), BindsTo s fd ⟨[v], []⟩ [("_law_script", v)]) ∧ ∀ base : Heap, K.In base → base.Ns mainGlobals mg → FnOk P w K mg base CX0 11 f fd ["_law_script"] (sp_law K) := by
  obtain ⟨fd_Lcell_at, F_Lcell_at⟩ := c.def_ 0 (d := D_Lcell_at) rfl
  obtain ⟨fd_Lbox, F_Lbox⟩ := c.def_ 1 (d := D_Lbox) rfl
  obtain ⟨fd_Ltake, F_Ltake⟩ := c.def_ 2 (d := D_Ltake) rfl
  obtain ⟨fd_Lsame, F_Lsame⟩ := c.def_ 3 (d := D_Lsame) rfl
  obtain ⟨fd_Lkinds, F_Lkinds⟩ := c.def_ 4 (d := D_Lkinds) rfl
  obtain ⟨fd_Lunder, F_Lunder⟩ := c.def_ 5 (d := D_Lunder) rfl
  obtain ⟨fd_Lright, F_Lright⟩ := c.def_ 6 (d := D_Lright) rfl
  obtain ⟨fd_law, F_law⟩ := c.def_ 7 (d := D_law) rfl
  have e := hfa.symm.trans (He.glo_ok X G (c.fact 7 (f := .glo "law") rfl))
  cases e
  obtain ⟨fd_init_BadText, F_init_BadText⟩ := c.def_ 8 (d := D_init_BadText) rfl
  obtain ⟨fd_init_BadRow, F_init_BadRow⟩ := c.def_ 9 (d := D_init_BadRow) rfl
  obtain ⟨fd_init_SameSwitch, F_init_SameSwitch⟩ := c.def_ 10 (d := D_init_SameSwitch) rfl
  obtain ⟨fd_init_BadName, F_init_BadName⟩ := c.def_ 11 (d := D_init_BadName) rfl
  obtain ⟨fd_init_NoSwitch, F_init_NoSwitch⟩ := c.def_ 12 (d := D_init_NoSwitch) rfl
  obtain ⟨fd_init_NoPair, F_init_NoPair⟩ := c.def_ 13 (d := D_init_NoPair) rfl
  obtain ⟨fd_init_NoState, F_init_NoState⟩ := c.def_ 14 (d := D_init_NoState) rfl
  obtain ⟨fd_init_NoDeed, F_init_NoDeed⟩ := c.def_ 15 (d := D_init_NoDeed) rfl
  obtain ⟨fd_init_Barred, F_init_Barred⟩ := c.def_ 16 (d := D_init_Barred) rfl
  obtain ⟨fd_init_NoPress, F_init_NoPress⟩ := c.def_ 17 (d := D_init_NoPress) rfl
  obtain ⟨fd_init_Taken, F_init_Taken⟩ := c.def_ 18 (d := D_init_Taken) rfl
  obtain ⟨fd_init_Known, F_init_Known⟩ := c.def_ 19 (d := D_init_Known) rfl
  obtain ⟨fd_init_BothOn, F_init_BothOn⟩ := c.def_ 20 (d := D_init_BothOn) rfl
  obtain ⟨fd_init_TooMany, F_init_TooMany⟩ := c.def_ 21 (d := D_init_TooMany) rfl
  have b := FunD.bindsA (ps := ["_law_script"]) F_law fun _ _ _ _ _ _ us hl => match us, hl with | [_], _ => rfl
  exact ⟨fd_law, fun s v => b s [v] rfl, fun base _ _ => d_law (⟨_, fd_Lcell_at, F_Lcell_at, He.glo_ok X G (c.fact 0 (f := .glo "_law_cell_at") rfl), FunD.bindsN F_Lcell_at (fun _ _ _ _ _ _ us hl => match us, hl with | [_, _], _ => rfl),
    _, fd_Lbox, F_Lbox, He.glo_ok X G (c.fact 1 (f := .glo "_law_box") rfl), FunD.bindsN F_Lbox (fun _ _ _ _ _ _ us hl => match us, hl with | [_, _], _ => rfl),
    _, fd_Ltake, F_Ltake, He.glo_ok X G (c.fact 2 (f := .glo "_law_take") rfl), FunD.bindsN F_Ltake (fun _ _ _ _ _ _ us hl => match us, hl with | [_, _], _ => rfl),
    _, fd_Lsame, F_Lsame, He.glo_ok X G (c.fact 3 (f := .glo "_law_same") rfl), FunD.bindsN F_Lsame (fun _ _ _ _ _ _ us hl => match us, hl with | [_, _], _ => rfl),
    _, fd_Lkinds, F_Lkinds, He.glo_ok X G (c.fact 4 (f := .glo "_law_kinds") rfl), FunD.bindsN F_Lkinds (fun _ _ _ _ _ _ us hl => match us, hl with | [_], _ => rfl),
    _, fd_Lunder, F_Lunder, He.glo_ok X G (c.fact 5 (f := .glo "_law_under") rfl), FunD.bindsN F_Lunder (fun _ _ _ _ _ _ us hl => match us, hl with | [_], _ => rfl),
    _, fd_Lright, F_Lright, He.glo_ok X G (c.fact 6 (f := .glo "_law_right") rfl), FunD.bindsN F_Lright (fun _ _ _ _ _ _ us hl => match us, hl with | [_], _ => rfl),
    _, fd_law, F_law, He.glo_ok X G (c.fact 7 (f := .glo "law") rfl), FunD.bindsN F_law (fun _ _ _ _ _ _ us hl => match us, hl with | [_], _ => rfl),
    cm,
    He.glo_ok X G (c.fact 28 (f := .glo "BadText") rfl),
    fd_init_BadText,
    F_init_BadText,
    FunD.bindsN F_init_BadText (fun _ _ _ _ _ _ us hl => match us, hl with | [_, _], _ => rfl),
    kbindsN (ps := ["self", "at"]) F_init_BadText 1 ["at"] (fun kV doc pm an cdv ct us ws l1 l2 => match us, ws, l1, l2 with | [_], [_], _, _ => rfl),
    He.glo_ok X G (c.fact 29 (f := .glo "BadRow") rfl),
    fd_init_BadRow,
    F_init_BadRow,
    FunD.bindsN F_init_BadRow (fun _ _ _ _ _ _ us hl => match us, hl with | [_, _], _ => rfl),
    kbindsN (ps := ["self", "number"]) F_init_BadRow 1 ["number"] (fun kV doc pm an cdv ct us ws l1 l2 => match us, ws, l1, l2 with | [_], [_], _, _ => rfl),
    He.glo_ok X G (c.fact 30 (f := .glo "SameSwitch") rfl),
    fd_init_SameSwitch,
    F_init_SameSwitch,
    FunD.bindsN F_init_SameSwitch (fun _ _ _ _ _ _ us hl => match us, hl with | [_, _], _ => rfl),
    kbindsN (ps := ["self", "switch"]) F_init_SameSwitch 1 ["switch"] (fun kV doc pm an cdv ct us ws l1 l2 => match us, ws, l1, l2 with | [_], [_], _, _ => rfl),
    He.glo_ok X G (c.fact 31 (f := .glo "BadName") rfl),
    fd_init_BadName,
    F_init_BadName,
    FunD.bindsN F_init_BadName (fun _ _ _ _ _ _ us hl => match us, hl with | [_, _], _ => rfl),
    kbindsN (ps := ["self", "name"]) F_init_BadName 1 ["name"] (fun kV doc pm an cdv ct us ws l1 l2 => match us, ws, l1, l2 with | [_], [_], _, _ => rfl),
    He.glo_ok X G (c.fact 32 (f := .glo "NoEffect") rfl),
    He.glo_ok X G (c.fact 33 (f := .glo "NotConnected") rfl),
    He.glo_ok X G (c.fact 34 (f := .glo "NoSwitch") rfl),
    fd_init_NoSwitch,
    F_init_NoSwitch,
    FunD.bindsN F_init_NoSwitch (fun _ _ _ _ _ _ us hl => match us, hl with | [_, _], _ => rfl),
    kbindsN (ps := ["self", "switch"]) F_init_NoSwitch 1 ["switch"] (fun kV doc pm an cdv ct us ws l1 l2 => match us, ws, l1, l2 with | [_], [_], _, _ => rfl),
    He.glo_ok X G (c.fact 35 (f := .glo "NoPair") rfl),
    fd_init_NoPair,
    F_init_NoPair,
    FunD.bindsN F_init_NoPair (fun _ _ _ _ _ _ us hl => match us, hl with | [_, _], _ => rfl),
    kbindsN (ps := ["self", "pair"]) F_init_NoPair 1 ["pair"] (fun kV doc pm an cdv ct us ws l1 l2 => match us, ws, l1, l2 with | [_], [_], _, _ => rfl),
    He.glo_ok X G (c.fact 36 (f := .glo "NoState") rfl),
    fd_init_NoState,
    F_init_NoState,
    FunD.bindsN F_init_NoState (fun _ _ _ _ _ _ us hl => match us, hl with | [_, _], _ => rfl),
    kbindsN (ps := ["self", "number"]) F_init_NoState 1 ["number"] (fun kV doc pm an cdv ct us ws l1 l2 => match us, ws, l1, l2 with | [_], [_], _, _ => rfl),
    He.glo_ok X G (c.fact 37 (f := .glo "NoDeed") rfl),
    fd_init_NoDeed,
    F_init_NoDeed,
    FunD.bindsN F_init_NoDeed (fun _ _ _ _ _ _ us hl => match us, hl with | [_, _], _ => rfl),
    kbindsN (ps := ["self", "many"]) F_init_NoDeed 1 ["many"] (fun kV doc pm an cdv ct us ws l1 l2 => match us, ws, l1, l2 with | [_], [_], _, _ => rfl),
    He.glo_ok X G (c.fact 38 (f := .glo "Barred") rfl),
    fd_init_Barred,
    F_init_Barred,
    FunD.bindsN F_init_Barred (fun _ _ _ _ _ _ us hl => match us, hl with | [_, _], _ => rfl),
    kbindsN (ps := ["self", "obstacle"]) F_init_Barred 1 ["obstacle"] (fun kV doc pm an cdv ct us ws l1 l2 => match us, ws, l1, l2 with | [_], [_], _, _ => rfl),
    He.glo_ok X G (c.fact 39 (f := .glo "NoOrder") rfl),
    He.glo_ok X G (c.fact 40 (f := .glo "NoPress") rfl),
    fd_init_NoPress,
    F_init_NoPress,
    FunD.bindsN F_init_NoPress (fun _ _ _ _ _ _ us hl => match us, hl with | [_, _], _ => rfl),
    kbindsN (ps := ["self", "at"]) F_init_NoPress 1 ["at"] (fun kV doc pm an cdv ct us ws l1 l2 => match us, ws, l1, l2 with | [_], [_], _, _ => rfl),
    He.glo_ok X G (c.fact 41 (f := .glo "Taken") rfl),
    fd_init_Taken,
    F_init_Taken,
    FunD.bindsN F_init_Taken (fun _ _ _ _ _ _ us hl => match us, hl with | [_, _], _ => rfl),
    kbindsN (ps := ["self", "switch"]) F_init_Taken 1 ["switch"] (fun kV doc pm an cdv ct us ws l1 l2 => match us, ws, l1, l2 with | [_], [_], _, _ => rfl),
    He.glo_ok X G (c.fact 42 (f := .glo "Known") rfl),
    fd_init_Known,
    F_init_Known,
    FunD.bindsN F_init_Known (fun _ _ _ _ _ _ us hl => match us, hl with | [_, _], _ => rfl),
    kbindsN (ps := ["self", "pair"]) F_init_Known 1 ["pair"] (fun kV doc pm an cdv ct us ws l1 l2 => match us, ws, l1, l2 with | [_], [_], _, _ => rfl),
    He.glo_ok X G (c.fact 43 (f := .glo "BothOn") rfl),
    fd_init_BothOn,
    F_init_BothOn,
    FunD.bindsN F_init_BothOn (fun _ _ _ _ _ _ us hl => match us, hl with | [_, _], _ => rfl),
    kbindsN (ps := ["self", "pair"]) F_init_BothOn 1 ["pair"] (fun kV doc pm an cdv ct us ws l1 l2 => match us, ws, l1, l2 with | [_], [_], _, _ => rfl),
    He.glo_ok X G (c.fact 44 (f := .glo "LastSwitch") rfl),
    He.glo_ok X G (c.fact 45 (f := .glo "TooMany") rfl),
    fd_init_TooMany,
    F_init_TooMany,
    FunD.bindsN F_init_TooMany (fun _ _ _ _ _ _ us hl => match us, hl with | [_, _], _ => rfl),
    kbindsN (ps := ["self", "many"]) F_init_TooMany 1 ["many"] (fun kV doc pm an cdv ct us ws l1 l2 => match us, ws, l1, l2 with | [_], [_], _, _ => rfl),
    He.free_ok X G (c.fact 8 (f := .free "IndexError") rfl),
    He.free_ok X G (c.fact 9 (f := .free "KeyError") rfl),
    He.free_ok X G (c.fact 10 (f := .free "LookupError") rfl),
    He.free_ok X G (c.fact 11 (f := .free "NotImplementedError") rfl),
    He.free_ok X G (c.fact 12 (f := .free "OverflowError") rfl),
    He.free_ok X G (c.fact 13 (f := .free "RuntimeError") rfl),
    He.free_ok X G (c.fact 14 (f := .free "ValueError") rfl),
    He.free_ok X G (c.fact 15 (f := .free "abs") rfl),
    He.free_ok X G (c.fact 16 (f := .free "all") rfl),
    He.free_ok X G (c.fact 17 (f := .free "bool") rfl),
    He.free_ok X G (c.fact 18 (f := .free "enumerate") rfl),
    He.free_ok X G (c.fact 19 (f := .free "int") rfl),
    He.free_ok X G (c.fact 20 (f := .free "isinstance") rfl),
    He.free_ok X G (c.fact 21 (f := .free "len") rfl),
    He.free_ok X G (c.fact 22 (f := .free "list") rfl),
    He.free_ok X G (c.fact 23 (f := .free "min") rfl),
    He.free_ok X G (c.fact 24 (f := .free "range") rfl),
    He.free_ok X G (c.fact 25 (f := .free "str") rfl),
    He.free_ok X G (c.fact 26 (f := .free "tuple") rfl),
    He.free_ok X G (c.fact 27 (f := .free "zip") rfl)⟩ : Tx K mg)⟩
theorem ex_refl (H : Hp) : Ex H H := Ex.refl H
end Ob
open PySem PySem.W PySem.Calls PyProof.Rows
theorem PySem.Challenge.cw_offbyon_k29_error_classes_holds : PySem.Challenge.rw_offbyon_k29_error_classes.Holds := by
  w_on; o_law
  refine HandSHeadRun.head_any (r := OpenLaw.row PySem.Challenge.rw_offbyon_k29_error_classes) (q := view (OpenLaw.row PySem.Challenge.rw_offbyon_k29_error_classes).prog [27]) (H := Ob.hk) (ob := Ob.ob) (M := 40000) (loose := Ob.loose) (d := HandSHeadRun.topDef (OpenLaw.row PySem.Challenge.rw_offbyon_k29_error_classes).prog 27) (kwd := []) Ob.ob_eq
    (by kernel_rfl) (fun s => by kernel_rfl) Ob.run (by kernel_rfl) (by kernel_rfl) (by kernel_rfl) (by rfl) (by first | assumption | decide +kernel) (by decide +kernel) ⟨rfl, rfl, rfl, rfl, rfl, by decide +kernel⟩ ?hw ?hc
  case hw => w_witness2
  case hc =>

    refine L2.walk_ofE (l := PySem.Challenge.rw_offbyon_k29_error_classes) (n := 63) (k := 11) (x := "_law_script") (CX := L2.CX0) rfl (by decide) (by kernel_rfl) ⟨rfl, by decide, by decide⟩ ?F (fun _ _ _ _ z => z)
    intro w mg fa h Y G hmg0
    obtain ⟨K, KX, c⟩ := Y
    have hmg : mg ("law" : PySem.Str) = some (.ref fa) := by
      have e : (HandSHeadRun.topDef (OpenLaw.row PySem.Challenge.rw_offbyon_k29_error_classes).prog 27).name = ("law" : PySem.Str) := by kernel_rfl
      rw [← e]
      exact hmg0
    obtain ⟨fd, hb, hF⟩ := Ob.facts (P := (PySem.Challenge.rw_offbyon_k29_error_classes).prog) (w := w) KX G hmg c.t.d c.more
    exact ⟨K, fd, Ob.sp_law K, KX, hb, fun H a ns hl _ hS => ⟨⟨ns⟩, H, Ob.ex_refl H, ⟨_, _, rfl, ⟨a, _, rfl, .inl hS, Ob.ints_atAll ns⟩, rfl⟩, trivial, fun v B2 H2 u hv => Ob.at_bl.mp hv⟩, hF⟩
