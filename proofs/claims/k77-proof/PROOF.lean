import PyProof.Rows.All
import Wide.All
import OpenK.AllK
import Wide.FinOn
import HandS.ForMost
import HandS.Deep
import HandS.IsInst
import HandS.Evl
import HandS.Style
import HandS.TupMul
import HandS.TupAny
import HandS.Flow
import HandS.Exc
import HandS.ExcInit
import HandS.TryOnly
import HandS.RaiseOp
import PyProof.P3Eq
import KE.KExcIs
import HandS.ExcOwn
import HandS.WordsExc
import HandS.ForList
import PySem.Challenge.RW_rootsreckon_k77_sentences_checked
set_option Elab.async false
set_option linter.all false
set_option maxRecDepth 100000
set_option maxHeartbeats 2000000
/-! DL1: a layer of plain data over the hand layer. Values are data (PyData); a def's locals are a list of slots; each expression
has a denotation (a partial function of the slots), and its reading follows from that. -/
namespace DL
open PySem L2
abbrev Ex := Evl.Ex

/-! ### data stand while the heap grows -/
mutual
theorem dp_ex {K : PySem.W.Frag} {H H' : Hp} (e : Ex H H') : ∀ (d : PyData) (v : V), Dp K H v d → Dp K H' v d
  | .none, _, h => by cases h; exact .non
  | .bool b, _, h => by cases h; exact .bl b
  | .int i, _, h => by cases h; exact .int i
  | .str x, _, h => by cases h; exact .str x
  | .list ds, _, h => by
    cases h with
    | lst hs ha => exact .lst (Evl.ex_l e hs) (dps_ex e ds _ ha)
  | .tuple ds, _, h => by
    cases h with
    | tup hs ha => exact .tup (Evl.ex_t e hs) (dps_ex e ds _ ha)
  | .dict _, _, h => by cases h
theorem dps_ex {K : PySem.W.Frag} {H H' : Hp} (e : Ex H H') : ∀ (ds : List PyData) (vs : List V), DpAll K H vs ds → DpAll K H' vs ds
  | [], _, h => by cases h; exact .nil
  | d :: ds, _, h => by
    cases h with
    | cons h1 h2 => exact .cons (dp_ex e d _ h1) (dps_ex e ds _ h2)
end

section
variable {K : PySem.W.Frag} {H : Hp}
theorem dps_len : ∀ {ds : List PyData} {vs : List V}, DpAll K H vs ds → vs.length = ds.length
  | [], _, h => by cases h; rfl
  | d :: ds, _, h => by
    cases h with
    | cons h1 h2 => simp [dps_len h2]
theorem dps_get : ∀ {ds : List PyData} {vs : List V} {i : Nat} {d : PyData}, DpAll K H vs ds → ds[i]? = some d → ∃ v, vs[i]? = some v ∧ Dp K H v d
  | [], _, _, _, h, e => by simp at e
  | d :: ds, _, 0, _, h, e => by
    cases h with
    | cons h1 h2 => simp at e; subst e; exact ⟨_, rfl, h1⟩
  | d :: ds, _, i + 1, x, h, e => by
    cases h with
    | cons h1 h2 =>
      obtain ⟨v, a, b⟩ := dps_get (i := i) (d := x) h2 (by simpa using e)
      exact ⟨v, by simpa using a, b⟩
theorem dps_get' : ∀ {ds : List PyData} {vs : List V} {i : Nat} {v : V}, DpAll K H vs ds → vs[i]? = some v → ∃ d, ds[i]? = some d ∧ Dp K H v d
  | [], _, _, _, h, e => by cases h; simp at e
  | d :: ds, _, 0, _, h, e => by
    cases h with
    | cons h1 h2 => simp at e; subst e; exact ⟨_, rfl, h1⟩
  | d :: ds, _, i + 1, x, h, e => by
    cases h with
    | cons h1 h2 =>
      obtain ⟨v, a, b⟩ := dps_get' (i := i) (v := x) h2 (by simpa using e)
      exact ⟨v, by simpa using a, b⟩
theorem dps_app : ∀ {ds es : List PyData} {vs ws : List V}, DpAll K H vs ds → DpAll K H ws es → DpAll K H (vs ++ ws) (ds ++ es)
  | [], _, _, _, h, k => by cases h; exact k
  | d :: ds, _, _, _, h, k => by
    cases h with
    | cons h1 h2 => exact .cons h1 (dps_app h2 k)
theorem dps_drop : ∀ {ds : List PyData} {vs : List V} (n : Nat), DpAll K H vs ds → DpAll K H (vs.drop n) (ds.drop n)
  | _, _, 0, h => h
  | [], _, n + 1, h => by cases h; exact .nil
  | d :: ds, _, n + 1, h => by
    cases h with
    | cons h1 h2 => exact dps_drop n h2
theorem dps_take : ∀ {ds : List PyData} {vs : List V} (n : Nat), DpAll K H vs ds → DpAll K H (vs.take n) (ds.take n)
  | _, _, 0, h => .nil
  | [], _, n + 1, h => by cases h; exact .nil
  | d :: ds, _, n + 1, h => by
    cases h with
    | cons h1 h2 => exact .cons h1 (dps_take n h2)
theorem dps_rev : ∀ {ds : List PyData} {vs : List V}, DpAll K H vs ds → DpAll K H vs.reverse ds.reverse
  | [], _, h => by cases h; exact .nil
  | d :: ds, _, h => by
    cases h with
    | cons h1 h2 =>
      rw [List.reverse_cons, List.reverse_cons]
      exact dps_app (dps_rev h2) (.cons h1 .nil)
theorem dps_dropLast {ds : List PyData} {vs : List V} (h : DpAll K H vs ds) : DpAll K H vs.dropLast ds.dropLast := by
  rw [List.dropLast_eq_take, List.dropLast_eq_take, dps_len h]
  exact dps_take _ h
theorem dps_set : ∀ {ds : List PyData} {vs : List V} (n : Nat) {v : V} {d : PyData}, DpAll K H vs ds → Dp K H v d → DpAll K H (vs.set n v) (ds.set n d)
  | [], _, n, _, _, h, _ => by cases h; exact .nil
  | d :: ds, _, 0, _, _, h, k => by
    cases h with
    | cons h1 h2 => exact .cons k h2
  | d :: ds, _, n + 1, _, _, h, k => by
    cases h with
    | cons h1 h2 => exact .cons h1 (dps_set n h2 k)
theorem dps_rep : ∀ {ds : List PyData} {vs : List V} (k : Nat), DpAll K H vs ds → DpAll K H (List.replicate k vs).flatten (List.replicate k ds).flatten
  | _, _, 0, _ => .nil
  | _, _, k + 1, h => by
    rw [List.replicate_succ, List.replicate_succ, List.flatten_cons, List.flatten_cons]
    exact dps_app h (dps_rep k h)
theorem dps_ints : ∀ (ns : List Int), DpAll K H (ns.map V.int) (ns.map PyData.int)
  | [] => .nil
  | n :: ns => .cons (.int n) (dps_ints ns)
end

/-! ### two heaps: B holds what never changes, H all -/
structure Stp (B H B' H' : Hp) : Prop where
  bb : Ex B B'
  hh : Ex H H'
  bh : Ex B' H'
  new : ∀ a, H a ≠ none → B a = none → B' a = none
theorem Stp.refl {B H : Hp} (e : Ex B H) : Stp B H B H := ⟨Evl.Ex.refl _, Evl.Ex.refl _, e, fun _ _ n => n⟩
theorem ex_some {H H' : Hp} (e : Ex H H') {a : Addr} (h : H a ≠ none) : H' a ≠ none := by
  cases q : H a with
  | none => exact absurd q h
  | some o => rw [e a o q]; exact fun z => nomatch z
theorem Stp.trans {B H B1 H1 B2 H2 : Hp} (s : Stp B H B1 H1) (t : Stp B1 H1 B2 H2) : Stp B H B2 H2 :=
  ⟨s.bb.trans t.bb, s.hh.trans t.hh, t.bh, fun a h n => t.new a (ex_some s.hh h) (s.new a h n)⟩
/-- a new object, for good -/
theorem Stp.lay {B H : Hp} (e : Ex B H) {p : Addr} (o : HO) (hp : H p = none) : Stp B H (upd B p o) (upd H p o) := by
  have bp := Evl.fresh_back e hp
  refine ⟨Evl.Ex.new bp, Evl.Ex.new hp, fun a u q => ?_, fun a h n => ?_⟩
  · by_cases ha : a = p
    · subst ha; rw [upd_same] at q ⊢; exact q
    · rw [upd_ne ha] at q ⊢; exact e a u q
  · by_cases ha : a = p
    · subst ha; exact absurd hp h
    · rw [upd_ne ha]; exact n
/-- a new object that may change later -/
theorem Stp.add {B H : Hp} (e : Ex B H) {p : Addr} (o : HO) (hp : H p = none) : Stp B H B (upd H p o) :=
  ⟨Evl.Ex.refl _, Evl.Ex.new hp, fun a u q => by
    by_cases ha : a = p
    · subst ha; rw [e a u q] at hp; cases hp
    · rw [upd_ne ha]; exact e a u q, fun _ _ n => n⟩
/-- an object that was made since is kept for good -/
theorem Stp.fix {B H B1 H1 : Hp} (s : Stp B H B1 H1) {p : Addr} {o : HO} (hp : H p = none) (h1 : H1 p = some o) (b1 : B1 p = none) : Stp B H (upd B1 p o) H1 := by
  refine ⟨s.bb.trans (Evl.Ex.new b1), s.hh, fun a u q => ?_, fun a h n => ?_⟩
  · by_cases ha : a = p
    · subst ha; rw [upd_same] at q; cases q; exact h1
    · rw [upd_ne ha] at q; exact s.bh a u q
  · have ha : a ≠ p := fun z => by subst z; exact h hp
    rw [upd_ne ha]; exact s.new a h n

/-! ### slots -/
inductive Sl where
  | dat (d : PyData)
  | own (l : List PyData)
abbrev Rho := List (Option Sl)
/-- where a def begins: what never changes, and the address that its first slot keeps, if it is asked to -/
structure BZ where
  b : Hp
  z : Addr → Prop
/-- a slot may be stored to -/
abbrev NZ (B0 : BZ) (i : Nat) : Prop := i = 0 → ∀ l, ¬ B0.z l
structure Rel (K : PySem.W.Frag) (B0 : BZ) (H0 B H : Hp) (σ : L2.St) (ρ : Rho) : Prop where
  len : ρ.length = σ.length
  stp : Stp B0.b H0 B H
  pin : ∀ l, B0.z l → σ[0]? = some (some (V.ref l))
  dat : ∀ (i : Nat) d, ρ[i]? = some (some (.dat d)) → ∃ v, σ[i]? = some (some v) ∧ Dp K B v d
  own : ∀ (i : Nat) ds, ρ[i]? = some (some (.own ds)) → ∃ l vs, σ[i]? = some (some (V.ref l)) ∧ H l = some (.lst vs) ∧ B l = none ∧ H0 l = none ∧ DpAll K B vs ds
  sep : ∀ (i j : Nat) ds es l, ρ[i]? = some (some (.own ds)) → ρ[j]? = some (some (.own es)) → σ[i]? = some (some (V.ref l)) → σ[j]? = some (some (V.ref l)) → i = j
section
variable {K : PySem.W.Frag} {B0 : BZ} {H0 B H B' H' : Hp} {σ : L2.St} {ρ : Rho}
theorem Rel.bh (R : Rel K B0 H0 B H σ ρ) : Ex B H := R.stp.bh
theorem Rel.step (R : Rel K B0 H0 B H σ ρ) (s : Stp B H B' H') : Rel K B0 H0 B' H' σ ρ where
  len := R.len
  stp := R.stp.trans s
  pin := R.pin
  dat := fun i d e => by
    obtain ⟨v, a, b⟩ := R.dat i d e
    exact ⟨v, a, dp_ex s.bb _ _ b⟩
  own := fun i ds e => by
    obtain ⟨l, vs, a, b, c, d, f⟩ := R.own i ds e
    exact ⟨l, vs, a, s.hh _ _ b, s.new l (by rw [b]; exact fun z => nomatch z) c, d, dps_ex s.bb _ _ f⟩
  sep := R.sep
theorem set_eq {α : Type} {l : List α} {i j : Nat} {x y : α} (h : (l.set i x)[j]? = some y) : (i = j ∧ x = y ∧ i < l.length) ∨ (i ≠ j ∧ l[j]? = some y) := by
  rw [List.getElem?_set] at h
  split at h
  · rename_i e
    subst e
    split at h
    · exact .inl ⟨rfl, Option.some.inj h, by assumption⟩
    · cases h
  · exact .inr ⟨by assumption, h⟩
theorem get_set_ne {α : Type} {l : List α} {i j : Nat} {x : α} (h : i ≠ j) : (l.set i x)[j]? = l[j]? := by
  rw [List.getElem?_set, if_neg h]
theorem get_set_eq {α : Type} {l : List α} {i : Nat} {x : α} (h : i < l.length) : (l.set i x)[i]? = some x := by
  rw [List.getElem?_set, if_pos rfl, if_pos h]
/-- a slot takes data -/
theorem pin_set {Z : Addr → Prop} {i : Nat} {x : Option V} (p : ∀ l, Z l → σ[0]? = some (some (V.ref l))) (nz : i = 0 → ∀ l, ¬ Z l) : ∀ l, Z l → (σ.set i x)[0]? = some (some (V.ref l)) := fun l h => by
  by_cases hi : i = 0
  · exact absurd h (nz hi l)
  · rw [get_set_ne hi]; exact p l h
theorem Rel.setDat (R : Rel K B0 H0 B H σ ρ) {i : Nat} {v : V} {d : PyData} (nz : NZ B0 i) (h : Dp K B v d) : Rel K B0 H0 B H (σ.set i (some v)) (ρ.set i (some (.dat d))) where
  len := by rw [List.length_set, List.length_set]; exact R.len
  stp := R.stp
  pin := pin_set R.pin nz
  dat := fun j e q => by
    rcases set_eq q with ⟨rfl, q, hl⟩ | ⟨ne, q⟩
    · cases q
      exact ⟨v, get_set_eq (by rw [← R.len]; exact hl), h⟩
    · rw [get_set_ne ne]; exact R.dat j e q
  own := fun j es q => by
    rcases set_eq q with ⟨rfl, q, hl⟩ | ⟨ne, q⟩
    · cases q
    · rw [get_set_ne ne]; exact R.own j es q
  sep := fun a b ds es l qa qb sa sb => by
    rcases set_eq qa with ⟨rfl, q, hl⟩ | ⟨ne, qa⟩
    · cases q
    rcases set_eq qb with ⟨rfl, q, hl⟩ | ⟨ne', qb⟩
    · cases q
    rw [get_set_ne ne] at sa
    rw [get_set_ne ne'] at sb
    exact R.sep a b ds es l qa qb sa sb
/-- a slot takes a new list of the def's own -/
theorem Rel.setOwn (R : Rel K B0 H0 B H σ ρ) {i : Nat} {l : Addr} {vs : List V} {ds : List PyData} (nz : NZ B0 i) (h1 : H l = some (.lst vs)) (h2 : B l = none) (h3 : H0 l = none) (h4 : DpAll K B vs ds)
    (hn : ∀ (j : Nat) (es : List PyData), ρ[j]? = some (some (Sl.own es)) → σ[j]? ≠ some (some (V.ref l))) : Rel K B0 H0 B H (σ.set i (some (.ref l))) (ρ.set i (some (.own ds))) where
  len := by rw [List.length_set, List.length_set]; exact R.len
  stp := R.stp
  pin := pin_set R.pin nz
  dat := fun j e q => by
    rcases set_eq q with ⟨rfl, q, hl⟩ | ⟨ne, q⟩
    · cases q
    · rw [get_set_ne ne]; exact R.dat j e q
  own := fun j es q => by
    rcases set_eq q with ⟨rfl, q, hl⟩ | ⟨ne, q⟩
    · cases q
      exact ⟨l, vs, get_set_eq (by rw [← R.len]; exact hl), h1, h2, h3, h4⟩
    · rw [get_set_ne ne]; exact R.own j es q
  sep := fun a b ds' es' l' qa qb sa sb => by
    rcases set_eq qa with ⟨rfl, q, hl⟩ | ⟨ne, qa⟩
    · rcases set_eq qb with ⟨rfl, q', hl'⟩ | ⟨ne', qb⟩
      · rfl
      · rw [get_set_eq (by rw [← R.len]; exact hl)] at sa
        rw [get_set_ne ne'] at sb
        cases sa
        exact absurd sb (hn b es' qb)
    · rcases set_eq qb with ⟨rfl, q', hl'⟩ | ⟨ne', qb⟩
      · rw [get_set_eq (by rw [← R.len]; exact hl')] at sb
        rw [get_set_ne ne] at sa
        cases sb
        exact absurd sa (hn a ds' qa)
      · rw [get_set_ne ne] at sa
        rw [get_set_ne ne'] at sb
        exact R.sep a b ds' es' l' qa qb sa sb
/-- a slot forgotten -/
theorem Rel.setNone (R : Rel K B0 H0 B H σ ρ) {i : Nat} {o : Option V} (nz : NZ B0 i) : Rel K B0 H0 B H (σ.set i o) (ρ.set i none) where
  len := by rw [List.length_set, List.length_set]; exact R.len
  stp := R.stp
  pin := pin_set R.pin nz
  dat := fun j e q => by
    rcases set_eq q with ⟨rfl, q, hl⟩ | ⟨ne, q⟩
    · cases q
    · rw [get_set_ne ne]; exact R.dat j e q
  own := fun j es q => by
    rcases set_eq q with ⟨rfl, q, hl⟩ | ⟨ne, q⟩
    · cases q
    · rw [get_set_ne ne]; exact R.own j es q
  sep := fun a b ds es l qa qb sa sb => by
    rcases set_eq qa with ⟨rfl, q, hl⟩ | ⟨ne, qa⟩
    · cases q
    rcases set_eq qb with ⟨rfl, q, hl⟩ | ⟨ne', qb⟩
    · cases q
    rw [get_set_ne ne] at sa
    rw [get_set_ne ne'] at sb
    exact R.sep a b ds es l qa qb sa sb
/-- the list of an own slot is changed -/
theorem Rel.chg (R : Rel K B0 H0 B H σ ρ) {i : Nat} {l : Addr} {ds : List PyData} {vs' : List V} {ds' : List PyData} (hr : ρ[i]? = some (some (.own ds))) (hs : σ[i]? = some (some (V.ref l))) (h4 : DpAll K B vs' ds') :
    Rel K B0 H0 B (upd H l (.lst vs')) σ (ρ.set i (some (.own ds'))) := by
  obtain ⟨l1, vs, a, b, c, d, f⟩ := R.own i ds hr
  rw [hs] at a
  cases a
  refine ⟨by rw [List.length_set]; exact R.len, ⟨R.stp.bb, fun x o q => ?_, fun x o q => ?_, R.stp.new⟩, R.pin, fun j e q => ?_, fun j es q => ?_, fun x y ds1 es1 l1 qa qb sa sb => ?_⟩
  · have hx : x ≠ l := fun z => by subst z; rw [d] at q; cases q
    rw [upd_ne hx]; exact R.stp.hh x o q
  · have hx : x ≠ l := fun z => by subst z; rw [c] at q; cases q
    rw [upd_ne hx]; exact R.stp.bh x o q
  · rcases set_eq q with ⟨rfl, q, hl⟩ | ⟨ne, q⟩
    · cases q
    · exact R.dat j e q
  · rcases set_eq q with ⟨rfl, q, hl⟩ | ⟨ne, q⟩
    · cases q
      exact ⟨l, vs', hs, upd_same, c, d, h4⟩
    · obtain ⟨l2, vs2, a2, b2, c2, d2, f2⟩ := R.own j es q
      have hx : l2 ≠ l := fun z => by
        subst z
        exact ne (R.sep i j ds es l2 hr q hs a2)
      exact ⟨l2, vs2, a2, by rw [upd_ne hx]; exact b2, c2, d2, f2⟩
  · have f : ∀ (z : Nat) (zs : List PyData), (ρ.set i (some (Sl.own ds')))[z]? = some (some (Sl.own zs)) → ∃ ys, ρ[z]? = some (some (Sl.own ys)) := fun z zs q => by
      rcases set_eq q with ⟨rfl, q, hl⟩ | ⟨ne, q⟩
      · exact ⟨ds, hr⟩
      · exact ⟨zs, q⟩
    obtain ⟨u, hu⟩ := f x ds1 qa
    obtain ⟨w, hw⟩ := f y es1 qb
    exact R.sep x y u w l1 hu hw sa sb
/-- an own slot's list is kept for good -/
theorem Rel.frz (R : Rel K B0 H0 B H σ ρ) {i : Nat} {ds : List PyData} (hr : ρ[i]? = some (some (.own ds))) : ∃ l vs, σ[i]? = some (some (V.ref l)) ∧ Ex B (upd B l (.lst vs)) ∧ Dp K (upd B l (.lst vs)) (.ref l) (.list ds) ∧
    Rel K B0 H0 (upd B l (.lst vs)) H σ (ρ.set i (some (.dat (.list ds)))) := by
  obtain ⟨l, vs, a, b, c, d, f⟩ := R.own i ds hr
  have e : Ex B (upd B l (.lst vs)) := Evl.Ex.new c
  have q0 : Dp K (upd B l (.lst vs)) (.ref l) (.list ds) := .lst (.of upd_same) (dps_ex e _ _ f)
  refine ⟨l, vs, a, e, q0, by rw [List.length_set]; exact R.len, ⟨R.stp.bb.trans e, R.stp.hh, fun x o q => ?_, fun x h n => ?_⟩, R.pin, fun j x q => ?_, fun j es q => ?_, fun x y ds1 es1 l1 qa qb sa sb => ?_⟩
  · by_cases hx : x = l
    · subst hx; rw [upd_same] at q; cases q; exact b
    · rw [upd_ne hx] at q; exact R.stp.bh x o q
  · have hx : x ≠ l := fun z => by subst z; exact h d
    rw [upd_ne hx]; exact R.stp.new x h n
  · rcases set_eq q with ⟨rfl, q, hl⟩ | ⟨ne, q⟩
    · cases q
      exact ⟨_, a, q0⟩
    · obtain ⟨v, a1, b1⟩ := R.dat j x q
      exact ⟨v, a1, dp_ex e _ _ b1⟩
  · rcases set_eq q with ⟨rfl, q, hl⟩ | ⟨ne, q⟩
    · cases q
    · obtain ⟨l2, vs2, a2, b2, c2, d2, f2⟩ := R.own j es q
      have hx : l2 ≠ l := fun z => by
        subst z
        exact ne (R.sep i j ds es l2 hr q a a2)
      exact ⟨l2, vs2, a2, b2, by rw [upd_ne hx]; exact c2, d2, dps_ex e _ _ f2⟩
  · rcases set_eq qa with ⟨rfl, q, hl⟩ | ⟨ne, qa⟩
    · cases q
    rcases set_eq qb with ⟨rfl, q, hl⟩ | ⟨ne', qb⟩
    · cases q
    exact R.sep x y ds1 es1 l1 qa qb sa sb
end
end DL

set_option Elab.async false
set_option linter.all false
set_option maxRecDepth 100000
set_option maxHeartbeats 2000000
/-! DL2: expressions: their denotations and the rules. -/
namespace DL
open PySem L2 PyProof.Rows
abbrev DE := Rho → Option PyData
abbrev DLs := Rho → Option (List PyData)

/-- the readings: data for good (P); data as it stands (K); a list whose items are for good (E); a new list (L); a test (T); arguments (A, AK) -/
def rdP (K : PySem.W.Frag) (B0 : BZ) (H0 : Hp) (de : DE) : TE := fun σ H Q => ∃ B ρ d, Rel K B0 H0 B H σ ρ ∧ de ρ = some d ∧ ∀ v B' H', Stp B H B' H' → Dp K B' v d → Q v H'
def rdK (K : PySem.W.Frag) (B0 : BZ) (H0 : Hp) (de : DE) : TE := fun σ H Q => ∃ B ρ d, Rel K B0 H0 B H σ ρ ∧ de ρ = some d ∧ ∀ v B' H', Stp B H B' H' → Dp K H' v d → Q v H'
def rdE (K : PySem.W.Frag) (B0 : BZ) (H0 : Hp) (dl : DLs) : TE := fun σ H Q => ∃ B ρ ds, Rel K B0 H0 B H σ ρ ∧ dl ρ = some ds ∧ ∀ l vs B' H', Stp B H B' H' → SqL K H' l vs → DpAll K B' vs ds → Q (.ref l) H'
def rdL (K : PySem.W.Frag) (B0 : BZ) (H0 : Hp) (dl : DLs) : TE := fun σ H Q => ∃ B ρ ds, Rel K B0 H0 B H σ ρ ∧ dl ρ = some ds ∧ ∀ l vs B' H', Stp B H B' H' → H l = none → B' l = none → H' l = some (.lst vs) → DpAll K B' vs ds → Q (.ref l) H'
def rdT (K : PySem.W.Frag) (B0 : BZ) (H0 : Hp) (dt : Rho → Option Bool) : TT := fun σ H Q => ∃ B ρ b, Rel K B0 H0 B H σ ρ ∧ dt ρ = some b ∧ ∀ B' H', Stp B H B' H' → Q b H'
def rdA (K : PySem.W.Frag) (B0 : BZ) (H0 : Hp) (da : DLs) : TA := fun σ H Q => ∃ B ρ ds, Rel K B0 H0 B H σ ρ ∧ da ρ = some ds ∧ ∀ vs B' H', Stp B H B' H' → DpAll K B' vs ds → Q vs H'
def rdAK (K : PySem.W.Frag) (B0 : BZ) (H0 : Hp) (da : DLs) : TA := fun σ H Q => ∃ B ρ ds, Rel K B0 H0 B H σ ρ ∧ da ρ = some ds ∧ ∀ vs B' H', Stp B H B' H' → DpAll K H' vs ds → Q vs H'
def rdO (K : PySem.W.Frag) (B0 : BZ) (H0 : Hp) (dn : Rho → Option (Option Int)) : TO := fun σ H Q => ∃ B ρ o, Rel K B0 H0 B H σ ρ ∧ dn ρ = some o ∧ ∀ B' H', Stp B H B' H' → Q o H'

section
variable {X : Cx} {B0 : BZ} {H0 : Hp} {e a b c : Expr} {pos : Pos}
abbrev DP (X : Cx) (B0 : BZ) (H0 : Hp) (e : Expr) (de : DE) : Prop := PE X e (rdP X.K B0 H0 de)
abbrev DK (X : Cx) (B0 : BZ) (H0 : Hp) (e : Expr) (de : DE) : Prop := PE X e (rdK X.K B0 H0 de)
abbrev DEl (X : Cx) (B0 : BZ) (H0 : Hp) (e : Expr) (dl : DLs) : Prop := PE X e (rdE X.K B0 H0 dl)
abbrev DLn (X : Cx) (B0 : BZ) (H0 : Hp) (e : Expr) (dl : DLs) : Prop := PE X e (rdL X.K B0 H0 dl)
abbrev DT (X : Cx) (B0 : BZ) (H0 : Hp) (e : Expr) (dt : Rho → Option Bool) : Prop := PT X e (rdT X.K B0 H0 dt)
abbrev DW (X : Cx) (B0 : BZ) (H0 : Hp) (e : Expr) (dt : Rho → Option Bool) : Prop := PW X e (rdT X.K B0 H0 dt)
abbrev DA (X : Cx) (B0 : BZ) (H0 : Hp) (es : List Expr) (da : DLs) : Prop := PA X es (rdA X.K B0 H0 da)
abbrev DAK (X : Cx) (B0 : BZ) (H0 : Hp) (es : List Expr) (da : DLs) : Prop := PA X es (rdAK X.K B0 H0 da)
abbrev DO (X : Cx) (B0 : BZ) (H0 : Hp) (e : Option Expr) (dn : Rho → Option (Option Int)) : Prop := PO X e (rdO X.K B0 H0 dn)

theorem pe_imp {t t' : TE} (h : PE X e t) (k : ∀ σ H Q, t' σ H Q → t σ H Q) : PE X e t' := ⟨fun pins s σ H Q I q => h.run pins s σ H Q I (k σ H Q q)⟩
theorem pt_imp {t t' : TT} (h : PT X e t) (k : ∀ σ H Q, t' σ H Q → t σ H Q) : PT X e t' := ⟨fun pins s σ H Q I q => h.run pins s σ H Q I (k σ H Q q)⟩
theorem pw_imp {t t' : TT} (h : PW X e t) (k : ∀ σ H Q, t' σ H Q → t σ H Q) : PW X e t' := ⟨fun w pins s σ H Q I q => h.run w pins s σ H Q I (k σ H Q q)⟩
theorem pa_imp {es : List Expr} {t t' : TA} (h : PA X es t) (k : ∀ σ H Q, t' σ H Q → t σ H Q) : PA X es t' := ⟨fun p pins s σ H Q I q => h.run p pins s σ H Q I (k σ H Q q)⟩
theorem po_imp {eo : Option Expr} {t t' : TO} (h : PO X eo t) (k : ∀ σ H Q, t' σ H Q → t σ H Q) : PO X eo t' := ⟨fun pins s σ H Q I q => h.run pins s σ H Q I (k σ H Q q)⟩

/-! ### from one to the other -/
theorem dk_of {de : DE} (h : DP X B0 H0 e de) : DK X B0 H0 e de := pe_imp h fun σ H Q ⟨B, ρ, d, R, ed, k⟩ => ⟨B, ρ, d, R, ed, fun v B' H' s q => k v B' H' s (dp_ex s.bh _ _ q)⟩
def lD (dl : DLs) : DE := fun ρ => (dl ρ).map PyData.list
theorem map_some {α β : Type} {f : α → β} {o : Option α} {y : β} (h : o.map f = some y) : ∃ x, o = some x ∧ f x = y := by
  cases o with
  | none => cases h
  | some x => exact ⟨x, rfl, Option.some.inj h⟩
theorem bind_some {α β : Type} {f : α → Option β} {o : Option α} {y : β} (h : o.bind f = some y) : ∃ x, o = some x ∧ f x = some y := by
  cases o with
  | none => cases h
  | some x => exact ⟨x, rfl, h⟩
/-- a new list, kept for good -/
theorem dp_ofL {dl : DLs} (h : DLn X B0 H0 e dl) : DP X B0 H0 e (lD dl) := pe_imp h fun σ H Q ⟨B, ρ, d, R, ed, k⟩ => by
  obtain ⟨ds, e1, rfl⟩ := map_some ed
  exact ⟨B, ρ, ds, R, e1, fun l vs B' H' s hl bl h1 q => k (.ref l) (upd B' l (.lst vs)) H' (s.fix hl h1 bl) (.lst (.of upd_same) (dps_ex (Evl.Ex.new bl) _ _ q))⟩
theorem de_ofL {dl : DLs} (h : DLn X B0 H0 e dl) : DEl X B0 H0 e dl := pe_imp h fun σ H Q ⟨B, ρ, d, R, ed, k⟩ =>
  ⟨B, ρ, d, R, ed, fun l vs B' H' s hl bl h1 q => k l vs B' H' s (.of h1) q⟩
def asL (de : DE) : DLs := fun ρ => (de ρ).bind fun d => match d with
  | .list ds => some ds
  | _ => none
theorem asL_some {de : DE} {ρ : Rho} {ds : List PyData} (h : asL de ρ = some ds) : de ρ = some (.list ds) := by
  obtain ⟨d, e1, e2⟩ := bind_some h
  cases d <;> first | (cases e2; exact e1) | cases e2
theorem de_ofP {de : DE} (h : DP X B0 H0 e de) : DEl X B0 H0 e (asL de) := pe_imp h fun σ H Q ⟨B, ρ, ds, R, ed, k⟩ =>
  ⟨B, ρ, .list ds, R, asL_some ed, fun v B' H' s q => by
    cases q with
    | lst hs ha => exact k _ _ B' H' s (Evl.ex_l s.bh hs) ha⟩
theorem dk_ofE {dl : DLs} (h : DEl X B0 H0 e dl) : DK X B0 H0 e (lD dl) := pe_imp h fun σ H Q ⟨B, ρ, d, R, ed, k⟩ => by
  obtain ⟨ds, e1, rfl⟩ := map_some ed
  exact ⟨B, ρ, ds, R, e1, fun l vs B' H' s hs q => k (.ref l) B' H' s (.lst hs (dps_ex s.bh _ _ q))⟩

/-! ### two in a row -/
theorem kk {K : PySem.W.Frag} {da db : DE} {B H : Hp} {σ : L2.St} {ρ : Rho} {x y : PyData} {W : V → V → Hp → Prop} (R : Rel K B0 H0 B H σ ρ) (ea : da ρ = some x) (eb : db ρ = some y)
    (k : ∀ v u B' H', Stp B H B' H' → Dp K H' v x → Dp K H' u y → W v u H') : rdK K B0 H0 da σ H fun v H1 => rdK K B0 H0 db σ H1 fun u H2 => W v u H2 :=
  ⟨B, ρ, x, R, ea, fun v B1 H1 s1 q1 => ⟨B1, ρ, y, R.step s1, eb, fun u B2 H2 s2 q2 => k v u B2 H2 (s1.trans s2) (dp_ex s2.hh _ _ q1) q2⟩⟩
theorem pk {K : PySem.W.Frag} {da db : DE} {B H : Hp} {σ : L2.St} {ρ : Rho} {x y : PyData} {W : V → V → Hp → Prop} (R : Rel K B0 H0 B H σ ρ) (ea : da ρ = some x) (eb : db ρ = some y)
    (k : ∀ v u B' H', Stp B H B' H' → Dp K B' v x → Dp K H' u y → W v u H') : rdP K B0 H0 da σ H fun v H1 => rdK K B0 H0 db σ H1 fun u H2 => W v u H2 :=
  ⟨B, ρ, x, R, ea, fun v B1 H1 s1 q1 => ⟨B1, ρ, y, R.step s1, eb, fun u B2 H2 s2 q2 => k v u B2 H2 (s1.trans s2) (dp_ex s2.bb _ _ q1) q2⟩⟩
theorem pp {K : PySem.W.Frag} {da db : DE} {B H : Hp} {σ : L2.St} {ρ : Rho} {x y : PyData} {W : V → V → Hp → Prop} (R : Rel K B0 H0 B H σ ρ) (ea : da ρ = some x) (eb : db ρ = some y)
    (k : ∀ v u B' H', Stp B H B' H' → Dp K B' v x → Dp K B' u y → W v u H') : rdP K B0 H0 da σ H fun v H1 => rdP K B0 H0 db σ H1 fun u H2 => W v u H2 :=
  ⟨B, ρ, x, R, ea, fun v B1 H1 s1 q1 => ⟨B1, ρ, y, R.step s1, eb, fun u B2 H2 s2 q2 => k v u B2 H2 (s1.trans s2) (dp_ex s2.bb _ _ q1) q2⟩⟩
theorem ek {K : PySem.W.Frag} {da : DLs} {db : DE} {B H : Hp} {σ : L2.St} {ρ : Rho} {x : List PyData} {y : PyData} {W : V → V → Hp → Prop} (R : Rel K B0 H0 B H σ ρ) (ea : da ρ = some x) (eb : db ρ = some y)
    (k : ∀ l vs u B' H', Stp B H B' H' → SqL K H' l vs → DpAll K B' vs x → Dp K H' u y → W (.ref l) u H') : rdE K B0 H0 da σ H fun v H1 => rdK K B0 H0 db σ H1 fun u H2 => W v u H2 :=
  ⟨B, ρ, x, R, ea, fun l vs B1 H1 s1 h1 q1 => ⟨B1, ρ, y, R.step s1, eb, fun u B2 H2 s2 q2 => k l vs u B2 H2 (s1.trans s2) (Evl.ex_l s2.hh h1) (dps_ex s2.bb _ _ q1) q2⟩⟩
theorem ee {K : PySem.W.Frag} {da db : DLs} {B H : Hp} {σ : L2.St} {ρ : Rho} {x y : List PyData} {W : V → V → Hp → Prop} (R : Rel K B0 H0 B H σ ρ) (ea : da ρ = some x) (eb : db ρ = some y)
    (k : ∀ l vs m us B' H', Stp B H B' H' → SqL K H' l vs → DpAll K B' vs x → SqL K H' m us → DpAll K B' us y → W (.ref l) (.ref m) H') : rdE K B0 H0 da σ H fun v H1 => rdE K B0 H0 db σ H1 fun u H2 => W v u H2 :=
  ⟨B, ρ, x, R, ea, fun l vs B1 H1 s1 h1 q1 => ⟨B1, ρ, y, R.step s1, eb, fun m us B2 H2 s2 h2 q2 => k l vs m us B2 H2 (s1.trans s2) (Evl.ex_l s2.hh h1) (dps_ex s2.bb _ _ q1) h2 q2⟩⟩
def o2 (F : PyData → PyData → Option PyData) (da db : DE) : DE := fun ρ => (da ρ).bind fun x => (db ρ).bind fun y => F x y
theorem o2_some {F : PyData → PyData → Option PyData} {da db : DE} {ρ : Rho} {d : PyData} (h : o2 F da db ρ = some d) : ∃ x y, da ρ = some x ∧ db ρ = some y ∧ F x y = some d := by
  obtain ⟨x, e1, h⟩ := bind_some h
  obtain ⟨y, e2, h⟩ := bind_some h
  exact ⟨x, y, e1, e2, h⟩
def o1 (F : PyData → Option PyData) (da : DE) : DE := fun ρ => (da ρ).bind F

/-! ### names, constants -/
def vD (i : Nat) : DE := fun ρ => match ρ[i]? with
  | some (some (.dat d)) => some d
  | _ => none
def vK (i : Nat) : DE := fun ρ => match ρ[i]? with
  | some (some (.dat d)) => some d
  | some (some (.own l)) => some (.list l)
  | _ => none
def vO (i : Nat) : DLs := fun ρ => match ρ[i]? with
  | some (some (.own l)) => some l
  | _ => none
theorem vD_some {i : Nat} {ρ : Rho} {d : PyData} (h : vD i ρ = some d) : ρ[i]? = some (some (Sl.dat d)) := by
  unfold vD at h
  split at h
  · cases h; assumption
  · cases h
theorem vO_some {i : Nat} {ρ : Rho} {d : List PyData} (h : vO i ρ = some d) : ρ[i]? = some (some (Sl.own d)) := by
  unfold vO at h
  split at h
  · cases h; assumption
  · cases h
theorem dp_var {i : Nat} {x : Str} (hN : X.N[i]? = some x) (hv : Vis X.env.scope x) (hd : (x == ("__debug__" : Str)) = false := by decide) (hcd : (x == ("__classdict__" : Str)) = false := by decide) : DP X B0 H0 (.Name x pos) (vD i) :=
  pe_imp (pe_var hN hv hd hcd) fun σ H Q ⟨B, ρ, d, R, ed, k⟩ => by
    obtain ⟨v, a, b⟩ := R.dat i d (vD_some ed)
    exact ⟨v, a, k v B H (.refl R.bh) b⟩
theorem de_own {i : Nat} {x : Str} (hN : X.N[i]? = some x) (hv : Vis X.env.scope x) (hd : (x == ("__debug__" : Str)) = false := by decide) (hcd : (x == ("__classdict__" : Str)) = false := by decide) : DEl X B0 H0 (.Name x pos) (vO i) :=
  pe_imp (pe_var hN hv hd hcd) fun σ H Q ⟨B, ρ, d, R, ed, k⟩ => by
    obtain ⟨l, vs, a, b, c, _, f⟩ := R.own i d (vO_some ed)
    exact ⟨_, a, k l vs B H (.refl R.bh) (.of b) f⟩
def cD (d : PyData) : DE := fun _ => some d
theorem dp_const {v : V} {d : PyData} (h : PE X e (tC v)) (hd : ∀ H, Dp X.K H v d) : DP X B0 H0 e (cD d) := pe_imp h fun σ H Q ⟨B, ρ, d', R, ed, k⟩ => by
  cases ed
  exact k v B H (.refl R.bh) (hd B)
theorem dp_int {i : Int} {j} : DP X B0 H0 (.Constant (.int i) j pos) (cD (.int i)) := dp_const pe_int fun _ => .int i
theorem dp_bl {i : Bool} {j} : DP X B0 H0 (.Constant (.bool i) j pos) (cD (.bool i)) := dp_const pe_bl fun _ => .bl i
theorem dp_str {i : Str} {j} : DP X B0 H0 (.Constant (.str i) j pos) (cD (.str i)) := dp_const pe_str fun _ => .str i
theorem dp_non {j} : DP X B0 H0 (.Constant .none j pos) (cD .none) := dp_const pe_non fun _ => .non
theorem dp_glob {x : Str} {v : V} {u : Value} {d : PyData} (hg : Gl X x) (hm : X.mg x = some u) (r : RelV v u) (hd : ∀ H, Dp X.K H v d) (hdb : (x == ("__debug__" : Str)) = false := by decide) : DP X B0 H0 (.Name x pos) (cD d) :=
  dp_const (pe_glob hg hm r hdb) hd

/-! ### operators -/
/-- the answer does not hang on the heap -/
def Sc (K : PySem.W.Frag) (v : V) (d : PyData) : Prop := ∀ H, Dp K H v d
theorem Sc.int {K : PySem.W.Frag} (i : Int) : Sc K (.int i) (.int i) := fun _ => .int i
theorem Sc.bl {K : PySem.W.Frag} (i : Bool) : Sc K (.bl i) (.bool i) := fun _ => .bl i
theorem Sc.str {K : PySem.W.Frag} (i : Str) : Sc K (.str i) (.str i) := fun _ => .str i
theorem Sc.non {K : PySem.W.Frag} : Sc K .non .none := fun _ => .non
def ScOp (K : PySem.W.Frag) (r : R2) (F : PyData → PyData → Option PyData) : Prop := ∀ H v u x y d Q, F x y = some d → Dp K H v x → Dp K H u y → (∀ w, Sc K w d → Q w H) → r v u H Q
theorem sc_read {da db : DE} {r : R2} {F : PyData → PyData → Option PyData} {K : PySem.W.Frag} (hF : ScOp K r F) (σ : L2.St) (H : Hp) (Q : VK) (h : rdP K B0 H0 (o2 F da db) σ H Q) : tOp r (rdK K B0 H0 da) (rdK K B0 H0 db) σ H Q := by
  obtain ⟨B, ρ, d, R, ed, k⟩ := h
  obtain ⟨x, y, e1, e2, e3⟩ := o2_some ed
  exact kk R e1 e2 fun v u B' H' s q1 q2 => hF H' v u x y d Q e3 q1 q2 fun w hw => k w B' H' s (hw B')
theorem dp_sc {op : Operator} {r : R2} {F : PyData → PyData → Option PyData} {da db : DE} (ho : OpR X (binaryOp op) r) (hF : ScOp X.K r F) (ha : DK X B0 H0 a da) (hb : DK X B0 H0 b db) : DP X B0 H0 (.BinOp a op b pos) (o2 F da db) :=
  pe_imp (pe_op ho ha hb) (sc_read hF)
theorem dp_cmp {op : CmpOp} {r : R2} {F : PyData → PyData → Option PyData} {da db : DE} (ho : OpR X (compareOp op) r) (hF : ScOp X.K r F) (ha : DK X B0 H0 a da) (hb : DK X B0 H0 b db) (hm : behindInMarks op b = false) : DP X B0 H0 (.Compare a [op] [b] pos) (o2 F da db) :=
  pe_imp (pe_cmpR ho ha hb hm) (sc_read hF)
def tB (de : DE) : Rho → Option Bool := fun ρ => (de ρ).bind fun d => match d with
  | .bool b => some b
  | _ => none
theorem tB_some {de : DE} {ρ : Rho} {b : Bool} (h : tB de ρ = some b) : de ρ = some (.bool b) := by
  obtain ⟨d, e1, e2⟩ := bind_some h
  cases d <;> first | (cases e2; exact e1) | cases e2
theorem dp_bool {K : PySem.W.Frag} {H : Hp} {v : V} {b : Bool} (h : Dp K H v (.bool b)) : v = .bl b := by cases h; rfl
theorem dp_int' {K : PySem.W.Frag} {H : Hp} {v : V} {b : Int} (h : Dp K H v (.int b)) : v = .int b := by cases h; rfl
theorem dp_str' {K : PySem.W.Frag} {H : Hp} {v : V} {b : Str} (h : Dp K H v (.str b)) : v = .str b := by cases h; rfl
theorem dt_cmp {op : CmpOp} {r : R2} {F : PyData → PyData → Option PyData} {da db : DE} (ho : OpR X (compareOp op) r) (hF : ScOp X.K r F) (ha : DK X B0 H0 a da) (hb : DK X B0 H0 b db) (hm : behindInMarks op b = false) : DT X B0 H0 (.Compare a [op] [b] pos) (tB (o2 F da db)) :=
  pt_imp (pt_cmpR ho ha hb hm) fun σ H Q ⟨B, ρ, d, R, ed, k⟩ => sc_read hF σ H _ ⟨B, ρ, .bool d, R, tB_some ed, fun v B' H' s q => ⟨d, dp_bool q, k B' H' s⟩⟩

def fAdd : PyData → PyData → Option PyData
  | .int i, .int j => some (.int (i + j))
  | _, _ => none
def fSub : PyData → PyData → Option PyData
  | .int i, .int j => some (.int (i - j))
  | _, _ => none
def mulOk (i j : Int) : Bool := decide (-(2 ^ 64) < i ∧ i < 2 ^ 64) || decide (-(2 ^ 64) < j ∧ j < 2 ^ 64)
def fMul : PyData → PyData → Option PyData
  | .int i, .int j => if mulOk i j then some (.int (i * j)) else none
  | _, _ => none
def fMod : PyData → PyData → Option PyData
  | .int i, .int j => if 0 < j then some (.int (i % j)) else none
  | _, _ => none
def fDiv : PyData → PyData → Option PyData
  | .int i, .int j => if 0 < j ∧ j < 1073741824 then some (.int (i / j)) else none
  | _, _ => none
def fPow : PyData → PyData → Option PyData
  | .int i, .int j => if 0 ≤ j ∧ j ≤ 1000000 ∧ i.natAbs < 2 ^ 64 then some (.int (i ^ j.toNat)) else none
  | _, _ => none
theorem sc_add {K : PySem.W.Frag} : ScOp K (rI0 fun i j => .int (i + j)) fAdd := fun H v u x y d Q e h1 h2 k => by
  unfold fAdd at e
  split at e
  · cases e; cases h1; cases h2; exact ⟨_, _, rfl, rfl, k _ (.int _)⟩
  · cases e
theorem sc_sub {K : PySem.W.Frag} : ScOp K (rI0 fun i j => .int (i - j)) fSub := fun H v u x y d Q e h1 h2 k => by
  unfold fSub at e
  split at e
  · cases e; cases h1; cases h2; exact ⟨_, _, rfl, rfl, k _ (.int _)⟩
  · cases e
theorem sc_mul {K : PySem.W.Frag} : ScOp K (rI CMul fun i j => .int (i * j)) fMul := fun H v u x y d Q e h1 h2 k => by
  unfold fMul at e
  split at e
  · split at e
    · rename_i hm
      cases e; cases h1; cases h2
      refine ⟨_, _, rfl, rfl, ?_, k _ (.int _)⟩
      unfold mulOk at hm
      rw [Bool.or_eq_true, decide_eq_true_eq, decide_eq_true_eq] at hm
      exact hm
    · cases e
  · cases e
theorem sc_mod {K : PySem.W.Frag} : ScOp K (rI (fun _ j => 0 < j) fun i j => .int (i % j)) fMod := fun H v u x y d Q e h1 h2 k => by
  unfold fMod at e
  split at e
  · split at e
    · rename_i hm
      cases e; cases h1; cases h2
      exact ⟨_, _, rfl, rfl, hm, k _ (.int _)⟩
    · cases e
  · cases e
theorem sc_div {K : PySem.W.Frag} : ScOp K (rI CDiv fun i j => .int (i / j)) fDiv := fun H v u x y d Q e h1 h2 k => by
  unfold fDiv at e
  split at e
  · split at e
    · rename_i hm
      cases e; cases h1; cases h2
      exact ⟨_, _, rfl, rfl, hm, k _ (.int _)⟩
    · cases e
  · cases e
theorem sc_pow {K : PySem.W.Frag} : ScOp K (rI CPow fun i j => .int (i ^ j.toNat)) fPow := fun H v u x y d Q e h1 h2 k => by
  unfold fPow at e
  split at e
  · split at e
    · rename_i hm
      cases e; cases h1; cases h2
      exact ⟨_, _, rfl, rfl, hm, k _ (.int _)⟩
    · cases e
  · cases e
theorem dp_add {da db : DE} (ha : DK X B0 H0 a da) (hb : DK X B0 H0 b db) : DP X B0 H0 (.BinOp a .Add b pos) (o2 fAdd da db) := dp_sc op_add sc_add ha hb
theorem dp_sub {da db : DE} (ha : DK X B0 H0 a da) (hb : DK X B0 H0 b db) : DP X B0 H0 (.BinOp a .Sub b pos) (o2 fSub da db) := dp_sc op_sub sc_sub ha hb
theorem dp_mul {da db : DE} (ha : DK X B0 H0 a da) (hb : DK X B0 H0 b db) : DP X B0 H0 (.BinOp a .Mult b pos) (o2 fMul da db) := dp_sc op_mul sc_mul ha hb
theorem dp_mod {da db : DE} (ha : DK X B0 H0 a da) (hb : DK X B0 H0 b db) : DP X B0 H0 (.BinOp a .Mod b pos) (o2 fMod da db) := dp_sc op_mod sc_mod ha hb
theorem dp_div {da db : DE} (ha : DK X B0 H0 a da) (hb : DK X B0 H0 b db) : DP X B0 H0 (.BinOp a .FloorDiv b pos) (o2 fDiv da db) := dp_sc op_fdiv sc_div ha hb
theorem dp_pow {da db : DE} (ha : DK X B0 H0 a da) (hb : DK X B0 H0 b db) : DP X B0 H0 (.BinOp a .Pow b pos) (o2 fPow da db) := dp_sc op_pow sc_pow ha hb
def fNeg : PyData → Option PyData
  | .int i => some (.int (-i))
  | _ => none
theorem dp_neg {da : DE} (ha : DK X B0 H0 a da) : DP X B0 H0 (.UnaryOp .USub a pos) (o1 fNeg da) := pe_imp (pe_un un_neg ha) fun σ H Q ⟨B, ρ, d, R, ed, k⟩ => by
  obtain ⟨x, e1, e2⟩ := bind_some ed
  refine ⟨B, ρ, x, R, e1, fun v B' H' s q => ?_⟩
  unfold fNeg at e2
  split at e2
  · cases e2; cases q; exact ⟨_, rfl, k _ B' H' s (.int _)⟩
  · cases e2

/-! ### comparisons -/
def ok2 (x y : PyData) : Bool := SeqAt.shaped x && SeqAt.shaped y
def fEq (x y : PyData) : Option PyData := if ok2 x y then some (.bool (PyData.eqv x y)) else none
def fNe (x y : PyData) : Option PyData := if ok2 x y then some (.bool (!PyData.eqv x y)) else none
theorem sc_eq {K : PySem.W.Frag} : ScOp K (rEqD K) fEq := fun H v u x y d Q e h1 h2 k => by
  unfold fEq at e
  split at e
  · rename_i hm
    rw [ok2, Bool.and_eq_true] at hm
    cases e
    exact ⟨x, y, h1, h2, hm.1, hm.2, k _ (.bl _)⟩
  · cases e
theorem sc_ne {K : PySem.W.Frag} : ScOp K (rNeD K) fNe := fun H v u x y d Q e h1 h2 k => by
  unfold fNe at e
  split at e
  · rename_i hm
    rw [ok2, Bool.and_eq_true] at hm
    cases e
    exact ⟨x, y, h1, h2, hm.1, hm.2, k _ (.bl _)⟩
  · cases e
def fCmp (p : Int → Int → Bool) : PyData → PyData → Option PyData
  | .int i, .int j => some (.bool (p i j))
  | _, _ => none
theorem sc_int {K : PySem.W.Frag} {p : Int → Int → Bool} : ScOp K (rI0 fun i j => .bl (p i j)) (fCmp p) := fun H v u x y d Q e h1 h2 k => by
  unfold fCmp at e
  split at e
  · cases e; cases h1; cases h2; exact ⟨_, _, rfl, rfl, k _ (.bl _)⟩
  · cases e
abbrev fLt := fCmp fun i j => decide (i < j)
abbrev fLe := fCmp fun i j => decide (i ≤ j)
abbrev fGt := fCmp fun i j => decide (j < i)
abbrev fGe := fCmp fun i j => decide (j ≤ i)
def isNon : PyData → Bool
  | .none => true
  | _ => false
theorem dec_non {K : PySem.W.Frag} {H : Hp} {v : V} {x : PyData} (h : Dp K H v x) : decide (v = .non) = isNon x := by
  cases h <;> first | rfl | (unfold isNon; exact decide_eq_false fun z => nomatch z)
def fIsN (x y : PyData) : Option PyData := match y with
  | .none => some (.bool (isNon x))
  | _ => none
def fNotN (x y : PyData) : Option PyData := match y with
  | .none => some (.bool (!isNon x))
  | _ => none
theorem sc_isN {K : PySem.W.Frag} : ScOp K (fun x y H Q => y = .non ∧ Q (.bl (decide (x = .non))) H) fIsN := fun H v u x y d Q e h1 h2 k => by
  unfold fIsN at e
  split at e
  · cases e; cases h2
    refine ⟨rfl, k _ ?_⟩
    rw [dec_non h1]; exact .bl _
  · cases e
theorem sc_notN {K : PySem.W.Frag} : ScOp K (fun x y H Q => y = .non ∧ Q (.bl (!decide (x = .non))) H) fNotN := fun H v u x y d Q e h1 h2 k => by
  unfold fNotN at e
  split at e
  · cases e; cases h2
    refine ⟨rfl, k _ ?_⟩
    rw [dec_non h1]; exact .bl _
  · cases e
/-- x in (a list or tuple of data) -/
def itemsOf : PyData → Option (List PyData)
  | .list ds => some ds
  | .tuple ds => some ds
  | _ => none
def rInA (K : PySem.W.Frag) (neg : Bool) : R2 := fun x y H Q => ∃ d c ds, Dp K H x d ∧ Dp K H y c ∧ itemsOf c = some ds ∧ SeqAt.shaped d = true ∧ SeqAt.shaped c = true ∧ Q (.bl (if neg then !ds.any fun z => PyData.eqv z d else ds.any fun z => PyData.eqv z d)) H
theorem op_inA (hu : X.A.units + 65 < cLine) : OpR X (compareOp .In) (rInA X.K false) := by
  intro pins s σ H x y v u Q I rx ry h
  obtain ⟨d, c, ds, hd, he, hc, sd, se, q⟩ := h
  obtain ⟨as, r1⟩ := Dp.reads I d x v hd rx
  obtain ⟨bs, r2⟩ := Dp.reads I c y u he ry
  cases c <;> try (cases hc; done)
  · cases hc
    exact SeqAt.in_list_reads r2 r1 (SeqAt.canLay_of_shaped se) (SeqAt.canLay_of_shaped sd) (room_in_shaped sd hu) ⟨.bl _, H, I, rfl, q⟩
  · cases hc
    exact SeqAt.in_tuple_reads r2 r1 (SeqAt.canLay_of_shaped se) (SeqAt.canLay_of_shaped sd) (room_in_shaped sd hu) ⟨.bl _, H, I, rfl, q⟩
theorem op_notInA (hu : X.A.units + 65 < cLine) : OpR X (compareOp .NotIn) (rInA X.K true) := by
  intro pins s σ H x y v u Q I rx ry h
  obtain ⟨d, c, ds, hd, he, hc, sd, se, q⟩ := h
  obtain ⟨as, r1⟩ := Dp.reads I d x v hd rx
  obtain ⟨bs, r2⟩ := Dp.reads I c y u he ry
  cases c <;> try (cases hc; done)
  · cases hc
    exact SeqAt.notIn_list_reads r2 r1 (SeqAt.canLay_of_shaped se) (SeqAt.canLay_of_shaped sd) (room_in_shaped sd hu) ⟨.bl _, H, I, rfl, q⟩
  · cases hc
    exact SeqAt.notIn_tuple_reads r2 r1 (SeqAt.canLay_of_shaped se) (SeqAt.canLay_of_shaped sd) (room_in_shaped sd hu) ⟨.bl _, H, I, rfl, q⟩
def isIn (x : PyData) (ds : List PyData) : Bool := ds.any fun z => PyData.eqv z x
def fIn (neg : Bool) (x c : PyData) : Option PyData := (itemsOf c).bind fun ds => if ok2 x c then some (.bool (if neg then !isIn x ds else isIn x ds)) else none
theorem sc_in {K : PySem.W.Frag} {neg : Bool} : ScOp K (rInA K neg) (fIn neg) := fun H v u x y d Q e h1 h2 k => by
  obtain ⟨ds, e1, e⟩ := bind_some e
  split at e
  · rename_i hm
    rw [ok2, Bool.and_eq_true] at hm
    cases e
    exact ⟨x, y, ds, h1, h2, e1, hm.1, hm.2, k _ (.bl _)⟩
  · cases e
end
end DL

set_option Elab.async false
set_option linter.all false
set_option maxRecDepth 100000
set_option maxHeartbeats 2000000
/-! DL3: truth, calls, subscripts, displays. -/
namespace DL
open PySem L2 PyProof.Rows
section
variable {X : Cx} {B0 : BZ} {H0 : Hp} {e a b c : Expr} {es : List Expr} {pos p2 p3 : Pos}

/-! ### truth -/
def truth : PyData → Option Bool
  | .none => some false
  | .bool b => some b
  | .int i => some (i != 0)
  | .str x => if x.length ≤ sizeLine then some ((x.length : Int) != 0) else none
  | .list ds => some (!ds.isEmpty)
  | .tuple ds => some (!ds.isEmpty)
  | .dict _ => none
theorem dps_empty {K : PySem.W.Frag} {H : Hp} {vs : List V} {ds : List PyData} (h : DpAll K H vs ds) : (!ds.isEmpty) = !vs.isEmpty := by
  cases h <;> rfl
theorem tru_of {K : PySem.W.Frag} {H : Hp} {v : V} {d : PyData} {k : Bool} (h : Dp K H v d) (e : truth d = some k) : TruV K v H k := by
  cases h with
  | non => cases e; rfl
  | bl b => cases e; rfl
  | int i => cases e; rfl
  | str x =>
    simp only [truth] at e
    split at e
    · cases e; exact ⟨by assumption, rfl⟩
    · cases e
  | lst hs ha => cases e; exact .inl ⟨_, hs, dps_empty ha⟩
  | tup hs ha => cases e; exact .inr (.inl ⟨_, hs, dps_empty ha⟩)
def tV (de : DE) : Rho → Option Bool := fun ρ => (de ρ).bind truth
theorem dt_truth {da : DE} (ha : DK X B0 H0 a da) (he : ∀ whole, isTrue a X.env whole = (do let v ← whole; standAt a.pos; holding [v] (truthy v)) := by intro _; rfl) : DT X B0 H0 a (tV da) :=
  pt_imp (pt_truth ha he) fun σ H Q ⟨B, ρ, d, R, ed, k⟩ => by
    obtain ⟨x, e1, e2⟩ := bind_some ed
    exact ⟨B, ρ, x, R, e1, fun v B' H' s q => ⟨d, tru_of q e2, k B' H' s⟩⟩
/-- and, or, not as tests -/
def tAnd (p q : Rho → Option Bool) : Rho → Option Bool := fun ρ => (p ρ).bind fun b => if b then q ρ else some false
def tOr (p q : Rho → Option Bool) : Rho → Option Bool := fun ρ => (p ρ).bind fun b => if b then some true else q ρ
def tNot (p : Rho → Option Bool) : Rho → Option Bool := fun ρ => (p ρ).map (!·)
theorem dw_and1 {p : Rho → Option Bool} (h : DT X B0 H0 a p) : DW X B0 H0 (.BoolOp .And [a] pos) p := pw_and1 h
theorem dw_or1 {p : Rho → Option Bool} (h : DT X B0 H0 a p) : DW X B0 H0 (.BoolOp .Or [a] pos) p := pw_or1 h
theorem dw_and {p q : Rho → Option Bool} {rest : List Expr} (h : DT X B0 H0 a p) (h2 : DW X B0 H0 (.BoolOp .And (b :: rest) pos) q) : DW X B0 H0 (.BoolOp .And (a :: b :: rest) pos) (tAnd p q) :=
  pw_imp (pw_and h h2) fun σ H Q ⟨B, ρ, d, R, ed, k⟩ => by
    obtain ⟨x, e1, e2⟩ := bind_some ed
    refine ⟨B, ρ, x, R, e1, fun B' H' s => ?_⟩
    cases x with
    | true => exact ⟨B', ρ, d, R.step s, e2, fun B2 H2 s2 => k B2 H2 (s.trans s2)⟩
    | false => cases e2; exact k B' H' s
theorem dw_or {p q : Rho → Option Bool} {rest : List Expr} (h : DT X B0 H0 a p) (h2 : DW X B0 H0 (.BoolOp .Or (b :: rest) pos) q) : DW X B0 H0 (.BoolOp .Or (a :: b :: rest) pos) (tOr p q) :=
  pw_imp (pw_or h h2) fun σ H Q ⟨B, ρ, d, R, ed, k⟩ => by
    obtain ⟨x, e1, e2⟩ := bind_some ed
    refine ⟨B, ρ, x, R, e1, fun B' H' s => ?_⟩
    cases x with
    | false => exact ⟨B', ρ, d, R.step s, e2, fun B2 H2 s2 => k B2 H2 (s.trans s2)⟩
    | true => cases e2; exact k B' H' s
theorem dt_not {p : Rho → Option Bool} (h : DT X B0 H0 a p) : DT X B0 H0 (.UnaryOp .Not a pos) (tNot p) := pt_imp (pt_not h) fun σ H Q ⟨B, ρ, d, R, ed, k⟩ => by
  obtain ⟨x, e1, e2⟩ := map_some ed
  subst e2
  exact ⟨B, ρ, x, R, e1, fun B' H' s => k B' H' s⟩
/-- as values -/
def oAnd (p q : DE) : DE := fun ρ => (p ρ).bind fun x => (truth x).bind fun k => if k then q ρ else some x
def oOr (p q : DE) : DE := fun ρ => (p ρ).bind fun x => (truth x).bind fun k => if k then some x else q ρ
def oNot (p : DE) : DE := fun ρ => (p ρ).bind fun x => (truth x).map fun k => .bool (!k)
theorem dp_one {op} {p : DE} (h : DP X B0 H0 a p) : DP X B0 H0 (.BoolOp op [a] pos) p := pe_one h
theorem dp_and {p q : DE} {rest : List Expr} (h : DP X B0 H0 a p) (h2 : DP X B0 H0 (.BoolOp .And (b :: rest) pos) q) : DP X B0 H0 (.BoolOp .And (a :: b :: rest) pos) (oAnd p q) :=
  pe_imp (pe_andT h h2) fun σ H Q ⟨B, ρ, d, R, ed, k⟩ => by
    obtain ⟨x, e1, ed⟩ := bind_some ed
    obtain ⟨t, e2, e3⟩ := bind_some ed
    refine ⟨B, ρ, x, R, e1, fun v B' H' s q => ⟨t, tru_of (dp_ex s.bh _ _ q) e2, ?_⟩⟩
    cases t with
    | true => exact ⟨B', ρ, d, R.step s, e3, fun w B2 H2 s2 q2 => k w B2 H2 (s.trans s2) q2⟩
    | false => cases e3; exact k v B' H' s q
theorem dp_or {p q : DE} {rest : List Expr} (h : DP X B0 H0 a p) (h2 : DP X B0 H0 (.BoolOp .Or (b :: rest) pos) q) : DP X B0 H0 (.BoolOp .Or (a :: b :: rest) pos) (oOr p q) :=
  pe_imp (pe_orT h h2) fun σ H Q ⟨B, ρ, d, R, ed, k⟩ => by
    obtain ⟨x, e1, ed⟩ := bind_some ed
    obtain ⟨t, e2, e3⟩ := bind_some ed
    refine ⟨B, ρ, x, R, e1, fun v B' H' s q => ⟨t, tru_of (dp_ex s.bh _ _ q) e2, ?_⟩⟩
    cases t with
    | false => exact ⟨B', ρ, d, R.step s, e3, fun w B2 H2 s2 q2 => k w B2 H2 (s.trans s2) q2⟩
    | true => cases e3; exact k v B' H' s q
theorem dp_not {p : DE} (h : DK X B0 H0 a p) : DP X B0 H0 (.UnaryOp .Not a pos) (oNot p) := pe_imp (pe_notT h) fun σ H Q ⟨B, ρ, d, R, ed, k⟩ => by
  obtain ⟨x, e1, ed⟩ := bind_some ed
  obtain ⟨t, e2, e3⟩ := map_some ed
  subst e3
  exact ⟨B, ρ, x, R, e1, fun v B' H' s q => ⟨t, tru_of q e2, k _ B' H' s (.bl _)⟩⟩
def oIf (t : Rho → Option Bool) (p q : DE) : DE := fun ρ => (t ρ).bind fun b => if b then p ρ else q ρ
theorem dp_if {t : Rho → Option Bool} {p q : DE} (hc : DT X B0 H0 c t) (ha : DP X B0 H0 a p) (hb : DP X B0 H0 b q) : DP X B0 H0 (.IfExp c a b pos) (oIf t p q) := pe_imp (pe_ifExp hc ha hb) fun σ H Q ⟨B, ρ, d, R, ed, k⟩ => by
  obtain ⟨x, e1, e2⟩ := bind_some ed
  refine ⟨B, ρ, x, R, e1, fun B' H' s => ?_⟩
  cases x with
  | true => exact ⟨B', ρ, d, R.step s, e2, fun w B2 H2 s2 q2 => k w B2 H2 (s.trans s2) q2⟩
  | false => exact ⟨B', ρ, d, R.step s, e2, fun w B2 H2 s2 q2 => k w B2 H2 (s.trans s2) q2⟩
/-- a op1 b op2 c -/
def o3 (F G : PyData → PyData → Option PyData) (p q r : DE) : DE := fun ρ => (p ρ).bind fun x => (q ρ).bind fun y => (r ρ).bind fun z => (F x y).bind fun f => match f with
  | .bool true => G y z
  | .bool false => some (.bool false)
  | _ => none
theorem dt_chain {op op' : CmpOp} {r r' : R2} {F G : PyData → PyData → Option PyData} {da db dc : DE} (ho : OpR X (compareOp op) r) (ho' : OpR X (compareOp op') r') (hF : ScOp X.K r F) (hG : ScOp X.K r' G) (ha : DK X B0 H0 a da) (hb : DK X B0 H0 b db) (hc : DK X B0 H0 c dc)
    (hm : lastMarks [op, op'] [b, c] = false := by with_unfolding_all rfl) : DT X B0 H0 (.Compare a [op, op'] [b, c] pos) (tB (o3 F G da db dc)) :=
  pt_imp (pt_chain ho ho' ha hb hc hm) fun σ H Q ⟨B, ρ, d, R, ed, k⟩ => by
    have ed := tB_some ed
    obtain ⟨x, e1, ed⟩ := bind_some ed
    obtain ⟨y, e2, ed⟩ := bind_some ed
    obtain ⟨z, e3, ed⟩ := bind_some ed
    obtain ⟨f, e4, ed⟩ := bind_some ed
    show rdK X.K B0 H0 da σ H fun x H1 => rdK X.K B0 H0 db σ H1 fun y H2 => _
    refine kk R e1 e2 fun v u B1 H1 s1 q1 q2 => ?_
    refine hF H1 v u x y f _ e4 q1 q2 fun w hw => ?_
    split at ed
    · refine ⟨true, dp_bool (hw B1), ?_⟩
      rw [if_pos rfl]
      refine ⟨B1, ρ, z, R.step s1, e3, fun u2 B2 H2 s2 q3 => ?_⟩
      refine hG H2 u u2 y z (.bool d) _ ed (dp_ex s2.hh _ _ q2) q3 fun w2 hw2 => ?_
      exact ⟨d, dp_bool (hw2 B2), k B2 H2 (s1.trans s2)⟩
    · cases ed
      refine ⟨false, dp_bool (hw B1), ?_⟩
      rw [if_neg Bool.false_ne_true]
      exact ⟨false, rfl, k B1 H1 s1⟩
    · cases ed

/-! ### arguments -/
def aNil : DLs := fun _ => some []
def aCons (p : DE) (r : DLs) : DLs := fun ρ => (p ρ).bind fun x => (r ρ).map (x :: ·)
theorem da_nil : DA X B0 H0 [] aNil := pa_imp pa_nil fun σ H Q ⟨B, ρ, d, R, ed, k⟩ => by cases ed; exact k [] B H (.refl R.bh) .nil
theorem dak_nil : DAK X B0 H0 [] aNil := pa_imp pa_nil fun σ H Q ⟨B, ρ, d, R, ed, k⟩ => by cases ed; exact k [] B H (.refl R.bh) .nil
theorem da_cons {p : DE} {r : DLs} (ha : DP X B0 H0 e p) (hr : DA X B0 H0 es r) (hs : starEach (e :: es) X.env = (false, eval e X.env) :: starEach es X.env := by rfl) : DA X B0 H0 (e :: es) (aCons p r) :=
  pa_imp (pa_cons ha hr hs) fun σ H Q ⟨B, ρ, d, R, ed, k⟩ => by
    obtain ⟨x, e1, ed⟩ := bind_some ed
    obtain ⟨ys, e2, e3⟩ := map_some ed
    subst e3
    exact ⟨B, ρ, x, R, e1, fun v B1 H1 s1 q1 => ⟨B1, ρ, ys, R.step s1, e2, fun vs B2 H2 s2 q2 => k (v :: vs) B2 H2 (s1.trans s2) (.cons (dp_ex s2.bb _ _ q1) q2)⟩⟩
theorem dak_cons {p : DE} {r : DLs} (ha : DK X B0 H0 e p) (hr : DAK X B0 H0 es r) (hs : starEach (e :: es) X.env = (false, eval e X.env) :: starEach es X.env := by rfl) : DAK X B0 H0 (e :: es) (aCons p r) :=
  pa_imp (pa_cons ha hr hs) fun σ H Q ⟨B, ρ, d, R, ed, k⟩ => by
    obtain ⟨x, e1, ed⟩ := bind_some ed
    obtain ⟨ys, e2, e3⟩ := map_some ed
    subst e3
    exact ⟨B, ρ, x, R, e1, fun v B1 H1 s1 q1 => ⟨B1, ρ, ys, R.step s1, e2, fun vs B2 H2 s2 q2 => k (v :: vs) B2 H2 (s1.trans s2) (.cons (dp_ex s2.hh _ _ q1) q2)⟩⟩
/-- tuples and lists that are written -/
theorem line_ok {n : Nat} (h : n ≤ 1000) : n ≤ sizeLine := Nat.le_trans h (by decide)
def oTup (r : DLs) : DE := fun ρ => (r ρ).bind fun ds => if ds.length ≤ sizeLine then some (.tuple ds) else none
theorem dp_tup {r : DLs} {x1} (h : DA X B0 H0 es r) : DP X B0 H0 (.Tuple es x1 pos) (oTup r) := pe_imp (pe_tup h) fun σ H Q ⟨B, ρ, d, R, ed, k⟩ => by
  obtain ⟨ds, e1, e2⟩ := bind_some ed
  split at e2
  · rename_i hz
    cases e2
    refine ⟨B, ρ, ds, R, e1, fun vs B1 H1 s1 q1 => ⟨by rw [dps_len q1]; exact hz, fun p hp => ?_⟩⟩
    have s2 := Stp.lay s1.bh (.tup vs) hp
    exact k (.ref p) _ _ (s1.trans s2) (.tup (.of upd_same) (dps_ex s2.bb _ _ q1))
  · cases e2
def lLst (r : DLs) : DLs := fun ρ => (r ρ).bind fun ds => if ds.length ≤ sizeLine then some ds else none
theorem dl_lst {r : DLs} (h : DA X B0 H0 es r) : DLn X B0 H0 (.List es pos) (lLst r) := pe_imp (pe_lst h) fun σ H Q ⟨B, ρ, d, R, ed, k⟩ => by
  obtain ⟨ds, e1, e2⟩ := bind_some ed
  split at e2
  · rename_i hz
    cases e2
    refine ⟨B, ρ, d, R, e1, fun vs B1 H1 s1 q1 => ⟨by rw [dps_len q1]; exact hz, fun p hp => ?_⟩⟩
    have s2 := Stp.add s1.bh (.lst vs) hp
    have hp0 := Evl.fresh_back s1.hh hp
    exact k p vs _ _ (s1.trans s2) hp0 (Evl.fresh_back s1.bh hp) upd_same q1
  · cases e2

/-! ### calls of built-ins: one argument -/
def ScC (K : PySem.W.Frag) (r : List V → Hp → VK → Prop) (F : List PyData → Option PyData) : Prop := ∀ H vs xs d Q, F xs = some d → DpAll K H vs xs → (∀ w, Sc K w d → Q w H) → r vs H Q
def oC (F : List PyData → Option PyData) (r : DLs) : DE := fun ρ => (r ρ).bind F
theorem dp_callB {id x : String} {r : List V → Hp → VK → Prop} {F : List PyData → Option PyData} {t : DLs} {xs : Str} {p : Pos} (hF : ScC X.K r F) (hc : CallR X (.builtin id) r) (hg : Gl X xs) (hm : X.mg xs = none) (hv : bootBuiltins xs = some (.builtin id)) (ha : DAK X B0 H0 (e :: es) t)
    (hn : xs ≠ "__name__" := by decide) (hdb : (xs == ("__debug__" : Str)) = false := by decide)
    (he : starEach (e :: es) X.env = (false, eval e X.env) :: starEach es X.env := by rfl) (hpl : (backTo pos (starEach es X.env)).any (·.1) = false := by rfl) : DP X B0 H0 (.Call (.Name xs p) (e :: es) [] pos) (oC F t) :=
  pe_imp (pe_callB hc hg hm hv ha hn hdb he hpl) fun σ H Q ⟨B, ρ, d, R, ed, k⟩ => by
    obtain ⟨ds, e1, e2⟩ := bind_some ed
    exact ⟨B, ρ, ds, R, e1, fun vs B1 H1 s1 q1 => hF H1 vs ds d Q e2 q1 fun w hw => k w B1 H1 s1 (hw B1)⟩
theorem dp_callTy {T : String} {r : List V → Hp → VK → Prop} {F : List PyData → Option PyData} {t : DLs} {xs : Str} {p : Pos} (hF : ScC X.K r F) (hc : CallR X (.type T) r) (hg : Gl X xs) (hm : X.mg xs = none) (hv : bootBuiltins xs = some (.type T)) (ha : DAK X B0 H0 (e :: es) t)
    (hn : xs ≠ "__name__" := by decide) (hdb : (xs == ("__debug__" : Str)) = false := by decide)
    (he : starEach (e :: es) X.env = (false, eval e X.env) :: starEach es X.env := by rfl) (hpl : (backTo pos (starEach es X.env)).any (·.1) = false := by rfl) : DP X B0 H0 (.Call (.Name xs p) (e :: es) [] pos) (oC F t) :=
  pe_imp (pe_callTy hc hg hm hv ha hn hdb he hpl) fun σ H Q ⟨B, ρ, d, R, ed, k⟩ => by
    obtain ⟨ds, e1, e2⟩ := bind_some ed
    exact ⟨B, ρ, ds, R, e1, fun vs B1 H1 s1 q1 => hF H1 vs ds d Q e2 q1 fun w hw => k w B1 H1 s1 (hw B1)⟩
theorem one_of {K : PySem.W.Frag} {H : Hp} {vs : List V} {x : PyData} (h : DpAll K H vs [x]) : ∃ v, vs = [v] ∧ Dp K H v x := by
  cases h with
  | cons h1 h2 => cases h2; exact ⟨_, rfl, h1⟩
def lenD : PyData → Option Nat
  | .str x => if x.length ≤ sizeLine then some x.length else none
  | .list ds => some ds.length
  | .tuple ds => some ds.length
  | _ => none
def fLen : List PyData → Option PyData
  | [x] => (lenD x).map fun (n : Nat) => PyData.int (n : Int)
  | _ => none
theorem sc_len {K : PySem.W.Frag} : ScC K (fun xs H Q => ∃ x n, xs = [x] ∧ LenV K x H n ∧ Q (.int n) H) fLen := fun H vs xs d Q e h k => by
  unfold fLen at e
  split at e
  · obtain ⟨v, rfl, hv⟩ := one_of h
    obtain ⟨n, e1, rfl⟩ := map_some e
    refine ⟨v, n, rfl, ?_, k _ (.int _)⟩
    cases hv with
    | str x =>
      simp only [lenD] at e1
      split at e1
      · cases e1; exact ⟨by assumption, rfl⟩
      · cases e1
    | lst hs ha => cases e1; exact .inl ⟨_, hs, (dps_len ha).symm⟩
    | tup hs ha => cases e1; exact .inr ⟨_, hs, (dps_len ha).symm⟩
    | _ => cases e1
  · cases e
theorem dp_len {t : DLs} {p : Pos} (hg : Gl X "len") (hm : X.mg "len" = none) (ha : DAK X B0 H0 [e] t) (he : starEach [e] X.env = (false, eval e X.env) :: starEach [] X.env := by rfl) (hpl : (backTo pos (starEach [] X.env)).any (·.1) = false := by rfl) : DP X B0 H0 (.Call (.Name "len" p) [e] [] pos) (oC fLen t) :=
  dp_callB (x := "len") sc_len call_len hg hm PySem.boot_len ha (by decide) (by decide) he hpl
def fAbs : List PyData → Option PyData
  | [.int i] => some (.int (if i < 0 then -i else i))
  | _ => none
theorem sc_abs {K : PySem.W.Frag} : ScC K (fun xs H Q => ∃ i, xs = [.int i] ∧ Q (.int (if i < 0 then -i else i)) H) fAbs := fun H vs xs d Q e h k => by
  unfold fAbs at e
  split at e
  · obtain ⟨v, rfl, hv⟩ := one_of h
    cases e; cases hv
    exact ⟨_, rfl, k _ (.int _)⟩
  · cases e
theorem dp_abs {t : DLs} {p : Pos} (hg : Gl X "abs") (hm : X.mg "abs" = none) (ha : DAK X B0 H0 [e] t) (he : starEach [e] X.env = (false, eval e X.env) :: starEach [] X.env := by rfl) (hpl : (backTo pos (starEach [] X.env)).any (·.1) = false := by rfl) : DP X B0 H0 (.Call (.Name "abs" p) [e] [] pos) (oC fAbs t) :=
  dp_callB (x := "abs") sc_abs call_abs hg hm (by decide +kernel) ha (by decide) (by decide) he hpl
def fInt : List PyData → Option PyData
  | [.int i] => some (.int i)
  | [.bool k] => some (.int (if k then 1 else 0))
  | _ => none
theorem sc_intc {K : PySem.W.Frag} : ScC K (fun xs H Q => (∃ i, xs = [.int i] ∧ Q (.int i) H) ∨ ∃ k, xs = [.bl k] ∧ Q (.int (if k then 1 else 0)) H) fInt := fun H vs xs d Q e h k => by
  unfold fInt at e
  split at e
  · obtain ⟨v, rfl, hv⟩ := one_of h
    cases e; cases hv
    exact .inl ⟨_, rfl, k _ (.int _)⟩
  · obtain ⟨v, rfl, hv⟩ := one_of h
    cases e; cases hv
    exact .inr ⟨_, rfl, k _ (.int _)⟩
  · cases e
theorem dp_intc {t : DLs} {p : Pos} (hg : Gl X "int") (hm : X.mg "int" = none) (ha : DAK X B0 H0 [e] t) (he : starEach [e] X.env = (false, eval e X.env) :: starEach [] X.env := by rfl) (hpl : (backTo pos (starEach [] X.env)).any (·.1) = false := by rfl) : DP X B0 H0 (.Call (.Name "int" p) [e] [] pos) (oC fInt t) :=
  dp_callTy sc_intc call_int1 hg hm (by decide +kernel) ha (by decide) (by decide) he hpl
def asB : PyData → Option Bool
  | .bool b => some b
  | _ => none
def asBs : List PyData → Option (List Bool)
  | [] => some []
  | d :: ds => (asB d).bind fun b => (asBs ds).map (b :: ·)
theorem bools_of {K : PySem.W.Frag} {H : Hp} : ∀ {ds : List PyData} {vs : List V} {bs : List Bool}, DpAll K H vs ds → asBs ds = some bs → vs = bs.map V.bl
  | [], _, _, h, e => by cases h; cases e; rfl
  | d :: ds, _, bs, h, e => by
    cases h with
    | cons h1 h2 =>
      obtain ⟨b, e1, e⟩ := bind_some e
      obtain ⟨cs, e2, rfl⟩ := map_some e
      unfold asB at e1
      split at e1
      · cases e1; cases h1
        rw [List.map_cons, bools_of h2 e2]
      · cases e1
def fAll : List PyData → Option PyData
  | [.list ds] => (asBs ds).map fun bs => .bool (bs.all id)
  | _ => none
def fAny : List PyData → Option PyData
  | [.list ds] => (asBs ds).map fun bs => .bool (bs.any id)
  | _ => none
theorem sc_all {K : PySem.W.Frag} : ScC K (rAll K) fAll := fun H vs xs d Q e h k => by
  unfold fAll at e
  split at e
  · obtain ⟨v, rfl, hv⟩ := one_of h
    obtain ⟨bs, e1, rfl⟩ := map_some e
    cases hv with
    | lst hs ha =>
      have q := bools_of ha e1
      subst q
      exact ⟨_, bs, rfl, hs, k _ (.bl _)⟩
  · cases e
theorem sc_any {K : PySem.W.Frag} : ScC K (rAny K) fAny := fun H vs xs d Q e h k => by
  unfold fAny at e
  split at e
  · obtain ⟨v, rfl, hv⟩ := one_of h
    obtain ⟨bs, e1, rfl⟩ := map_some e
    cases hv with
    | lst hs ha =>
      have q := bools_of ha e1
      subst q
      exact ⟨_, bs, rfl, hs, k _ (.bl _)⟩
  · cases e
theorem dp_all {t : DLs} {p : Pos} (hc : X.calm = true) (hg : Gl X "all") (hm : X.mg "all" = none) (ha : DAK X B0 H0 [e] t) (he : starEach [e] X.env = (false, eval e X.env) :: starEach [] X.env := by rfl) (hpl : (backTo pos (starEach [] X.env)).any (·.1) = false := by rfl) : DP X B0 H0 (.Call (.Name "all" p) [e] [] pos) (oC fAll t) :=
  dp_callB (x := "all") sc_all (cr_all hc) hg hm (by decide +kernel) ha (by decide) (by decide) he hpl
theorem dp_any {t : DLs} {p : Pos} (hc : X.calm = true) (hg : Gl X "any") (hm : X.mg "any" = none) (ha : DAK X B0 H0 [e] t) (he : starEach [e] X.env = (false, eval e X.env) :: starEach [] X.env := by rfl) (hpl : (backTo pos (starEach [] X.env)).any (·.1) = false := by rfl) : DP X B0 H0 (.Call (.Name "any" p) [e] [] pos) (oC fAny t) :=
  dp_callB (x := "any") sc_any (cr_any hc) hg hm (by decide +kernel) ha (by decide) (by decide) he hpl
/-! isinstance(x, T) -/
def tyName : PyData → String
  | .none => "NoneType"
  | .bool _ => "bool"
  | .int _ => "int"
  | .str _ => "str"
  | .list _ => "list"
  | .tuple _ => "tuple"
  | .dict _ => "dict"
theorem ty_of {K : PySem.W.Frag} {H : Hp} {v : V} {d : PyData} (h : Dp K H v d) : TyX K H v (.type (tyName d)) := by
  cases h with
  | non => exact .base .non
  | bl b => exact .base (.bl b)
  | int i => exact .base (.int i)
  | str x => exact .base (.str x)
  | lst hs ha =>
    rcases hs with (hs | ⟨o, hs⟩) | ⟨o, its, n, hk, hc, _⟩
    · exact .base (.lst hs)
    · exact .base (.frz hs)
    · exact .kList hk hc
  | tup hs ha =>
    rcases hs with (hs | ⟨o, hs⟩) | ⟨o, its, n, hk, hc, _⟩
    · exact .base (.tup hs)
    · exact .fTuple hs
    · exact .kTuple hk hc
def fIsi (T : String) (x : PyData) : Option PyData := (kitB (tyName x) T).map .bool
theorem dp_isi {T : String} {t : Str} {p p1 : Pos} {q : DE} (hg : Gl X "isinstance") (hm : X.mg "isinstance" = none) (hgt : Gl X t) (hmt : X.mg t = none) (hvt : bootBuiltins t = some (.type T)) (ha : DK X B0 H0 a q)
    (htn : t ≠ "__name__" := by decide) (htd : (t == ("__debug__" : Str)) = false := by decide)
    (hs : starEach [a, .Name t p1] X.env = (false, eval a X.env) :: starEach [.Name t p1] X.env := by rfl) (hs2 : starEach [.Name t p1] X.env = (false, eval (.Name t p1) X.env) :: starEach [] X.env := by rfl)
    (hpl : (backTo pos (starEach [.Name t p1] X.env)).any (·.1) = false := by rfl) : DP X B0 H0 (.Call (.Name "isinstance" p) [a, .Name t p1] [] pos) (o1 (fIsi T) q) :=
  pe_imp (pe_callB call_isi hg hm (by decide +kernel) (pa_cons ha (pa_cons (pe_bltn (v := .ty T) hgt hmt hvt rfl htn htd) pa_nil hs2) hs) (by decide) (by decide) hs hpl) fun σ H Q ⟨B, ρ, d, R, ed, k⟩ => by
    obtain ⟨x, e1, e2⟩ := bind_some ed
    obtain ⟨b, e3, rfl⟩ := map_some e2
    exact ⟨B, ρ, x, R, e1, fun v B1 H1 s1 q1 => ⟨v, .ty T, _, _, b, rfl, .ty T, ty_of q1, kit_ty e3, k _ B1 H1 s1 (.bl b)⟩⟩
theorem isi_tuple (d : PyData) : fIsi "tuple" d = some (.bool (tyName d == "tuple")) := by
  have h0 : kitB "NoneType" "tuple" = some false := by decide +kernel
  have h1 : kitB "bool" "tuple" = some false := by decide +kernel
  have h2 : kitB "int" "tuple" = some false := by decide +kernel
  have h3 : kitB "str" "tuple" = some false := by decide +kernel
  have h4 : kitB "list" "tuple" = some false := by decide +kernel
  have h5 : kitB "tuple" "tuple" = some true := by decide +kernel
  have h6 : kitB "dict" "tuple" = some false := by decide +kernel
  cases d <;> simp [fIsi, tyName, h0, h1, h2, h3, h4, h5, h6]
theorem isi_list (d : PyData) : fIsi "list" d = some (.bool (tyName d == "list")) := by
  have h0 : kitB "NoneType" "list" = some false := by decide +kernel
  have h1 : kitB "bool" "list" = some false := by decide +kernel
  have h2 : kitB "int" "list" = some false := by decide +kernel
  have h3 : kitB "str" "list" = some false := by decide +kernel
  have h4 : kitB "list" "list" = some true := by decide +kernel
  have h5 : kitB "tuple" "list" = some false := by decide +kernel
  have h6 : kitB "dict" "list" = some false := by decide +kernel
  cases d <;> simp [fIsi, tyName, h0, h1, h2, h3, h4, h5, h6]
theorem isi_str (d : PyData) : fIsi "str" d = some (.bool (tyName d == "str")) := by
  have h0 : kitB "NoneType" "str" = some false := by decide +kernel
  have h1 : kitB "bool" "str" = some false := by decide +kernel
  have h2 : kitB "int" "str" = some false := by decide +kernel
  have h3 : kitB "str" "str" = some true := by decide +kernel
  have h4 : kitB "list" "str" = some false := by decide +kernel
  have h5 : kitB "tuple" "str" = some false := by decide +kernel
  have h6 : kitB "dict" "str" = some false := by decide +kernel
  cases d <;> simp [fIsi, tyName, h0, h1, h2, h3, h4, h5, h6]
theorem isi_int (d : PyData) : fIsi "int" d = some (.bool (tyName d == "int" || tyName d == "bool")) := by
  have h0 : kitB "NoneType" "int" = some false := by decide +kernel
  have h1 : kitB "bool" "int" = some true := by decide +kernel
  have h2 : kitB "int" "int" = some true := by decide +kernel
  have h3 : kitB "str" "int" = some false := by decide +kernel
  have h4 : kitB "list" "int" = some false := by decide +kernel
  have h5 : kitB "tuple" "int" = some false := by decide +kernel
  have h6 : kitB "dict" "int" = some false := by decide +kernel
  cases d <;> simp [fIsi, tyName, h0, h1, h2, h3, h4, h5, h6]
theorem isi_bool (d : PyData) : fIsi "bool" d = some (.bool (tyName d == "bool")) := by
  have h0 : kitB "NoneType" "bool" = some false := by decide +kernel
  have h1 : kitB "bool" "bool" = some true := by decide +kernel
  have h2 : kitB "int" "bool" = some false := by decide +kernel
  have h3 : kitB "str" "bool" = some false := by decide +kernel
  have h4 : kitB "list" "bool" = some false := by decide +kernel
  have h5 : kitB "tuple" "bool" = some false := by decide +kernel
  have h6 : kitB "dict" "bool" = some false := by decide +kernel
  cases d <;> simp [fIsi, tyName, h0, h1, h2, h3, h4, h5, h6]

/-! ### subscripts -/
def fIx (x y : PyData) : Option PyData := match y with
  | .int i => (itemsOf x).bind fun ds => atI ds i
  | _ => none
theorem atI_dps {K : PySem.W.Frag} {H : Hp} {vs : List V} {ds : List PyData} {i : Int} {d : PyData} (h : DpAll K H vs ds) (e : atI ds i = some d) : ∃ v, atI vs i = some v ∧ Dp K H v d := by
  unfold atI at e ⊢
  rw [dps_len h]
  obtain ⟨j, e1, e2⟩ := bind_some e
  obtain ⟨v, a, b⟩ := dps_get h e2
  exact ⟨v, by rw [e1]; exact a, b⟩
theorem dp_ix {p q : DE} (ha : DP X B0 H0 a p) (hb : DK X B0 H0 b q) (hs : PlainIx b := by exact fun _ _ => rfl) : DP X B0 H0 (.Subscript a b pos) (o2 fIx p q) :=
  pe_imp (pe_ix (ix_list.or ix_tup) ha hb hs) fun σ H Q ⟨B, ρ, d, R, ed, k⟩ => by
    obtain ⟨x, y, e1, e2, e3⟩ := o2_some ed
    refine pk R e1 e2 fun v u B1 H1 s1 q1 q2 => ?_
    unfold fIx at e3
    split at e3
    · cases q2
      obtain ⟨ds, e4, e5⟩ := bind_some e3
      cases q1 with
      | lst hs ha =>
        cases e4
        obtain ⟨w, h1, h2⟩ := atI_dps ha e5
        exact .inl ⟨_, _, _, w, rfl, rfl, Evl.ex_l s1.bh hs, h1, k w B1 H1 s1 h2⟩
      | tup hs ha =>
        cases e4
        obtain ⟨w, h1, h2⟩ := atI_dps ha e5
        exact .inr ⟨_, _, _, w, rfl, rfl, Evl.ex_t s1.bh hs, h1, k w B1 H1 s1 h2⟩
      | _ => cases e4
    · cases e3
def oIxE (p : DLs) (q : DE) : DE := fun ρ => (p ρ).bind fun ds => (q ρ).bind fun y => match y with
  | .int i => atI ds i
  | _ => none
theorem dp_ixE {p : DLs} {q : DE} (ha : DEl X B0 H0 a p) (hb : DK X B0 H0 b q) (hs : PlainIx b := by exact fun _ _ => rfl) : DP X B0 H0 (.Subscript a b pos) (oIxE p q) :=
  pe_imp (pe_ix ix_list ha hb hs) fun σ H Q ⟨B, ρ, d, R, ed, k⟩ => by
    obtain ⟨ds, e1, ed⟩ := bind_some ed
    obtain ⟨y, e2, e3⟩ := bind_some ed
    refine ek R e1 e2 fun l vs u B1 H1 s1 h1 q1 q2 => ?_
    split at e3
    · cases q2
      obtain ⟨w, h2, h3⟩ := atI_dps q1 e3
      exact ⟨_, _, _, w, rfl, rfl, h1, h2, k w B1 H1 s1 h3⟩
    · cases e3

/-! ### list + list, tuple + tuple, list * int, tuple * int -/
def rCatS (K : PySem.W.Frag) : R2 := fun x y H Q => ∃ l b xs zs, x = .ref l ∧ y = .ref b ∧ SqL K H l xs ∧ SqL K H b zs ∧ xs.length + zs.length ≤ sizeLine ∧ ∀ p, H p = none → Q (.ref p) (upd H p (.lst (xs ++ zs)))
def lCat (p q : DLs) : DLs := fun ρ => (p ρ).bind fun x => (q ρ).bind fun y => if x.length + y.length ≤ sizeLine then some (x ++ y) else none
theorem dl_cat {p q : DLs} (hop : OpR X (binaryOp .Add) (rCatS X.K)) (ha : DEl X B0 H0 a p) (hb : DEl X B0 H0 b q) : DLn X B0 H0 (.BinOp a .Add b pos) (lCat p q) := pe_imp (pe_op hop ha hb) fun σ H Q ⟨B, ρ, d, R, ed, k⟩ => by
  obtain ⟨x, e1, ed⟩ := bind_some ed
  obtain ⟨y, e2, e3⟩ := bind_some ed
  split at e3
  · rename_i hz
    cases e3
    refine ee R e1 e2 fun l vs m us B1 H1 s1 h1 q1 h2 q2 => ⟨l, m, vs, us, rfl, rfl, h1, h2, by rw [dps_len q1, dps_len q2]; exact hz, fun r hr => ?_⟩
    have s2 := Stp.add s1.bh (.lst (vs ++ us)) hr
    exact k r _ B1 _ (s1.trans s2) (Evl.fresh_back s1.hh hr) (Evl.fresh_back s1.bh hr) upd_same (dps_app q1 q2)
  · cases e3
def oCatT (p q : DE) : DE := fun ρ => (p ρ).bind fun x => (q ρ).bind fun y => match x, y with
  | .tuple xs, .tuple ys => if xs.length + ys.length ≤ sizeLine then some (.tuple (xs ++ ys)) else none
  | _, _ => none
theorem dps_nil_iff {K : PySem.W.Frag} {H : Hp} {vs : List V} {ds : List PyData} (h : DpAll K H vs ds) : vs = [] ↔ ds = [] := by
  cases h <;> simp
theorem dp_catT {p q : DE} (ha : DP X B0 H0 a p) (hb : DP X B0 H0 b q) : DP X B0 H0 (.BinOp a .Add b pos) (oCatT p q) := pe_imp (pe_op op_catA ha hb) fun σ H Q ⟨B, ρ, d, R, ed, k⟩ => by
  obtain ⟨x, e1, ed⟩ := bind_some ed
  obtain ⟨y, e2, e3⟩ := bind_some ed
  refine pp R e1 e2 fun v u B1 H1 s1 q1 q2 => ?_
  split at e3
  · split at e3
    · rename_i hz
      cases e3
      cases q1 with
      | tup hs ha =>
        cases q2 with
        | tup ht hb =>
          refine ⟨_, _, _, _, rfl, rfl, Evl.ex_t s1.bh hs, Evl.ex_t s1.bh ht, by rw [dps_len ha, dps_len hb]; exact hz, fun e => ?_, fun _ e => ?_, fun _ _ r hr => ?_⟩
          · have e' := (dps_nil_iff ha).mp e
            subst e'
            exact k _ B1 H1 s1 (.tup ht hb)
          · have e' := (dps_nil_iff hb).mp e
            subst e'
            rw [List.append_nil] at k
            exact k _ B1 H1 s1 (.tup hs ha)
          · have hab := dps_app ha hb
            exact k (.ref r) _ _ (s1.trans (Stp.lay s1.bh (.tup _) hr)) (.tup (.of upd_same) (dps_ex (Stp.lay s1.bh (.tup _) hr).bb _ _ hab))
    · cases e3
  · cases e3
end
end DL

set_option Elab.async false
set_option linter.all false
set_option maxRecDepth 100000
set_option maxHeartbeats 4000000
/-! DL4: operators on lists and tuples, slices. -/
namespace DL
open PySem L2 PyProof.Rows
section
variable {X : Cx} {B0 : BZ} {H0 : Hp} {e a b c : Expr} {es : List Expr} {pos p2 p3 : Pos}
theorem op_catS : OpR X (binaryOp .Add) (rCatS X.K) := by
  intro pins s σ H x y v u Q I rx ry h
  obtain ⟨l, b, xs, zs, rfl, rfl, hH, hB, hz, q⟩ := h
  cases rx
  cases ry
  obtain ⟨its, r, ⟨⟨cls, dd, data, sl⟩, n, ho, hc, hdd, hd⟩, hl⟩ := I.list hH
  obtain ⟨its2, r2, ⟨⟨cls2, dd2, data2, sl2⟩, n2, ho2, hc2, hdd2, hd2⟩, hl2⟩ := I.list hB
  simp only at hc hd hc2 hd2
  subst hc hd hc2 hd2
  have e1 := r.length
  have e2 := r2.length
  have ee : its.toArray ++ its2.toArray = (its ++ its2).toArray := by simp
  refine concat_meets ⟨_, ho, rfl⟩ ⟨_, ho2, rfl⟩ noFill_list_add seq_list_add PySem.F.slot_list_add PySem.F.entry_list_add (PySem.F.args_list_add_2 _ _)
    (list_addW l b its.toArray its2.toArray n n2 dd dd2 sl sl2 (by rw [List.size_toArray, List.size_toArray]; omega)) ⟨ho, ho2, ?_⟩
  rw [ee]
  exact ⟨.ref _, _, I.lnew (t' := s.toks) (r.append r2) (by rw [List.length_append]; omega), rfl, q _ I.fresh⟩
theorem dl_cat' {p q : DLs} (ha : DEl X B0 H0 a p) (hb : DEl X B0 H0 b q) : DLn X B0 H0 (.BinOp a .Add b pos) (lCat p q) := dl_cat op_catS ha hb
/-- list * int -/
def lRep (p : DLs) (q : DE) : DLs := fun ρ => (p ρ).bind fun x => (q ρ).bind fun y => match y with
  | .int k => if -(2 ^ 63) ≤ k ∧ k < 2 ^ 63 ∧ x.length * k.toNat ≤ sizeLine then some (List.replicate k.toNat x).flatten else none
  | _ => none
theorem dl_rep {p : DLs} {q : DE} (ha : DLn X B0 H0 a p) (hb : DK X B0 H0 b q) : DLn X B0 H0 (.BinOp a .Mult b pos) (lRep p q) := pe_imp (pe_op op_rep ha hb) fun σ H Q ⟨B, ρ, d, R, ed, k⟩ => by
  obtain ⟨x, e1, ed⟩ := bind_some ed
  obtain ⟨y, e2, e3⟩ := bind_some ed
  split at e3
  · split at e3
    · rename_i hz
      cases e3
      refine ⟨B, ρ, x, R, e1, fun l vs B1 H1 s1 hl bl h1 q1 => ⟨B1, ρ, _, R.step s1, e2, fun u B2 H2 s2 q2 => ?_⟩⟩
      cases q2
      refine ⟨l, _, vs, rfl, rfl, s2.hh _ _ h1, hz.1, hz.2.1, by rw [dps_len q1]; exact hz.2.2, fun r hr => ?_⟩
      have s3 := Stp.add s2.bh (.lst (List.replicate (Int.toNat ‹Int›) vs).flatten) hr
      exact k r _ B2 _ ((s1.trans s2).trans s3) (Evl.fresh_back (s1.hh.trans s2.hh) hr) (Evl.fresh_back s2.bh hr) upd_same (dps_rep _ (dps_ex s2.bb _ _ q1))
    · cases e3
  · cases e3

/-! ### tuple * 0, tuple * 1 -/
theorem tuple_mul1 (l : Addr) (items : Array Value) (n : Nat) (dd : Option Addr) (sl : Array (Option Value)) (u : Tok) :
    Meets (Builtin.«tuple.__mul__» ⟨[.ref l, .int 1 u], []⟩) (fun _ R s => s.heap.get? l = some { cls := .type "tuple", dict := dd, data := .seq items n, slots := sl } ∧ R (.ok (.ret (Value.ref l))) s) :=
  .of_wp fun prog w A R s h => by
    obtain ⟨hp, g, d, tk, os⟩ := s
    obtain ⟨hl, h⟩ := h
    have f1 := AutoSeq1.idx_int
    have f2 := AutoSeq1.sub_tuple_tuple
    have c1 : (items.isEmpty || (1 : Int) == 1) = true := by simp
    wp_walk using wpAny_loadPart' hl
    repeat (first
      | (refine wpAny_ite_true (decide_eq_true (by rw [c1])) ?_; wp_walk using wpAny_loadPart' hl)
      | (refine wpAny_ite_true (by rw [c1]) ?_; wp_walk using wpAny_loadPart' hl))
    exact ⟨_, rfl, h⟩
theorem tuple_mul0 (l : Addr) (items : Array Value) (n : Nat) (dd : Option Addr) (sl : Array (Option Value)) (u : Tok) (c1 : (items.isEmpty || (0 : Int) == 1) = false) :
    Meets (Builtin.«tuple.__mul__» ⟨[.ref l, .int 0 u], []⟩) (fun _ R s => s.heap.get? l = some { cls := .type "tuple", dict := dd, data := .seq items n, slots := sl } ∧
      R (.ok (.ret (Value.ref s.heap.objs.size))) { s with heap := s.heap.push { cls := Value.type "tuple", data := Data.seq #[] }, toks := s.toks }) :=
  .of_wp fun prog w A R s h => by
    obtain ⟨hp, g, d, tk, os⟩ := s
    obtain ⟨hl, h⟩ := h
    have f1 := AutoSeq1.idx_int
    have f2 := AutoSeq1.sub_tuple_tuple
    wp_walk using wpAny_loadPart' hl
    repeat (first
      | (refine wpAny_ite_false (decide_eq_false (by rw [c1]; exact Bool.false_ne_true)) ?_; wp_walk using wpAny_loadPart' hl)
      | (refine wpAny_ite_false (by rw [c1]; exact Bool.false_ne_true) ?_; wp_walk using wpAny_loadPart' hl))
    exact ⟨_, rfl, h⟩
def rRep01 (K : PySem.W.Frag) : R2 := fun x y H Q => ∃ l xs, x = .ref l ∧ SqT K H l xs ∧ xs ≠ [] ∧ ((y = .int 1 ∧ Q (.ref l) H) ∨ (y = .int 0 ∧ ∀ p, H p = none → Q (.ref p) (upd H p (.tup []))))
theorem op_rep01 : OpR X (binaryOp .Mult) (rRep01 X.K) := by
  intro pins s σ H x y v u Q I rx ry h
  obtain ⟨l, xs, rfl, hT, hne, h⟩ := h
  cases rx
  obtain ⟨its, r, ⟨⟨cls, dd, data, sl⟩, ho, hc, n, hd⟩, hs⟩ := I.tuple hT
  simp only at hc hd
  subst hc hd
  have hle : its.length = xs.length := r.length.symm
  have hn : its ≠ [] := fun e => hne (by
    rw [e] at hle
    exact List.eq_nil_of_length_eq_zero hle.symm)
  have hi : its.toArray.isEmpty = false := by
    cases its with
    | nil => exact absurd rfl hn
    | cons a b => rfl
  rcases h with ⟨rfl, q⟩ | ⟨rfl, q⟩
  · obtain ⟨t, rfl⟩ := ry
    exact wpAny_binaryOp_repeat_ref (T := "tuple") (U := "int") (by decide) ⟨_, ho, rfl⟩ (fun s' => typeIs_int s' 1 t) noFill_tuple_mul F.fills_int_mul F.slot_int_rmul repeat_tuple F.slot_int_index.lookup
      (call_meets F.slot_int_rmul (typeIs_int s 1 t) F.entry_int_rmul (F.args_int_rmul_2 _ _) (int_rmul_tuple 1 t l its.toArray n dd sl)
        ⟨ho, rfl, ⟨_, ho, rfl⟩, call_meets F.slot_tuple_mul ⟨_, ho, rfl⟩ F.entry_tuple_mul (F.args_tuple_mul_2 _ _) (tuple_mul1 l its.toArray n dd sl t) ⟨ho, ⟨.ref l, H, I, rfl, q⟩⟩⟩)
  · obtain ⟨t, rfl⟩ := ry
    refine wpAny_binaryOp_repeat_ref (T := "tuple") (U := "int") (by decide) ⟨_, ho, rfl⟩ (fun s' => typeIs_int s' 0 t) noFill_tuple_mul F.fills_int_mul F.slot_int_rmul repeat_tuple F.slot_int_index.lookup
      (call_meets F.slot_int_rmul (typeIs_int s 0 t) F.entry_int_rmul (F.args_int_rmul_2 _ _) (int_rmul_tuple 0 t l its.toArray n dd sl)
        ⟨ho, rfl, ⟨_, ho, rfl⟩, call_meets F.slot_tuple_mul ⟨_, ho, rfl⟩ F.entry_tuple_mul (F.args_tuple_mul_2 _ _) (tuple_mul0 l its.toArray n dd sl t (by rw [hi]; rfl)) ⟨ho, ?_⟩⟩)
    refine ⟨.ref s.heap.objs.size, _, I.laid (t' := s.toks) (o := .tup []) (fun b ob q => Heap.get?_push_of_some _ q) (Nat.le_refl _) ?_, rfl, q _ (I.hok.fresh (Nat.le_refl _))⟩
    exact ⟨by show 0 ≤ sizeLine; exact Nat.zero_le _, [], .nil, IsTup.new _ _⟩
def oRep01 (p q : DE) : DE := fun ρ => (p ρ).bind fun x => (q ρ).bind fun y => match x, y with
  | .tuple (d :: ds), .int i => if i = 1 then some (.tuple (d :: ds)) else if i = 0 then some (.tuple []) else none
  | _, _ => none
theorem dp_rep01 {p q : DE} (ha : DP X B0 H0 a p) (hb : DK X B0 H0 b q) : DP X B0 H0 (.BinOp a .Mult b pos) (oRep01 p q) := pe_imp (pe_op op_rep01 ha hb) fun σ H Q ⟨B, ρ, d, R, ed, k⟩ => by
  obtain ⟨x, e1, ed⟩ := bind_some ed
  obtain ⟨y, e2, e3⟩ := bind_some ed
  refine pk R e1 e2 fun v u B1 H1 s1 q1 q2 => ?_
  split at e3
  · cases q2
    cases q1 with
    | tup hs ha =>
      have hne : ∀ {A : Prop}, _ → A := fun z => nomatch ((dps_nil_iff ha).mp z)
      split at e3
      · rename_i hi
        cases e3
        subst hi
        exact ⟨_, _, rfl, Evl.ex_t s1.bh hs, hne, .inl ⟨rfl, k _ B1 H1 s1 (.tup hs ha)⟩⟩
      · split at e3
        · rename_i hi
          cases e3
          subst hi
          refine ⟨_, _, rfl, Evl.ex_t s1.bh hs, hne, .inr ⟨rfl, fun r hr => ?_⟩⟩
          exact k (.ref r) _ _ (s1.trans (Stp.lay s1.bh (.tup []) hr)) (.tup (.of upd_same) .nil)
        · cases e3
  · cases e3

/-! ### slices -/
def cutL {α : Type} (xs : List α) (lo hi : Option Int) : List α := (xs.drop (HT.sIx xs.length 0 lo)).take (HT.sIx xs.length xs.length hi - HT.sIx xs.length 0 lo)
theorem cutL_dps {K : PySem.W.Frag} {H : Hp} {vs : List V} {ds : List PyData} (h : DpAll K H vs ds) (lo hi : Option Int) : DpAll K H (cutV vs lo hi) (cutL ds lo hi) := by
  unfold cutV cutL
  rw [dps_len h]
  exact dps_take _ (dps_drop _ h)
def nPart : Rho → Option (Option Int) := fun _ => some none
def nSome (p : DE) : Rho → Option (Option Int) := fun ρ => (p ρ).bind fun d => match d with
  | .int i => some (some i)
  | _ => none
theorem do_none : DO X B0 H0 none nPart := po_imp po_none fun σ H Q ⟨B, ρ, d, R, ed, k⟩ => by cases ed; exact k B H (.refl R.bh)
theorem do_some {p : DE} (h : DK X B0 H0 e p) : DO X B0 H0 (some e) (nSome p) := po_imp (po_some h) fun σ H Q ⟨B, ρ, d, R, ed, k⟩ => by
  obtain ⟨x, e1, e2⟩ := bind_some ed
  split at e2
  · cases e2
    refine ⟨B, ρ, _, R, e1, fun v B1 H1 s1 q1 => ?_⟩
    cases q1
    exact ⟨_, rfl, k B1 H1 s1⟩
  · cases e2
def lSl (p : DLs) (l h : Rho → Option (Option Int)) : DLs := fun ρ => (p ρ).bind fun ds => (l ρ).bind fun i => (h ρ).map fun j => cutL ds i j
theorem dl_sl {lo hi : Option Expr} {p : DLs} {l h : Rho → Option (Option Int)} (ha : DEl X B0 H0 e p) (hl : DO X B0 H0 lo l) (hh : DO X B0 H0 hi h) : DLn X B0 H0 (.Subscript e (.Slice lo hi none p2) pos) (lSl p l h) :=
  pe_imp (pe_slice sl_list ha hl hh) fun σ H Q ⟨B, ρ, d, R, ed, k⟩ => by
    obtain ⟨ds, e1, ed⟩ := bind_some ed
    obtain ⟨i, e2, ed⟩ := bind_some ed
    obtain ⟨j, e3, e4⟩ := map_some ed
    subst e4
    refine ⟨B, ρ, ds, R, e1, fun l vs B1 H1 s1 h1 q1 => ⟨B1, ρ, i, R.step s1, e2, fun B2 H2 s2 => ⟨B2, ρ, j, (R.step s1).step s2, e3, fun B3 H3 s3 => ?_⟩⟩⟩
    refine ⟨l, vs, rfl, Evl.ex_l (s2.hh.trans s3.hh) h1, fun r hr => ?_⟩
    have s := (s1.trans s2).trans s3
    exact k r _ B3 _ (s.trans (Stp.add s.bh (.lst _) hr)) (Evl.fresh_back s.hh hr) (Evl.fresh_back s.bh hr) upd_same (cutL_dps (dps_ex (s2.bb.trans s3.bb) _ _ q1) i j)
def oSlT (p : DE) (l h : Rho → Option (Option Int)) : DE := fun ρ => (p ρ).bind fun x => (l ρ).bind fun i => (h ρ).bind fun j => match x with
  | .tuple ds => some (.tuple (cutL ds i j))
  | _ => none
theorem sIx_le' (n d : Nat) (hd : d ≤ n) (o : Option Int) : HT.sIx n d o ≤ n := HT.sIx_le n d hd o
theorem cut_whole {α : Type} {xs : List α} {lo hi : Option Int} (h : HT.sIx xs.length 0 lo = 0 ∧ HT.sIx xs.length xs.length hi = xs.length) : cutL xs lo hi = xs := by
  unfold cutL
  rw [h.1, h.2, List.drop_zero, Nat.sub_zero, List.take_length]
theorem dp_slT {lo hi : Option Expr} {p : DE} {l h : Rho → Option (Option Int)} (ha : DP X B0 H0 e p) (hl : DO X B0 H0 lo l) (hh : DO X B0 H0 hi h) : DP X B0 H0 (.Subscript e (.Slice lo hi none p2) pos) (oSlT p l h) :=
  pe_imp (pe_slice sl_tupA ha hl hh) fun σ H Q ⟨B, ρ, d, R, ed, k⟩ => by
    obtain ⟨x, e1, ed⟩ := bind_some ed
    obtain ⟨i, e2, ed⟩ := bind_some ed
    obtain ⟨j, e3, e4⟩ := bind_some ed
    refine ⟨B, ρ, x, R, e1, fun v B1 H1 s1 q1 => ⟨B1, ρ, i, R.step s1, e2, fun B2 H2 s2 => ⟨B2, ρ, j, (R.step s1).step s2, e3, fun B3 H3 s3 => ?_⟩⟩⟩
    have s := (s1.trans s2).trans s3
    cases q1 with
    | @tup a1 xs1 ds1 hs ha =>
      have e5 : some (PyData.tuple (cutL ds1 i j)) = some d := e4
      have e6 := Option.some.inj e5
      subst e6
      have hs3 := Evl.ex_t (s1.bh.trans (s2.hh.trans s3.hh)) hs
      have ha3 := dps_ex (s2.bb.trans s3.bb) _ _ ha
      have hc := cutL_dps ha3 i j
      refine ⟨_, _, rfl, hs3, fun hw => ?_, fun hw r hr => ?_⟩
      · have hc' : cutL ds1 i j = ds1 := cut_whole (by rw [← dps_len ha]; exact hw)
        have hd : Dp X.K B3 (.ref a1) (.tuple (cutL ds1 i j)) := by
          rw [hc']
          exact .tup (Evl.ex_t (s2.bb.trans s3.bb) hs) ha3
        exact k _ B3 H3 s hd
      · exact k (.ref r) _ _ (s.trans (Stp.lay s.bh (.tup _) hr)) (.tup (.of upd_same) (dps_ex (Stp.lay s.bh (.tup _) hr).bb _ _ hc))
    | _ => cases e4
/-- xs[::-1] -/
def lRev (p : DLs) : DLs := fun ρ => (p ρ).map List.reverse
theorem dl_rev {k0 : Nat} {q1 q2 q3 : Pos} {p : DLs} (ha : DEl X B0 H0 e p) : DLn X B0 H0 (.Subscript e (.Slice none none (some (.UnaryOp .USub (.Constant (.int 1) k0 q1) q2)) q3) pos) (lRev p) :=
  pe_imp (pe_revL ha) fun σ H Q ⟨B, ρ, d, R, ed, k⟩ => by
    obtain ⟨ds, e1, e2⟩ := map_some ed
    subst e2
    refine ⟨B, ρ, ds, R, e1, fun l vs B1 H1 s1 h1 q1 => ⟨l, vs, rfl, h1, fun r hr => ?_⟩⟩
    exact k r _ B1 _ (s1.trans (Stp.add s1.bh (.lst _) hr)) (Evl.fresh_back s1.hh hr) (Evl.fresh_back s1.bh hr) upd_same (dps_rev q1)
/-! list(x), tuple(x) -/
def lList (p : DE) : DLs := fun ρ => (p ρ).bind itemsOf
theorem dl_list {p0 : Pos} {q : DE} (hg : Gl X "list") (hm : X.mg "list" = none) (ha : DP X B0 H0 e q) (he : starEach [e] X.env = (false, eval e X.env) :: starEach [] X.env := by rfl) (hpl : (backTo pos (starEach [] X.env)).any (·.1) = false := by rfl) :
    DLn X B0 H0 (.Call (.Name "list" p0) [e] [] pos) (lList q) := pe_imp (pe_callTy call_list_of hg hm (by decide +kernel) (pa_cons ha pa_nil he) (by decide) (by decide) he hpl) fun σ H Q ⟨B, ρ, d, R, ed, k⟩ => by
  obtain ⟨x, e1, e2⟩ := bind_some ed
  refine ⟨B, ρ, x, R, e1, fun v B1 H1 s1 q1 => ?_⟩
  cases q1 with
  | lst hs ha =>
    cases e2
    exact ⟨_, _, rfl, .inl (Evl.ex_l s1.bh hs), fun r hr => k r _ B1 _ (s1.trans (Stp.add s1.bh (.lst _) hr)) (Evl.fresh_back s1.hh hr) (Evl.fresh_back s1.bh hr) upd_same ha⟩
  | tup hs ha =>
    cases e2
    exact ⟨_, _, rfl, .inr (Evl.ex_t s1.bh hs), fun r hr => k r _ B1 _ (s1.trans (Stp.add s1.bh (.lst _) hr)) (Evl.fresh_back s1.hh hr) (Evl.fresh_back s1.bh hr) upd_same ha⟩
  | _ => cases e2
def oTuple (p : DLs) : DE := fun ρ => (p ρ).map PyData.tuple
theorem dp_tuple {p0 : Pos} {q : DLs} (hg : Gl X "tuple") (hm : X.mg "tuple" = none) (ha : DEl X B0 H0 e q) (he : starEach [e] X.env = (false, eval e X.env) :: starEach [] X.env := by rfl) (hpl : (backTo pos (starEach [] X.env)).any (·.1) = false := by rfl) :
    DP X B0 H0 (.Call (.Name "tuple" p0) [e] [] pos) (oTuple q) := pe_imp (pe_callTy call_tuple_of hg hm (by decide +kernel) (pa_cons ha pa_nil he) (by decide) (by decide) he hpl) fun σ H Q ⟨B, ρ, d, R, ed, k⟩ => by
  obtain ⟨ds, e1, e2⟩ := map_some ed
  subst e2
  exact ⟨B, ρ, ds, R, e1, fun l vs B1 H1 s1 h1 q1 => ⟨l, vs, rfl, .inl ⟨h1, fun r hr => k (.ref r) _ _ (s1.trans (Stp.lay s1.bh (.tup _) hr)) (.tup (.of upd_same) (dps_ex (Stp.lay s1.bh (.tup _) hr).bb _ _ q1))⟩⟩⟩
end
end DL

set_option Elab.async false
set_option linter.all false
set_option maxRecDepth 100000
set_option maxHeartbeats 4000000
/-! DL5: what is walked, comprehensions, calls of defs. -/
namespace DL
open PySem L2 PyProof.Rows

/-! ### targets -/
def DGt (K : PySem.W.Frag) (B0 : BZ) (H0 : Hp) (t : TG) (g : PyData → Rho → Option Rho) (sl : List Nat) : Prop :=
  ∀ (B H : Hp) (σ : L2.St) (ρ ρ' : Rho) (v : V) (d : PyData) (Q : L2.St → Hp → Prop), Rel K B0 H0 B H σ ρ → Dp K B v d → g d ρ = some ρ' → (∀ σ', Rel K B0 H0 B H σ' ρ' → wipe σ' sl = wipe σ sl → Q σ' H) → t v σ H Q
theorem wipe_get (σ : L2.St) (k : Nat) : ∀ vs : List Nat, (wipe σ vs)[k]? = if k ∈ vs then (if k < σ.length then some none else none) else σ[k]?
  | [] => by simp [wipe]
  | v :: vs => by
    unfold wipe
    rw [List.getElem?_set, wipe_get σ k vs, wipe_length]
    by_cases h : v = k
    · subst h; simp
    · rw [if_neg h]
      by_cases h2 : k ∈ vs
      · rw [if_pos h2, if_pos (List.mem_cons_of_mem _ h2)]
      · rw [if_neg h2, if_neg (by simp [h2, Ne.symm h])]
theorem wipe_set {σ : L2.St} {vs : List Nat} {i : Nat} {x : Option V} (h : i ∈ vs) : wipe (σ.set i x) vs = wipe σ vs := by
  apply List.ext_getElem?
  intro k
  rw [wipe_get, wipe_get, List.length_set]
  by_cases hk : k ∈ vs
  · rw [if_pos hk, if_pos hk]
  · rw [if_neg hk, if_neg hk, get_set_ne (fun z => hk (by rw [← z]; exact h))]
theorem wipe_wipe {σ : L2.St} {vs : List Nat} : wipe (wipe σ vs) vs = wipe σ vs := by
  apply List.ext_getElem?
  intro k
  rw [wipe_get, wipe_get, wipe_length]
  by_cases hk : k ∈ vs
  · rw [if_pos hk, if_pos hk]
  · rw [if_neg hk, if_neg hk]
def gN (i : Nat) : PyData → Rho → Option Rho := fun d ρ => some (ρ.set i (some (.dat d)))
theorem dg_name {K : PySem.W.Frag} {B0 : BZ} {H0 : Hp} {i : Nat} {sl : List Nat} (h : i ∈ sl) (nz : NZ B0 i) : DGt K B0 H0 (gName i) (gN i) sl := fun B H σ ρ ρ' v d Q R hv e k => by
  cases e
  exact k _ (R.setDat nz hv) (wipe_set h)
def gNs : List Nat → List PyData → Rho → Option Rho
  | [], [], ρ => some ρ
  | i :: is, d :: ds, ρ => gNs is ds (ρ.set i (some (.dat d)))
  | _, _, _ => none
def gT (is : List Nat) : PyData → Rho → Option Rho := fun d ρ => match d with
  | .tuple ds => gNs is ds ρ
  | _ => none
def gNames : List Nat → TGs
  | [] => gNil
  | i :: is => gCons (gName i) (gNames is)
theorem gNs_len : ∀ {is : List Nat} {ds : List PyData} {ρ ρ' : Rho}, gNs is ds ρ = some ρ' → ds.length = is.length
  | [], [], _, _, _ => rfl
  | i :: is, d :: ds, _, _, e => by
    have q := gNs_len (is := is) (ds := ds) e
    simp [q]
  | [], d :: ds, _, _, e => by cases e
  | i :: is, [], _, _, e => by cases e
theorem dg_names {K : PySem.W.Frag} {sl : List Nat} {B0 : BZ} {H0 B H : Hp} : ∀ {is : List Nat} {ds : List PyData} {vs : List V} {σ : L2.St} {ρ ρ' : Rho} {Q : L2.St → Hp → Prop}, (∀ i ∈ is, i ∈ sl ∧ NZ B0 i) → Rel K B0 H0 B H σ ρ → DpAll K B vs ds → gNs is ds ρ = some ρ' →
    (∀ σ', Rel K B0 H0 B H σ' ρ' → wipe σ' sl = wipe σ sl → Q σ' H) → gNames is vs σ H Q
  | [], [], vs, σ, ρ, ρ', Q, hm, R, hv, e, k => by
    cases hv; cases e
    exact ⟨rfl, k σ R rfl⟩
  | i :: is, d :: ds, vs, σ, ρ, ρ', Q, hm, R, hv, e, k => by
    cases hv with
    | cons h1 h2 =>
      refine ⟨_, _, rfl, ?_⟩
      exact dg_names (fun j hj => hm j (List.mem_cons_of_mem _ hj)) (R.setDat (hm i (List.mem_cons_self ..)).2 h1) h2 e fun σ' R' w => k σ' R' (w.trans (wipe_set (hm i (List.mem_cons_self ..)).1))
  | [], d :: ds, _, _, _, _, _, _, _, _, e, _ => by cases e
  | i :: is, [], _, _, _, _, _, _, _, _, e, _ => by cases e
theorem dg_tup {K : PySem.W.Frag} {B0 : BZ} {H0 : Hp} {is sl : List Nat} {n : Nat} (hn : is.length = n) (hm : ∀ i ∈ is, i ∈ sl ∧ NZ B0 i) : DGt K B0 H0 (gTup K n (gNames is)) (gT is) sl := fun B H σ ρ ρ' v d Q R hv e k => by
  unfold gT at e
  split at e
  · cases hv with
    | tup hs ha =>
      exact ⟨_, _, rfl, Evl.ex_t R.bh hs, by rw [dps_len ha, gNs_len e, hn], dg_names hm R ha e k⟩
  · cases e

/-! ### sources -/
def JOk (K : PySem.W.Frag) (B : Hp) (J : It) (ds : List PyData) : Prop := ∀ B1 H1, Ex B B1 → Ex B1 H1 → ∀ i,
  (∀ d, ds[i]? = some d → J.go i H1 ∧ ∀ x H2, J.yld i H1 x H2 → ∃ B2, Stp B1 H1 B2 H2 ∧ Dp K B2 x d) ∧ (ds.length ≤ i → J.stop i H1)
def rdI (K : PySem.W.Frag) (B0 : BZ) (H0 : Hp) (di : DLs) : TI := fun σ H R => ∃ B ρ ds, Rel K B0 H0 B H σ ρ ∧ di ρ = some ds ∧ ∀ J B' H', Stp B H B' H' → JOk K B' J ds → R J H'
section
variable {X : Cx} {B0 : BZ} {H0 : Hp} {e a b c tg : Expr} {es : List Expr} {pos p2 p3 : Pos}
abbrev DI (X : Cx) (B0 : BZ) (H0 : Hp) (tg e : Expr) (di : DLs) : Prop := PI X tg e (rdI X.K B0 H0 di)
theorem pi_imp {w w' : TI} (h : PI X tg e w) (k : ∀ σ H R, w' σ H R → w σ H R) : PI X tg e w' := ⟨fun pins s σ H R I q => h.run pins s σ H R I (k σ H R q)⟩
theorem pi_or {w w' : TI} (h : PI X tg e w) (h' : PI X tg e w') : PI X tg e (fun σ H R => w σ H R ∨ w' σ H R) := ⟨fun pins s σ H R I q => by
  rcases q with q | q
  · exact h.run pins s σ H R I q
  · exact h'.run pins s σ H R I q⟩
theorem jok_l {K : PySem.W.Frag} {B : Hp} {l : Addr} {vs : List V} {ds : List PyData} (hs : SqL K B l vs) (ha : DpAll K B vs ds) : JOk K B (Itl K l) ds := fun B1 H1 b1 h1 i => by
  have hs1 := Evl.ex_l (b1.trans h1) hs
  refine ⟨fun d e => ?_, fun hi => ⟨vs, hs1, by rw [dps_len ha]; exact hi⟩⟩
  obtain ⟨v, e1, q⟩ := dps_get ha e
  refine ⟨⟨vs, v, hs1, e1⟩, fun x H2 y => ?_⟩
  obtain ⟨rfl, y⟩ := y
  have z := y vs hs1
  rw [e1] at z
  cases z
  exact ⟨B1, .refl h1, dp_ex b1 _ _ q⟩
theorem jok_t {K : PySem.W.Frag} {B : Hp} {l : Addr} {vs : List V} {ds : List PyData} (hs : SqT K B l vs) (ha : DpAll K B vs ds) : JOk K B (Itt K l) ds := fun B1 H1 b1 h1 i => by
  have hs1 := Evl.ex_t (b1.trans h1) hs
  refine ⟨fun d e => ?_, fun hi => ⟨vs, hs1, by rw [dps_len ha]; exact hi⟩⟩
  obtain ⟨v, e1, q⟩ := dps_get ha e
  refine ⟨⟨vs, v, hs1, e1⟩, fun x H2 y => ?_⟩
  obtain ⟨rfl, y⟩ := y
  have z := y vs hs1
  rw [e1] at z
  cases z
  exact ⟨B1, .refl h1, dp_ex b1 _ _ q⟩
def iD (p : DE) : DLs := fun ρ => (p ρ).bind itemsOf
theorem di_data {p : DE} (h : DP X B0 H0 e p) : DI X B0 H0 tg e (iD p) := pi_imp (pi_or (pi_list h) (pi_tup h)) fun σ H Q ⟨B, ρ, d, R, ed, k⟩ => by
  obtain ⟨x, e1, e2⟩ := bind_some ed
  cases x <;> try (cases e2; done)
  · cases e2
    refine .inl ⟨B, ρ, _, R, e1, fun v B1 H1 s1 q1 => ?_⟩
    cases q1 with
    | lst hs ha => exact ⟨_, rfl, ⟨_, Evl.ex_l s1.bh hs⟩, k _ B1 H1 s1 (jok_l hs ha)⟩
  · cases e2
    refine .inr ⟨B, ρ, _, R, e1, fun v B1 H1 s1 q1 => ?_⟩
    cases q1 with
    | tup hs ha => exact ⟨_, rfl, ⟨_, Evl.ex_t s1.bh hs⟩, k _ B1 H1 s1 (jok_t hs ha)⟩
/-- range(n), range(a, b) -/
def intsD (lo : Int) (n : Nat) : List PyData := (List.range n).map fun (k : Nat) => PyData.int (lo + (k : Int))
theorem intsD_len (lo : Int) (n : Nat) : (intsD lo n).length = n := by
  unfold intsD
  rw [List.length_map, List.length_range]
theorem intsD_get {lo : Int} {n i : Nat} {d : PyData} (h : (intsD lo n)[i]? = some d) : i < n ∧ d = .int (lo + i) := by
  obtain ⟨h1, h2⟩ := List.getElem?_eq_some_iff.mp h
  have h3 := h1
  rw [intsD_len] at h3
  refine ⟨h3, ?_⟩
  unfold intsD at h
  rw [List.getElem?_map, List.getElem?_eq_getElem (by rw [List.length_range]; exact h3), List.getElem_range] at h
  exact (Option.some.inj h).symm
theorem jok_r {K : PySem.W.Frag} {B : Hp} {lo : Int} {n : Nat} : JOk K B (Itr lo n) (intsD lo n) := fun B1 H1 b1 h1 i => by
  refine ⟨fun d e => ?_, fun hi => by rw [intsD_len] at hi; exact hi⟩
  obtain ⟨hi, rfl⟩ := intsD_get e
  refine ⟨hi, fun x H2 y => ?_⟩
  obtain ⟨rfl, rfl⟩ := y
  exact ⟨B1, .refl h1, .int _⟩
def iR1 (p : DLs) : DLs := fun ρ => (p ρ).bind fun ds => match ds with
  | [.int j] => if -(2 ^ 62) ≤ j ∧ j < 2 ^ 62 then some (intsD 0 j.toNat) else none
  | _ => none
def iR2 (p : DLs) : DLs := fun ρ => (p ρ).bind fun ds => match ds with
  | [.int i, .int j] => if -(2 ^ 62) ≤ i ∧ i < 2 ^ 62 ∧ -(2 ^ 62) ≤ j ∧ j < 2 ^ 62 then some (intsD i (j - i).toNat) else none
  | _ => none
theorem di_range1 {p : Pos} {r : DLs} (hg : Gl X "range") (hm : X.mg "range" = none) (ha : DAK X B0 H0 [a] r) (hs : starEach [a] X.env = [(false, eval a X.env)] := by rfl) : DI X B0 H0 tg (.Call (.Name "range" p) [a] [] pos) (iR1 r) :=
  pi_imp (pi_range1 hg hm ha hs) fun σ H Q ⟨B, ρ, d, R, ed, k⟩ => by
    obtain ⟨ds, e1, e2⟩ := bind_some ed
    refine ⟨B, ρ, ds, R, e1, fun vs B1 H1 s1 q1 => ?_⟩
    split at e2
    · split at e2
      · rename_i hz
        cases e2
        obtain ⟨v, rfl, hv⟩ := one_of q1
        cases hv
        exact ⟨_, rfl, hz.1, hz.2, k _ B1 H1 s1 jok_r⟩
      · cases e2
    · cases e2
theorem two_of {K : PySem.W.Frag} {H : Hp} {vs : List V} {x y : PyData} (h : DpAll K H vs [x, y]) : ∃ v u, vs = [v, u] ∧ Dp K H v x ∧ Dp K H u y := by
  cases h with
  | cons h1 h2 =>
    obtain ⟨u, rfl, h3⟩ := one_of h2
    exact ⟨_, _, rfl, h1, h3⟩
theorem di_range2 {p : Pos} {r : DLs} (hg : Gl X "range") (hm : X.mg "range" = none) (ha : DAK X B0 H0 [a, b] r) (hs : starEach [a, b] X.env = [(false, eval a X.env), (false, eval b X.env)] := by rfl) (hs2 : starEach [b] X.env = [(false, eval b X.env)] := by rfl) : DI X B0 H0 tg (.Call (.Name "range" p) [a, b] [] pos) (iR2 r) :=
  pi_imp (pi_range2 hg hm ha hs hs2) fun σ H Q ⟨B, ρ, d, R, ed, k⟩ => by
    obtain ⟨ds, e1, e2⟩ := bind_some ed
    refine ⟨B, ρ, ds, R, e1, fun vs B1 H1 s1 q1 => ?_⟩
    split at e2
    · split at e2
      · rename_i hz
        cases e2
        obtain ⟨v, u, rfl, hv, hu⟩ := two_of q1
        cases hv
        cases hu
        exact ⟨_, _, rfl, hz, k _ B1 H1 s1 jok_r⟩
      · cases e2
    · cases e2

/-! ### comprehensions -/
def lcGo (g : PyData → Rho → Option Rho) (t : Rho → Option Bool) (p : DE) (ρ : Rho) : List PyData → Option (List PyData)
  | [] => some []
  | d :: ds => (g d ρ).bind fun ρ1 => (t ρ1).bind fun b => if b then (p ρ1).bind fun y => (lcGo g t p ρ ds).map (y :: ·) else lcGo g t p ρ ds
def wipeR (ρ : Rho) : List Nat → Rho
  | [] => ρ
  | v :: vs => (wipeR ρ vs).set v none
def lLc (di : DLs) (g : PyData → Rho → Option Rho) (t : Rho → Option Bool) (p : DE) (vs : List Nat) : DLs := fun ρ => (di ρ).bind fun ds => if ds.length ≤ sizeLine then lcGo g t p (wipeR ρ vs) ds else none
theorem Rel.wipe {K : PySem.W.Frag} {B H : Hp} {σ : L2.St} {ρ : Rho} (R : Rel K B0 H0 B H σ ρ) : ∀ vs : List Nat, (∀ v ∈ vs, NZ B0 v) → Rel K B0 H0 B H (L2.wipe σ vs) (wipeR ρ vs)
  | [], _ => R
  | v :: vs, h => (R.wipe vs fun u hu => h u (List.mem_cons_of_mem _ hu)).setNone (h v (List.mem_cons_self ..))
theorem drop_cons {α : Type} {l : List α} {i : Nat} (h : i < l.length) : ∃ d, l[i]? = some d ∧ l.drop i = d :: l.drop (i + 1) := ⟨l[i], List.getElem?_eq_getElem h, List.drop_eq_getElem_cons h⟩
theorem lc_read {K : PySem.W.Frag} {di : DLs} {gt : TG} {g : PyData → Rho → Option Rho} {t : Rho → Option Bool} {p : DE} {vs : List Nat} (hg : DGt K B0 H0 gt g vs) (hnz : ∀ v ∈ vs, NZ B0 v) (σ : L2.St) (H : Hp) (Q : VK) (h : rdL K B0 H0 (lLc di g t p vs) σ H Q) :
    tLc (rdI K B0 H0 di) gt (rdT K B0 H0 t) (rdP K B0 H0 p) vs σ H Q := by
  obtain ⟨B, ρ, d, R, ed, k⟩ := h
  obtain ⟨ds, e1, e2⟩ := bind_some ed
  split at e2
  · rename_i hz
    refine ⟨B, ρ, ds, R, e1, fun J B1 H1 s1 jok Dl hD => ?_⟩
    let W : Nat → Nat → Hp → Prop := fun i m H' => m = ds.length - i ∧ i ≤ ds.length ∧ ∃ B' acc accd rest, Stp B1 H1 B' H' ∧ H' Dl = some (.lst acc) ∧ B' Dl = none ∧ DpAll K B' acc accd ∧ lcGo g t p (wipeR ρ vs) (ds.drop i) = some rest ∧ accd ++ rest = d ∧ accd.length ≤ i
    refine ⟨W, ⟨ds.length, rfl, Nat.zero_le _, B1, [], [], d, Stp.add s1.bh _ hD, upd_same, Evl.fresh_back s1.bh hD, .nil, e2, rfl, Nat.le_refl _⟩, ?_⟩
    rintro i m H' ⟨hm, hi, B', acc, accd, rest, s, hl, bl, ha, eg, er, hle⟩
    by_cases hlt : i < ds.length
    · obtain ⟨x, ex, edr⟩ := drop_cons hlt
      rw [edr] at eg
      obtain ⟨ρ1, eg1, eg⟩ := bind_some eg
      obtain ⟨b, eb, eg⟩ := bind_some eg
      obtain ⟨jgo, jy⟩ := (jok B' H' s.bb s.bh i).1 x ex
      refine .inr ⟨jgo, fun H'' => W (i + 1) (ds.length - (i + 1)) H'', fun H'' w => ⟨_, by omega, w⟩, fun v H2 y => ?_⟩
      obtain ⟨B2, s2, hv⟩ := jy v H2 y
      have hl2 := s2.hh _ _ hl
      have bl2 := s2.new Dl (by rw [hl]; exact fun z => nomatch z) bl
      refine hg B2 H2 _ _ ρ1 v x _ ((R.step (s1.trans (s.trans s2))).wipe vs hnz) hv eg1 fun σ2 R2 hw => ⟨hw.trans wipe_wipe, B2, ρ1, b, R2, eb, fun B3 H3 s3 => ?_⟩
      have hl3 := s3.hh _ _ hl2
      have bl3 := s3.new Dl (by rw [hl2]; exact fun z => nomatch z) bl2
      cases b with
      | true =>
        obtain ⟨y, ey, eg⟩ := bind_some eg
        obtain ⟨rest', er', rfl⟩ := map_some eg
        refine ⟨B3, ρ1, y, R2.step s3, ey, fun w B4 H4 s4 hw4 => ?_⟩
        have hl4 := s4.hh _ _ hl3
        have bl4 := s4.new Dl (by rw [hl3]; exact fun z => nomatch z) bl3
        have st := ((s.trans s2).trans s3).trans s4
        refine ⟨acc, hl4, ?_, rfl, hlt, B4, acc ++ [w], accd ++ [y], rest', ⟨st.bb, fun a o q => ?_, fun a o q => ?_, st.new⟩, upd_same, bl4, dps_app (dps_ex (s2.bb.trans (s3.bb.trans s4.bb)) _ _ ha) (.cons hw4 .nil), er', ?_, ?_⟩
        · rw [dps_len ha]; omega
        · have hx : a ≠ Dl := fun z => by subst z; rw [hD] at q; cases q
          rw [upd_ne hx]; exact st.hh a o q
        · have hx : a ≠ Dl := fun z => by subst z; rw [bl4] at q; cases q
          rw [upd_ne hx]; exact st.bh a o q
        · rw [List.append_assoc]; exact er
        · rw [List.length_append, List.length_singleton]; omega
      | false =>
        exact ⟨rfl, hlt, B3, acc, accd, rest, (s.trans s2).trans s3, hl3, bl3, dps_ex (s2.bb.trans s3.bb) _ _ ha, eg, er, by omega⟩
    · have hi' : i = ds.length := by omega
      subst hi'
      rw [List.drop_length] at eg
      cases eg
      rw [List.append_nil] at er
      subst er
      exact .inl ⟨(jok B' H' s.bb s.bh _).2 (Nat.le_refl _), k Dl acc B' H' (s1.trans s) (Evl.fresh_back s1.hh hD) bl hl ha⟩
  · cases e2
abbrev DTs (X : Cx) (B0 : BZ) (H0 : Hp) (ifs : List Expr) (t : Rho → Option Bool) : Prop := PTs X ifs (rdT X.K B0 H0 t)
def tYesD : Rho → Option Bool := fun _ => some true
theorem dts_nil : DTs X B0 H0 [] tYesD := ⟨fun pins s σ H Q I ⟨B, ρ, d, R, ed, k⟩ => by
  cases ed
  exact (pts_nil (X := X)).run pins s σ H Q I (k B H (.refl R.bh))⟩
theorem dts_one {t : Rho → Option Bool} (h : DT X B0 H0 c t) : DTs X B0 H0 [c] t := pts_one h
theorem dl_lc {elt iter : Expr} {ifs : List Expr} {scope : Scope} {own : List (Str × Nat)} {di : DLs} {gt : TG} {g : PyData → Rho → Option Rho} {t : Rho → Option Bool} {p : DE} (hc : X.calm = true) (hN : X.N.Nodup) (hi : DI X B0 H0 tg iter di) (ok : BlkOk X.N X.env.scope scope own)
    (hgt : DGt X.K B0 H0 gt g (own.map (·.2))) (hnz : ∀ v ∈ own.map (·.2), NZ B0 v)
    (hg : ∀ (s : Shared) (H : Hp) (C : Addr) (cl : List (Str × Addr)) (fp : List Addr), PG (X.blk s H scope (compEnvC scope cl C X.env) fp) tg gt) (ht : ∀ (s : Shared) (H : Hp) (C : Addr) (cl : List (Str × Addr)) (fp : List Addr), DTs (X.blk s H scope (compEnvC scope cl C X.env) fp) B0 H0 ifs t)
    (he : ∀ (s : Shared) (H : Hp) (C : Addr) (cl : List (Str × Addr)) (fp : List Addr), DP (X.blk s H scope (compEnvC scope cl C X.env) fp) B0 H0 elt p) (hs : ∀ x, foldedSetIterable iter X.env x = pure x := by intro _; rfl) :
    DLn X B0 H0 (.ListComp elt [⟨tg, iter, ifs, 0⟩] scope pos) (lLc di g t p (own.map (·.2))) :=
  pe_imp (pe_lc hc hN hi ok hg ht he hs) (lc_read hgt hnz)

/-! ### defs: their promises, their calls -/
def spP (K : PySem.W.Frag) (F : List PyData → Option PyData) : Sp := fun vs H Q _ => ∃ B ds d, Ex B H ∧ DpAll K B vs ds ∧ F ds = some d ∧ ∀ v B' H', Stp B H B' H' → Dp K B' v d → Q v H'
def spL (K : PySem.W.Frag) (F : List PyData → Option (List PyData)) : Sp := fun vs H Q _ => ∃ B ds d, Ex B H ∧ DpAll K B vs ds ∧ F ds = some d ∧ ∀ l ws B' H', Stp B H B' H' → H l = none → B' l = none → H' l = some (.lst ws) → DpAll K B' ws d → Q (.ref l) H'
/-- a def by its name: it keeps the promise sp, at level k -/
def Dfn (P : Program) (w : World) (K : PySem.W.Frag) (mg : Str → Option Value) (base : Heap) (k : Nat) (x : Str) (sp : Sp) : Prop :=
  ∃ (f : Addr) (fd : FuncData) (ps : List Str), FnOk P w K mg base CX0 k f fd ps sp ∧ mg x = some (.ref f) ∧ PySem.W.keepIn K (.ref f) = true ∧ Binds K fd ps []
theorem Dfn.mono {P : Program} {w : World} {K : PySem.W.Frag} {mg : Str → Option Value} {base : Heap} {j k : Nat} {x : Str} {sp : Sp} (D : Dfn P w K mg base j x sp) (h : j ≤ k) : Dfn P w K mg base k x sp := by
  obtain ⟨f, fd, ps, F, a, b, c⟩ := D
  exact ⟨f, fd, ps, F.mono h, a, b, c⟩
theorem dp_call {k : Nat} {x : Str} {F : List PyData → Option PyData} {r : DLs} {p : Pos} (D : Dfn X.prog X.w X.K X.mg X.base k x (spP X.K F)) (hr : Room k X.A) (hg : Gl X x) (ha : DA X B0 H0 (e :: es) r) (hdb : (x == ("__debug__" : Str)) = false := by decide)
    (he : starEach (e :: es) X.env = (false, eval e X.env) :: starEach es X.env := by rfl) (hpl : (backTo pos (starEach es X.env)).any (·.1) = false := by rfl) : DP X B0 H0 (.Call (.Name x p) (e :: es) [] pos) (oC F r) := by
  obtain ⟨f, fd, ps, FO, hm, hk, hb⟩ := D
  refine pe_imp (pe_call FO hr hg hm hk hb .nil pass0 ha hdb he hpl) fun σ H Q ⟨B, ρ, d, R, ed, k⟩ => ?_
  obtain ⟨ds, e1, e2⟩ := bind_some ed
  refine ⟨B, ρ, ds, R, e1, fun vs B1 H1 s1 q1 => ?_⟩
  show spP X.K F (vs ++ []) H1 Q E0
  rw [List.append_nil]
  exact ⟨B1, ds, d, s1.bh, q1, e2, fun v B2 H2 s2 q2 => k v B2 H2 (s1.trans s2) q2⟩
def lC (F : List PyData → Option (List PyData)) (r : DLs) : DLs := fun ρ => (r ρ).bind F
theorem dl_call {k : Nat} {x : Str} {F : List PyData → Option (List PyData)} {r : DLs} {p : Pos} (D : Dfn X.prog X.w X.K X.mg X.base k x (spL X.K F)) (hr : Room k X.A) (hg : Gl X x) (ha : DA X B0 H0 (e :: es) r) (hdb : (x == ("__debug__" : Str)) = false := by decide)
    (he : starEach (e :: es) X.env = (false, eval e X.env) :: starEach es X.env := by rfl) (hpl : (backTo pos (starEach es X.env)).any (·.1) = false := by rfl) : DLn X B0 H0 (.Call (.Name x p) (e :: es) [] pos) (lC F r) := by
  obtain ⟨f, fd, ps, FO, hm, hk, hb⟩ := D
  refine pe_imp (pe_call FO hr hg hm hk hb .nil pass0 ha hdb he hpl) fun σ H Q ⟨B, ρ, d, R, ed, k⟩ => ?_
  obtain ⟨ds, e1, e2⟩ := bind_some ed
  refine ⟨B, ρ, ds, R, e1, fun vs B1 H1 s1 q1 => ?_⟩
  show spL X.K F (vs ++ []) H1 Q E0
  rw [List.append_nil]
  exact ⟨B1, ds, d, s1.bh, q1, e2, fun l ws B2 H2 s2 hl bl h2 q2 => k l ws B2 H2 (s1.trans s2) (Evl.fresh_back s1.hh hl) bl h2 q2⟩
end
end DL

set_option Elab.async false
set_option linter.all false
set_option maxRecDepth 100000
set_option maxHeartbeats 4000000
/-! DL6: statements, and a def by its body. -/
namespace DL
open PySem L2 PyProof.Rows
inductive Out where
  | nx (ρ : Rho)
  | rt (d : PyData) (ρ : Rho)
  | rtL (l : List PyData)
  | bk (ρ : Rho)
  | ct (ρ : Rho)
def OutOk (K : PySem.W.Frag) (B0 : BZ) (H0 B : Hp) (D : Ends) : Out → Prop
  | .nx ρ' => ∀ σ' B' H', Rel K B0 H0 B' H' σ' ρ' → Ex B B' → D.nx σ' H'
  | .bk ρ' => ∀ σ' B' H', Rel K B0 H0 B' H' σ' ρ' → Ex B B' → D.bk σ' H'
  | .ct ρ' => ∀ σ' B' H', Rel K B0 H0 B' H' σ' ρ' → Ex B B' → D.ct σ' H'
  | .rt d ρ' => ∀ σ' v B' H', Rel K B0 H0 B' H' σ' ρ' → Ex B B' → Dp K B' v d → D.rt v H'
  | .rtL ds => ∀ l vs B' H', Stp B0.b H0 B' H' → H0 l = none → B' l = none → H' l = some (.lst vs) → DpAll K B' vs ds → D.rt (.ref l) H'
abbrev DSt := Rho → Option Out
def rdS (K : PySem.W.Frag) (B0 : BZ) (H0 : Hp) (ds : DSt) : TS := fun D σ H => ∃ B ρ o, Rel K B0 H0 B H σ ρ ∧ ds ρ = some o ∧ OutOk K B0 H0 B D o
theorem OutOk.mono {K : PySem.W.Frag} {B0 : BZ} {H0 B B' : Hp} {D : Ends} {o : Out} (e : Ex B B') (h : OutOk K B0 H0 B D o) : OutOk K B0 H0 B' D o := by
  cases o with
  | nx ρ' => exact fun σ' B2 H' R e2 => h σ' B2 H' R (e.trans e2)
  | bk ρ' => exact fun σ' B2 H' R e2 => h σ' B2 H' R (e.trans e2)
  | ct ρ' => exact fun σ' B2 H' R e2 => h σ' B2 H' R (e.trans e2)
  | rt d ρ' => exact fun σ' v B2 H' R e2 q => h σ' v B2 H' R (e.trans e2) q
  | rtL l => exact h
section
variable {X : Cx} {B0 : BZ} {H0 : Hp} {e a b c tg : Expr} {es : List Expr} {pos p2 p3 : Pos} {st : Stmt} {sts : List Stmt}
abbrev DS (X : Cx) (B0 : BZ) (H0 : Hp) (st : Stmt) (ds : DSt) : Prop := PS X st (rdS X.K B0 H0 ds)
abbrev DSs (X : Cx) (B0 : BZ) (H0 : Hp) (sts : List Stmt) (ds : DSt) : Prop := PSs X sts (rdS X.K B0 H0 ds)
theorem ps_imp {t t' : TS} (h : PS X st t) (k : ∀ D σ H, t' D σ H → t D σ H) : PS X st t' := ⟨fun pins s σ H D I q => h.run pins s σ H D I (k D σ H q)⟩
theorem pss_imp {t t' : TS} (h : PSs X sts t) (k : ∀ D σ H, t' D σ H → t D σ H) : PSs X sts t' := ⟨fun pins s σ H D I q => h.run pins s σ H D I (k D σ H q)⟩
def sNil : DSt := fun ρ => some (.nx ρ)
def sSeq (s t : DSt) : DSt := fun ρ => (s ρ).bind fun o => match o with
  | .nx ρ' => t ρ'
  | .rt d r => some (.rt d r)
  | .rtL d => some (.rtL d)
  | .bk d => some (.bk d)
  | .ct d => some (.ct d)
theorem dss_nil : DSs X B0 H0 [] sNil := pss_imp pss_nil fun D σ H ⟨B, ρ, o, R, e, k⟩ => by
  cases e
  exact k σ B H R (Evl.Ex.refl _)
theorem seq_read {K : PySem.W.Frag} {s t : DSt} (D : Ends) (σ : L2.St) (H : Hp) (h : rdS K B0 H0 (sSeq s t) D σ H) : tSeq (rdS K B0 H0 s) (rdS K B0 H0 t) D σ H := by
  obtain ⟨B, ρ, o, R, e, k⟩ := h
  obtain ⟨o1, e1, e2⟩ := bind_some e
  refine ⟨B, ρ, o1, R, e1, ?_⟩
  cases o1 with
  | nx ρ' => exact fun σ' B' H' R' e' => ⟨B', ρ', o, R', e2, k.mono e'⟩
  | rt d r => cases e2; exact k
  | rtL d => cases e2; exact k
  | bk d => cases e2; exact k
  | ct d => cases e2; exact k
theorem dss_cons {s t : DSt} (h1 : DS X B0 H0 st s) (h2 : DSs X B0 H0 sts t) : DSs X B0 H0 (st :: sts) (sSeq s t) := pss_imp (pss_cons h1 h2) seq_read
theorem dss_one {s : DSt} (h1 : DS X B0 H0 st s) : DSs X B0 H0 [st] s := pss_one h1
def sIf (t : Rho → Option Bool) (p q : DSt) : DSt := fun ρ => (t ρ).bind fun b => if b then p ρ else q ρ
theorem ds_if {t : Rho → Option Bool} {p q : DSt} {xs ys : List Stmt} (hc : DT X B0 H0 c t) (ha : DSs X B0 H0 xs p) (hb : DSs X B0 H0 ys q) : DS X B0 H0 (.If c xs ys pos) (sIf t p q) := ps_imp (ps_if hc ha hb) fun D σ H ⟨B, ρ, o, R, e, k⟩ => by
  obtain ⟨x, e1, e2⟩ := bind_some e
  refine ⟨B, ρ, x, R, e1, fun B' H' s => ?_⟩
  cases x with
  | true => exact ⟨B', ρ, o, R.step s, e2, k.mono s.bb⟩
  | false => exact ⟨B', ρ, o, R.step s, e2, k.mono s.bb⟩
theorem ds_pass : DS X B0 H0 (.Pass pos) sNil := ps_imp ps_pass fun D σ H ⟨B, ρ, o, R, e, k⟩ => by
  cases e
  exact k σ B H R (Evl.Ex.refl _)
def sBrk : DSt := fun ρ => some (.bk ρ)
def sCnt : DSt := fun ρ => some (.ct ρ)
theorem ds_break : DS X B0 H0 (.Break pos) sBrk := ps_imp ps_break fun D σ H ⟨B, ρ, o, R, e, k⟩ => by
  cases e
  exact k σ B H R (Evl.Ex.refl _)
theorem ds_continue : DS X B0 H0 (.Continue pos) sCnt := ps_imp ps_continue fun D σ H ⟨B, ρ, o, R, e, k⟩ => by
  cases e
  exact k σ B H R (Evl.Ex.refl _)
/-! ### return -/
def sRet (p : DE) : DSt := fun ρ => (p ρ).map fun d => Out.rt d ρ
theorem ds_ret {p : DE} (h : DP X B0 H0 e p) : DS X B0 H0 (.Return (some e) pos) (sRet p) := ps_imp (ps_ret h) fun D σ H ⟨B, ρ, o, R, ed, k⟩ => by
  obtain ⟨d, e1, e2⟩ := map_some ed
  subst e2
  exact ⟨B, ρ, d, R, e1, fun v B' H' s q => k σ v B' H' (R.step s) s.bb q⟩
def sRetL (p : DLs) : DSt := fun ρ => (p ρ).map Out.rtL
theorem ds_retL {p : DLs} (h : DLn X B0 H0 e p) : DS X B0 H0 (.Return (some e) pos) (sRetL p) := ps_imp (ps_ret h) fun D σ H ⟨B, ρ, o, R, ed, k⟩ => by
  obtain ⟨d, e1, e2⟩ := map_some ed
  subst e2
  exact ⟨B, ρ, d, R, e1, fun l vs B' H' s hl bl h1 q => k l vs B' H' (R.stp.trans s) (Evl.fresh_back R.stp.hh hl) bl h1 q⟩
theorem ds_retO {i : Nat} {x : Str} (hN : X.N[i]? = some x) (hv : Vis X.env.scope x) (hd : (x == ("__debug__" : Str)) = false := by decide) (hcd : (x == ("__classdict__" : Str)) = false := by decide) : DS X B0 H0 (.Return (some (.Name x p2)) pos) (sRetL (vO i)) :=
  ps_imp (ps_ret (pe_var hN hv hd hcd)) fun D σ H ⟨B, ρ, o, R, ed, k⟩ => by
    obtain ⟨d, e1, e2⟩ := map_some ed
    subst e2
    obtain ⟨l, vs, q1, q2, q3, q4, q5⟩ := R.own i d (vO_some e1)
    exact ⟨_, q1, k l vs B H R.stp q4 q3 q2 q5⟩
def sRetN : DSt := fun ρ => some (.rt .none ρ)
theorem ds_retN : DS X B0 H0 (.Return none pos) sRetN := ps_imp ps_retN fun D σ H ⟨B, ρ, o, R, ed, k⟩ => by
  cases ed
  exact k σ _ B H R (Evl.Ex.refl _) .non
/-! ### assignments -/
def sSet (i : Nat) (p : DE) : DSt := fun ρ => (p ρ).map fun d => .nx (ρ.set i (some (.dat d)))
def sOwn (i : Nat) (p : DLs) : DSt := fun ρ => (p ρ).map fun d => .nx (ρ.set i (some (.own d)))
theorem set_read {K : PySem.W.Frag} {i : Nat} {p : DE} (nz : NZ B0 i) (D : Ends) (σ : L2.St) (H : Hp) (h : rdS K B0 H0 (sSet i p) D σ H) : tAsg (rdP K B0 H0 p) (gName i) D σ H := by
  obtain ⟨B, ρ, o, R, ed, k⟩ := h
  obtain ⟨d, e1, e2⟩ := map_some ed
  subst e2
  exact ⟨B, ρ, d, R, e1, fun v B' H' s q => k _ B' H' ((R.step s).setDat nz q) s.bb⟩
theorem Rel.newOwn {K : PySem.W.Frag} {B H B' H' : Hp} {σ : L2.St} {ρ : Rho} (R : Rel K B0 H0 B H σ ρ) (s : Stp B H B' H') {l : Addr} {vs : List V} {ds : List PyData} {i : Nat} (nz : NZ B0 i) (hl : H l = none) (bl : B' l = none) (h1 : H' l = some (.lst vs)) (q : DpAll K B' vs ds) :
    Rel K B0 H0 B' H' (σ.set i (some (.ref l))) (ρ.set i (some (.own ds))) :=
  (R.step s).setOwn nz h1 bl (Evl.fresh_back R.stp.hh hl) q fun j es hj hs => by
    obtain ⟨m, us, q1, q2, _⟩ := R.own j es hj
    rw [hs] at q1
    cases q1
    rw [hl] at q2
    cases q2
theorem own_read {K : PySem.W.Frag} {i : Nat} {p : DLs} (nz : NZ B0 i) (D : Ends) (σ : L2.St) (H : Hp) (h : rdS K B0 H0 (sOwn i p) D σ H) : tAsg (rdL K B0 H0 p) (gName i) D σ H := by
  obtain ⟨B, ρ, o, R, ed, k⟩ := h
  obtain ⟨d, e1, e2⟩ := map_some ed
  subst e2
  exact ⟨B, ρ, d, R, e1, fun l vs B' H' s hl bl h1 q => k _ B' H' (R.newOwn s nz hl bl h1 q) s.bb⟩
theorem ds_set {i : Nat} {x : Str} {pos' : Pos} {p : DE} (nz : NZ B0 i) (hN : X.N.Nodup) (hi : X.N[i]? = some x) (hx : Loc X.env.scope x) (he : DP X B0 H0 e p) (hs : swapsWith e (some (.Name x pos')) pos.line X.env = pure false := by rfl) (hf : X.fn x = true ∨ X.env.scope.names.lookup x = some .local := by first | exact .inl rfl | exact .inr rfl | assumption) :
    DS X B0 H0 (.Assign [.Name x pos'] e pos) (sSet i p) := ps_imp (ps_set hN hi hx he hs hf) (set_read nz)
theorem ds_own {i : Nat} {x : Str} {pos' : Pos} {p : DLs} (nz : NZ B0 i) (hN : X.N.Nodup) (hi : X.N[i]? = some x) (hx : Loc X.env.scope x) (he : DLn X B0 H0 e p) (hs : swapsWith e (some (.Name x pos')) pos.line X.env = pure false := by rfl) (hf : X.fn x = true ∨ X.env.scope.names.lookup x = some .local := by first | exact .inl rfl | exact .inr rfl | assumption) :
    DS X B0 H0 (.Assign [.Name x pos'] e pos) (sOwn i p) := ps_imp (ps_set hN hi hx he hs hf) (own_read nz)
/-- x = y, y an own list: it is kept for good -/
def sFrz (i j : Nat) : DSt := fun ρ => (vO j ρ).map fun d => .nx ((ρ.set j (some (.dat (.list d)))).set i (some (.dat (.list d))))
theorem ds_frz {i j : Nat} {x y : Str} {pos' : Pos} (nz : NZ B0 i) (hN : X.N.Nodup) (hi : X.N[i]? = some x) (hx : Loc X.env.scope x) (hj : X.N[j]? = some y) (hv : Vis X.env.scope y) (hs : swapsWith (.Name y p2) (some (.Name x pos')) pos.line X.env = pure false := by rfl) (hf : X.fn x = true ∨ X.env.scope.names.lookup x = some .local := by first | exact .inl rfl | exact .inr rfl | assumption)
    (hd : (y == ("__debug__" : Str)) = false := by decide) (hcd : (y == ("__classdict__" : Str)) = false := by decide) : DS X B0 H0 (.Assign [.Name x pos'] (.Name y p2) pos) (sFrz i j) := ps_imp (ps_set hN hi hx (pe_var hj hv hd hcd) hs hf) fun D σ H ⟨B, ρ, o, R, ed, k⟩ => by
  obtain ⟨d, e1, e2⟩ := map_some ed
  subst e2
  obtain ⟨l, vs, q1, q2, q3, q4⟩ := R.frz (vO_some e1)
  exact ⟨_, q1, k _ _ H (q4.setDat nz q3) q2⟩
/-- x = [.. for ..] -/
theorem ds_setLc {elt iter : Expr} {ifs : List Expr} {scope : Scope} {own : List (Str × Nat)} {di : DLs} {gt : TG} {g : PyData → Rho → Option Rho} {t : Rho → Option Bool} {p : DE} {i : Nat} {y : Str} {py spos : Pos} (nz : NZ B0 i) (hc : X.calm = true) (hN : X.N.Nodup) (hy : X.N[i]? = some y) (hyl : X.env.scope.names.lookup y = some .local)
    (hsw : swapsWith (.ListComp elt [⟨tg, iter, ifs, 0⟩] scope pos) (some (.Name y py)) spos.line X.env = pure true) (hi : DI X B0 H0 tg iter di) (ok : BlkOk X.N X.env.scope scope own) (hgt : DGt X.K B0 H0 gt g (own.map (·.2))) (hnz : ∀ v ∈ own.map (·.2), NZ B0 v)
    (hg : ∀ (s : Shared) (H : Hp) (C : Addr) (cl : List (Str × Addr)) (fp : List Addr), PG (X.blk s H scope (compEnvC scope cl C X.env) fp) tg gt) (ht : ∀ (s : Shared) (H : Hp) (C : Addr) (cl : List (Str × Addr)) (fp : List Addr), DTs (X.blk s H scope (compEnvC scope cl C X.env) fp) B0 H0 ifs t)
    (he : ∀ (s : Shared) (H : Hp) (C : Addr) (cl : List (Str × Addr)) (fp : List Addr), DP (X.blk s H scope (compEnvC scope cl C X.env) fp) B0 H0 elt p) (hs : ∀ x, foldedSetIterable iter X.env x = pure x := by intro _; rfl) :
    DS X B0 H0 (.Assign [.Name y py] (.ListComp elt [⟨tg, iter, ifs, 0⟩] scope pos) spos) (sSet i (lD (lLc di g t p (own.map (·.2))))) :=
  ps_imp (ps_setLc hc hN hy hyl hsw hi ok hg ht he hs) fun D σ H h => by
    refine lc_read (t := t) (p := p) hgt hnz σ H _ ?_
    obtain ⟨B, ρ, o, R, ed, k⟩ := h
    obtain ⟨d, e1, e2⟩ := map_some ed
    subst e2
    obtain ⟨ds, e3, e4⟩ := map_some e1
    subst e4
    refine ⟨B, ρ, ds, R, e3, fun l vs B' H' s hl bl h1 q => ?_⟩
    have s2 := s.fix hl h1 bl
    exact k _ _ H' ((R.step s2).setDat nz (.lst (.of upd_same) (dps_ex (Evl.Ex.new bl) _ _ q))) s2.bb
theorem ds_ownLc {elt iter : Expr} {ifs : List Expr} {scope : Scope} {own : List (Str × Nat)} {di : DLs} {gt : TG} {g : PyData → Rho → Option Rho} {t : Rho → Option Bool} {p : DE} {i : Nat} {y : Str} {py spos : Pos} (nz : NZ B0 i) (hc : X.calm = true) (hN : X.N.Nodup) (hy : X.N[i]? = some y) (hyl : X.env.scope.names.lookup y = some .local)
    (hsw : swapsWith (.ListComp elt [⟨tg, iter, ifs, 0⟩] scope pos) (some (.Name y py)) spos.line X.env = pure true) (hi : DI X B0 H0 tg iter di) (ok : BlkOk X.N X.env.scope scope own) (hgt : DGt X.K B0 H0 gt g (own.map (·.2))) (hnz : ∀ v ∈ own.map (·.2), NZ B0 v)
    (hg : ∀ (s : Shared) (H : Hp) (C : Addr) (cl : List (Str × Addr)) (fp : List Addr), PG (X.blk s H scope (compEnvC scope cl C X.env) fp) tg gt) (ht : ∀ (s : Shared) (H : Hp) (C : Addr) (cl : List (Str × Addr)) (fp : List Addr), DTs (X.blk s H scope (compEnvC scope cl C X.env) fp) B0 H0 ifs t)
    (he : ∀ (s : Shared) (H : Hp) (C : Addr) (cl : List (Str × Addr)) (fp : List Addr), DP (X.blk s H scope (compEnvC scope cl C X.env) fp) B0 H0 elt p) (hs : ∀ x, foldedSetIterable iter X.env x = pure x := by intro _; rfl) :
    DS X B0 H0 (.Assign [.Name y py] (.ListComp elt [⟨tg, iter, ifs, 0⟩] scope pos) spos) (sOwn i (lLc di g t p (own.map (·.2)))) :=
  ps_imp (ps_setLc hc hN hy hyl hsw hi ok hg ht he hs) fun D σ H h => by
    refine lc_read (t := t) (p := p) hgt hnz σ H _ ?_
    obtain ⟨B, ρ, o, R, ed, k⟩ := h
    obtain ⟨d, e1, e2⟩ := map_some ed
    subst e2
    exact ⟨B, ρ, d, R, e1, fun l vs B' H' s hl bl h1 q => k _ B' H' (R.newOwn s nz hl bl h1 q) s.bb⟩
/-- x += e (ints) -/
def sAug (i : Nat) (p : DE) : DSt := fun ρ => (vD i ρ).bind fun x => (p ρ).bind fun y => match x, y with
  | .int a, .int b => some (.nx (ρ.set i (some (.dat (.int (a + b))))))
  | _, _ => none
theorem ds_aug {i : Nat} {x : Str} {pos' : Pos} {p : DE} (nz : NZ B0 i) (hN : X.N.Nodup) (hi : X.N[i]? = some x) (hx : Loc X.env.scope x) (he : DK X B0 H0 e p) (hf : X.fn x = true ∨ X.env.scope.names.lookup x = some .local := by first | exact .inl rfl | exact .inr rfl | assumption) :
    DS X B0 H0 (.AugAssign (.Name x pos') .Add e pos) (sAug i p) := ps_imp (ps_aug hN hi hx he ip_add hf) fun D σ H ⟨B, ρ, o, R, ed, k⟩ => by
  obtain ⟨x, e1, ed⟩ := bind_some ed
  obtain ⟨y, e2, e3⟩ := bind_some ed
  obtain ⟨v, q1, q2⟩ := R.dat i x (vD_some e1)
  refine ⟨v, q1, B, ρ, y, R, e2, fun u B' H' s q3 => ?_⟩
  split at e3
  · cases e3
    cases q2
    cases q3
    exact ⟨_, _, rfl, rfl, k _ B' H' ((R.step s).setDat nz (.int _)) s.bb⟩
  · cases e3
/-- xs[k] = e, xs an own list -/
def sSetI (j : Nat) (q p : DE) : DSt := fun ρ => (p ρ).bind fun y => (q ρ).bind fun k => (vO j ρ).bind fun ds => match k with
  | .int i => (ixN ds.length i).map fun n => .nx (ρ.set j (some (.own (ds.set n y))))
  | _ => none
theorem ds_setI {j : Nat} {x : Str} {q p : DE} (hj : X.N[j]? = some x) (hv : Vis X.env.scope x) (hq : DK X B0 H0 b q) (he : DP X B0 H0 e p) (hd : (x == ("__debug__" : Str)) = false := by decide) (hcd : (x == ("__classdict__" : Str)) = false := by decide)
    (hs : swapsWithSole [.Subscript (.Name x p2) b p3] e pos.line X.env = pure false := by rfl) (hw : swappedStores [.Subscript (.Name x p2) b p3] e X.env = pure none := by rfl)
    (hpg : PG X (.Subscript (.Name x p2) b p3) (gSub (tVar j) (rdK X.K B0 H0 q) rSetL)) : DS X B0 H0 (.Assign [.Subscript (.Name x p2) b p3] e pos) (sSetI j q p) :=
  ps_imp (ps_asg he hpg hs hw) fun D σ H ⟨B, ρ, o, R, ed, k⟩ => by
    obtain ⟨y, e1, ed⟩ := bind_some ed
    obtain ⟨z, e2, ed⟩ := bind_some ed
    obtain ⟨ds, e3, e4⟩ := bind_some ed
    refine ⟨B, ρ, y, R, e1, fun v B1 H1 s1 q1 => ?_⟩
    have R1 := R.step s1
    obtain ⟨l, vs, a1, a2, a3, a4, a5⟩ := R1.own j ds (vO_some e3)
    refine ⟨_, a1, B1, ρ, z, R1, e2, fun u B2 H2 s2 q2 => ?_⟩
    split at e4
    · obtain ⟨n, e5, e6⟩ := map_some e4
      subst e6
      cases q2
      have R2 := R1.step s2
      refine ⟨l, vs, _, n, rfl, rfl, s2.hh _ _ a2, by rw [dps_len a5]; exact e5, ?_⟩
      exact k σ B2 _ (R2.chg (vO_some e3) a1 (dps_set n (dps_ex s2.bb _ _ a5) (dp_ex s2.bb _ _ q1))) (s1.bb.trans s2.bb)
    · cases e4
/-! ### methods of own lists -/
def sApp (j : Nat) (p : DE) : DSt := fun ρ => (vO j ρ).bind fun ds => (p ρ).bind fun y => if ds.length < sizeLine then some (.nx (ρ.set j (some (.own (ds ++ [y]))))) else none
theorem ty_lst {K : PySem.W.Frag} {H : Hp} {l : Addr} {vs : List V} (h : H l = some (.lst vs)) : tyV K "list" (.ref l) H := .inl ⟨rfl, _, .inl (.inl h)⟩
theorem ds_app {j : Nat} {x : Str} {p : DE} {apos cpos : Pos} (hj : X.N[j]? = some x) (hv : Vis X.env.scope x) (he : DP X B0 H0 e p) (hd : (x == ("__debug__" : Str)) = false := by decide) (hcd : (x == ("__classdict__" : Str)) = false := by decide)
    (hpe : ∀ {to : TE} {t : TA}, PE X (.Name x p2) to → PA X [e] t → PE X (.Call (.Attribute (.Name x p2) "append" apos) [e] [] cpos) (tBM X.K "list" rAppend to t))
    (hpa : DA X B0 H0 [e] (aCons p aNil)) (hs : swapsWith (.Call (.Attribute (.Name x p2) "append" apos) [e] [] cpos) none pos.line X.env = pure false := by rfl) :
    DS X B0 H0 (.Expr (.Call (.Attribute (.Name x p2) "append" apos) [e] [] cpos) pos) (sApp j p) :=
  ps_imp (ps_expr (hpe (pe_var hj hv hd hcd) hpa) hs) fun D σ H ⟨B, ρ, o, R, ed, k⟩ => by
    obtain ⟨ds, e1, ed⟩ := bind_some ed
    obtain ⟨y, e2, e3⟩ := bind_some ed
    split at e3
    · rename_i hz
      cases e3
      obtain ⟨l, vs, a1, a2, a3, a4, a5⟩ := R.own j ds (vO_some e1)
      refine ⟨_, a1, ty_lst a2, B, ρ, [y], R, by show (p ρ).bind _ = _; rw [e2]; rfl, fun us B1 H1 s1 q1 => ?_⟩
      obtain ⟨v, rfl, hy⟩ := one_of q1
      refine ⟨l, vs, v, rfl, rfl, s1.hh _ _ a2, by rw [dps_len a5]; exact hz, ?_⟩
      exact k σ B1 _ ((R.step s1).chg (vO_some e1) a1 (dps_app (dps_ex s1.bb _ _ a5) (.cons hy .nil))) s1.bb
    · cases e3
/-- list.extend of any list -/
theorem list_extendW (l : Addr) (items : Array Value) (n : Nat) (b : Addr) (items2 : Array Value) (n2 : Nat) (dd2 : Option Addr) (sl2 : Array (Option Value)) (hc0 : ¬(!items.isEmpty && Builtin.List.listTooLong (items.size + items2.size)) = true) (hc1 : items.size ≤ sizeLine) (hs2 : items.size + items2.size ≤ sizeLine + 1 := by seq_fits) :
    Meets (Builtin.«list.extend» ⟨[.ref l, .ref b], []⟩) (fun _ R s => s.heap.get? l = some { cls := .type "list", dict := none, data := .seq items n, slots := #[] } ∧ s.heap.get? b = some { cls := .type "list", dict := dd2, data := .seq items2 n2, slots := sl2 } ∧ R (.ok (.ret Value.none)) { s with heap := s.heap.update l (Obj.mapSeq fun x => x ++ items2), toks := s.toks }) :=
  .of_wp fun prog w A R s h => by
    obtain ⟨hp, g, d, tk, os⟩ := s; obtain ⟨hl, hb, h⟩ := h; have f1 := AutoSeq1.idx_int; have f2 := AutoSeq1.sub_tuple_tuple; have f3 := AutoSeq1.sub_list_list; have f4 := AutoSeq1.sub_tuple_list; have f5 := AutoSeq1.sub_list_tuple;
    have hz' : (items ++ items2).size ≤ sizeLine + 1 := by rw [Array.size_append]; exact hs2
    wp_walk using (wpAny_updateSeq hl rfl (hz := hc1) (_hz' := hz')), wpAny_loadPart' hl, wpAny_loadPart' hb; exact ⟨_, rfl, h⟩
def rExtS (K : PySem.W.Frag) : V → List V → Hp → VK → Prop := fun x vs H Q => ∃ l b xs zs, x = .ref l ∧ vs = [.ref b] ∧ H l = some (.lst xs) ∧ SqL K H b zs ∧ xs.length + zs.length ≤ sizeLine ∧ Q .non (upd H l (.lst (xs ++ zs)))
theorem mt_extS : MtR X "list.extend" (rExtS X.K) := by
  intro pins s σ H x vs v us Q I rx rv h
  obtain ⟨l, b, xs, zs, rfl, rfl, hH, hB, hz, q⟩ := h
  cases rx
  obtain ⟨u, rfl, ru⟩ := rv.one
  cases ru
  obtain ⟨z, its, n, r, hl, e⟩ := I.lstM hH
  obtain ⟨its2, r2, ⟨⟨cls2, dd2, data2, sl2⟩, n2, ho2, hc2, hdd2, hd2⟩, hl2⟩ := I.list hB
  simp only at hc2 hd2
  subst hc2 hd2
  have e2 := r2.length
  have hsz : its.toArray.size + its2.toArray.size ≤ sizeLine := by rw [List.size_toArray, List.size_toArray]; omega
  have hlong : ¬ (!its.toArray.isEmpty && Builtin.List.listTooLong (its.toArray.size + its2.toArray.size)) = true := by
    rw [notLongL hsz, Bool.and_false]
    exact Bool.false_ne_true
  refine call_meets F.slot_list_extend ⟨_, e, rfl⟩ F.entry_list_extend (F.args_list_extend_2 _ _)
    (list_extendW l its.toArray n b its2.toArray n2 dd2 sl2 hlong (by rw [List.size_toArray]; omega) (by omega)) ⟨e, ho2, ?_⟩
  refine ⟨.non, _, I.lset (its' := its ++ its2) hH e (by simp) (r.append r2) ?_, rfl, q⟩
  rw [List.length_append]
  omega
def sExt (j : Nat) (p : DLs) : DSt := fun ρ => (vO j ρ).bind fun ds => (p ρ).bind fun ys => if ds.length + ys.length ≤ sizeLine then some (.nx (ρ.set j (some (.own (ds ++ ys))))) else none
theorem ds_ext {j : Nat} {x : Str} {p : DLs} {apos cpos : Pos} (hj : X.N[j]? = some x) (hv : Vis X.env.scope x) (he : DEl X B0 H0 e p) (hd : (x == ("__debug__" : Str)) = false := by decide) (hcd : (x == ("__classdict__" : Str)) = false := by decide)
    (hpe : ∀ {to : TE} {t : TA}, PE X (.Name x p2) to → PA X [e] t → PE X (.Call (.Attribute (.Name x p2) "extend" apos) [e] [] cpos) (tBM X.K "list" (rExtS X.K) to t))
    (hs1 : starEach [e] X.env = (false, eval e X.env) :: starEach [] X.env := by rfl) (hs : swapsWith (.Call (.Attribute (.Name x p2) "extend" apos) [e] [] cpos) none pos.line X.env = pure false := by rfl) :
    DS X B0 H0 (.Expr (.Call (.Attribute (.Name x p2) "extend" apos) [e] [] cpos) pos) (sExt j p) :=
  ps_imp (ps_expr (hpe (pe_var hj hv hd hcd) (pa_cons he pa_nil hs1)) hs) fun D σ H ⟨B, ρ, o, R, ed, k⟩ => by
    obtain ⟨ds, e1, ed⟩ := bind_some ed
    obtain ⟨ys, e2, e3⟩ := bind_some ed
    split at e3
    · rename_i hz
      cases e3
      obtain ⟨l, vs, a1, a2, a3, a4, a5⟩ := R.own j ds (vO_some e1)
      refine ⟨_, a1, ty_lst a2, B, ρ, ys, R, e2, fun m us B1 H1 s1 h1 q1 => ?_⟩
      refine ⟨l, m, vs, us, rfl, rfl, s1.hh _ _ a2, h1, by rw [dps_len a5, dps_len q1]; exact hz, ?_⟩
      exact k σ B1 _ ((R.step s1).chg (vO_some e1) a1 (dps_app (dps_ex s1.bb _ _ a5) q1)) s1.bb
    · cases e3
/-- x = xs.pop(), xs an own list -/
def sPop (i j : Nat) : DSt := fun ρ => (vO j ρ).bind fun ds => ds.getLast?.map fun y => .nx ((ρ.set j (some (.own ds.dropLast))).set i (some (.dat y)))
theorem ds_pop {i j : Nat} {x y : Str} {apos cpos pos' : Pos} (nz : NZ B0 i) (hN : X.N.Nodup) (hi : X.N[i]? = some x) (hx : Loc X.env.scope x) (hj : X.N[j]? = some y) (hv : Vis X.env.scope y) (hd : (y == ("__debug__" : Str)) = false := by decide) (hcd : (y == ("__classdict__" : Str)) = false := by decide)
    (hpe : ∀ {to : TE}, PE X (.Name y p2) to → PE X (.Call (.Attribute (.Name y p2) "pop" apos) [] [] cpos) (tBM0 X.K "list" rPop to))
    (hs : swapsWith (.Call (.Attribute (.Name y p2) "pop" apos) [] [] cpos) (some (.Name x pos')) pos.line X.env = pure false := by rfl) (hf : X.fn x = true ∨ X.env.scope.names.lookup x = some .local := by first | exact .inl rfl | exact .inr rfl | assumption) :
    DS X B0 H0 (.Assign [.Name x pos'] (.Call (.Attribute (.Name y p2) "pop" apos) [] [] cpos) pos) (sPop i j) :=
  ps_imp (ps_set hN hi hx (hpe (pe_var hj hv hd hcd)) hs hf) fun D σ H ⟨B, ρ, o, R, ed, k⟩ => by
    obtain ⟨ds, e1, ed⟩ := bind_some ed
    obtain ⟨z, e2, e3⟩ := map_some ed
    subst e3
    obtain ⟨l, vs, a1, a2, a3, a4, a5⟩ := R.own j ds (vO_some e1)
    rw [List.getLast?_eq_getElem?] at e2
    obtain ⟨v, q1, q2⟩ := dps_get a5 e2
    refine ⟨_, a1, ty_lst a2, l, vs, v, rfl, rfl, a2, by rw [dps_len a5]; exact q1, ?_⟩
    exact k _ B _ ((R.chg (vO_some e1) a1 (dps_dropLast a5)).setDat nz q2) (Evl.Ex.refl _)
def sDrop (p : DE) : DSt := fun ρ => (p ρ).map fun _ => .nx ρ
theorem ds_drop {p : DE} (he : DP X B0 H0 e p) (hs : swapsWith e none pos.line X.env = pure false := by rfl) : DS X B0 H0 (.Expr e pos) (sDrop p) := ps_imp (ps_expr he hs) fun D σ H ⟨B, ρ, o, R, ed, k⟩ => by
  obtain ⟨d, e1, e2⟩ := map_some ed
  subst e2
  exact ⟨B, ρ, d, R, e1, fun v B' H' s q => k σ B' H' (R.step s) s.bb⟩
/-! ### loops -/
def forGo (g : PyData → Rho → Option Rho) (body : DSt) : List PyData → DSt
  | [], ρ => some (.nx ρ)
  | d :: ds, ρ => (g d ρ).bind fun ρ1 => (body ρ1).bind fun o => match o with
    | .nx ρ2 => forGo g body ds ρ2
    | .ct ρ2 => forGo g body ds ρ2
    | .bk ρ2 => some (.nx ρ2)
    | .rt d r => some (.rt d r)
    | .rtL d => some (.rtL d)
def sFor (di : DLs) (g : PyData → Rho → Option Rho) (body : DSt) : DSt := fun ρ => (di ρ).bind fun ds => forGo g body ds ρ
theorem for_read {K : PySem.W.Frag} {gt : TG} {g : PyData → Rho → Option Rho} {body : DSt} {sl : List Nat} (hg : DGt K B0 H0 gt g sl) {ds : List PyData} {ρ : Rho} {o : Out} {B1 H1 : Hp} {σ : L2.St} {J : It} {D : Ends} (R : Rel K B0 H0 B1 H1 σ ρ) (jok : JOk K B1 J ds) (ed : forGo g body ds ρ = some o) (k : OutOk K B0 H0 B1 D o) :
    ∃ W : Nat → Nat → L2.St → Hp → Prop, (∃ m, W 0 m σ H1) ∧ ∀ i m σ H, W i m σ H →
      (J.stop i H ∧ D.nx σ H) ∨ (J.go i H ∧ ∃ N : L2.St → Hp → Prop, (∀ σ' H', N σ' H' → ∃ m', m' < m ∧ W (i + 1) m' σ' H') ∧ ∀ x H', J.yld i H x H' → gt x σ H' fun σ2 H2 => rdS K B0 H0 body { D with nx := N, ct := N, bk := D.nx } σ2 H2) := by
  let W : Nat → Nat → L2.St → Hp → Prop := fun i m σ H => m = ds.length - i ∧ i ≤ ds.length ∧ ∃ B ρ, Rel K B0 H0 B H σ ρ ∧ Ex B1 B ∧ forGo g body (ds.drop i) ρ = some o
  refine ⟨W, ⟨ds.length, rfl, Nat.zero_le _, B1, ρ, R, Evl.Ex.refl _, ed⟩, ?_⟩
  rintro i m σ H ⟨hm, hi, B, ρ, R, eb, ed⟩
  by_cases hlt : i < ds.length
  · obtain ⟨x, ex, edr⟩ := drop_cons hlt
    rw [edr] at ed
    obtain ⟨ρ1, e1, ed⟩ := bind_some ed
    obtain ⟨o1, e2, ed⟩ := bind_some ed
    obtain ⟨jgo, jy⟩ := (jok B H eb R.bh i).1 x ex
    refine .inr ⟨jgo, fun σ' H' => W (i + 1) (ds.length - (i + 1)) σ' H', fun σ' H' w => ⟨_, by omega, w⟩, fun v H2 y => ?_⟩
    obtain ⟨B2, s2, hv⟩ := jy v H2 y
    refine hg B2 H2 σ ρ ρ1 v x _ (R.step s2) hv e1 fun σ2 R2 _ => ⟨B2, ρ1, o1, R2, e2, ?_⟩
    cases o1 with
    | nx ρ2 => exact fun σ' B' H' R' e' => ⟨rfl, hlt, B', ρ2, R', eb.trans (s2.bb.trans e'), ed⟩
    | ct ρ2 => exact fun σ' B' H' R' e' => ⟨rfl, hlt, B', ρ2, R', eb.trans (s2.bb.trans e'), ed⟩
    | bk ρ2 => cases ed; exact fun σ' B' H' R' e' => k σ' B' H' R' (eb.trans (s2.bb.trans e'))
    | rt d r => cases ed; exact fun σ' v B' H' R' e' q => k σ' v B' H' R' (eb.trans (s2.bb.trans e')) q
    | rtL d => cases ed; exact k
  · have hi' : i = ds.length := by omega
    subst hi'
    rw [List.drop_length] at ed
    cases ed
    exact .inl ⟨(jok B H eb R.bh _).2 (Nat.le_refl _), k σ B H R eb⟩
theorem ds_for {iter : Expr} {body : List Stmt} {di : DLs} {gt : TG} {g : PyData → Rho → Option Rho} {bd : DSt} {sl : List Nat} (hp : PassesOwn (model X.prog X.w) X.A X.env X.xe) (hc : X.calm = true) (hi : DI X B0 H0 tg iter di) (hgt : DGt X.K B0 H0 gt g sl) (hg : PG X tg gt) (hb : DSs X B0 H0 body bd) (hs : ∀ x, foldedSetIterable iter X.env x = pure x := by intro _; rfl) :
    DS X B0 H0 (.For tg iter body [] pos) (sFor di g bd) := ps_imp (ps_for hp hc hi hg hb hs) fun D σ H ⟨B, ρ, o, R, ed, k⟩ => by
  obtain ⟨ds, e1, e2⟩ := bind_some ed
  exact ⟨B, ρ, ds, R, e1, fun J B1 H1 s1 jok => for_read hgt (R.step s1) jok e2 (k.mono s1.bb)⟩
/-- for x in xs, xs an own list: it is kept for good -/
def sForO (j : Nat) (g : PyData → Rho → Option Rho) (body : DSt) : DSt := fun ρ => (vO j ρ).bind fun ds => forGo g body ds (ρ.set j (some (.dat (.list ds))))
theorem ds_forO {j : Nat} {y : Str} {body : List Stmt} {gt : TG} {g : PyData → Rho → Option Rho} {bd : DSt} {sl : List Nat} (hp : PassesOwn (model X.prog X.w) X.A X.env X.xe) (hc : X.calm = true) (hj : X.N[j]? = some y) (hv : Vis X.env.scope y) (hgt : DGt X.K B0 H0 gt g sl) (hg : PG X tg gt) (hb : DSs X B0 H0 body bd)
    (hd : (y == ("__debug__" : Str)) = false := by decide) (hcd : (y == ("__classdict__" : Str)) = false := by decide) :
    DS X B0 H0 (.For tg (.Name y p2) body [] pos) (sForO j g bd) := ps_imp (ps_for hp hc (pi_list (pe_var hj hv hd hcd)) hg hb) fun D σ H ⟨B, ρ, o, R, ed, k⟩ => by
  obtain ⟨ds, e1, e2⟩ := bind_some ed
  obtain ⟨l, vs, q1, q2, q3, q4⟩ := R.frz (vO_some e1)
  obtain ⟨l', vs', a1, a2, a3, a4, a5⟩ := R.own j ds (vO_some e1)
  rw [a1] at q1
  cases q1
  cases q3 with
  | lst hs ha =>
    exact ⟨_, a1, l, rfl, ⟨_, Evl.ex_l q4.bh hs⟩, for_read hgt q4 (jok_l hs ha) e2 (k.mono q2)⟩
def whileGo (t : Rho → Option Bool) (body : DSt) : Nat → DSt
  | 0, _ => none
  | n + 1, ρ => (t ρ).bind fun b => if b then (body ρ).bind fun o => match o with
      | .nx ρ2 => whileGo t body n ρ2
      | .ct ρ2 => whileGo t body n ρ2
      | .bk ρ2 => some (.nx ρ2)
      | .rt d r => some (.rt d r)
      | .rtL d => some (.rtL d)
    else some (.nx ρ)
theorem ds_while {body : List Stmt} {t : Rho → Option Bool} {bd : DSt} (n : Nat) (hp : PassesOwn (model X.prog X.w) X.A X.env X.xe) (hc : DT X B0 H0 c t) (hb : DSs X B0 H0 body bd) : DS X B0 H0 (.While c body [] pos) (whileGo t bd n) :=
  ps_imp (ps_while hp hc hb) fun D σ H ⟨B, ρ, o, R, ed, k⟩ => by
    let W : Nat → L2.St → Hp → Prop := fun m σ H => ∃ B ρ, Rel X.K B0 H0 B H σ ρ ∧ whileGo t bd m ρ = some o ∧ OutOk X.K B0 H0 B D o
    refine ⟨W, ⟨n, B, ρ, R, ed, k⟩, ?_⟩
    rintro m σ H ⟨B, ρ, R, ed, k⟩
    cases m with
    | zero => cases ed
    | succ m =>
      obtain ⟨b, e1, ed⟩ := bind_some ed
      refine ⟨B, ρ, b, R, e1, fun B1 H1 s1 => ?_⟩
      have k1 := k.mono s1.bb
      cases b with
      | false =>
        cases ed
        exact k1 σ B1 H1 (R.step s1) (Evl.Ex.refl _)
      | true =>
        obtain ⟨o1, e2, ed⟩ := bind_some ed
        refine ⟨fun σ' H' => W m σ' H', fun σ' H' w => ⟨m, Nat.lt_succ_self m, w⟩, B1, ρ, o1, R.step s1, e2, ?_⟩
        cases o1 with
        | nx ρ2 => exact fun σ' B' H' R' e' => ⟨B', ρ2, R', ed, k1.mono e'⟩
        | ct ρ2 => exact fun σ' B' H' R' e' => ⟨B', ρ2, R', ed, k1.mono e'⟩
        | bk ρ2 => cases ed; exact fun σ' B' H' R' e' => k1 σ' B' H' R' e'
        | rt d r => cases ed; exact k1
        | rtL d => cases ed; exact k1
end
/-! ### a def by its body -/
def startR (n : Nat) (ds : List PyData) : Rho := ds.map (fun d => some (Sl.dat d)) ++ List.replicate (n - ds.length) none
theorem start_rel {K : PySem.W.Frag} {B H : Hp} {N : List Str} {vs : List V} {ds : List PyData} (e : Ex B H) (h : DpAll K B vs ds) : Rel K ⟨B, fun _ => False⟩ H B H (L2.start N vs) (startR N.length ds) where
  len := by
    unfold startR L2.start
    rw [List.length_append, List.length_append, List.length_map, List.length_map, List.length_replicate, List.length_replicate, dps_len h]
  stp := .refl e
  pin := fun l h => h.elim
  dat := fun i d q => by
    unfold startR at q
    unfold L2.start
    rw [List.getElem?_append] at q
    rw [List.length_map] at q
    split at q
    · rename_i hi
      rw [List.getElem?_map] at q
      obtain ⟨d', e1, e2⟩ := map_some q
      cases e2
      obtain ⟨v, a, b⟩ := dps_get h e1
      refine ⟨v, ?_, b⟩
      rw [List.getElem?_append_left (by rw [List.length_map, dps_len h]; exact hi), List.getElem?_map, a]
      rfl
    · rw [List.getElem?_replicate] at q
      split at q <;> cases q
  own := fun i d q => by
    unfold startR at q
    rw [List.getElem?_append] at q
    split at q
    · rw [List.getElem?_map] at q
      obtain ⟨d', e1, e2⟩ := map_some q
      cases e2
    · rw [List.getElem?_replicate] at q
      split at q <;> cases q
  sep := fun i j d es l q => by
    unfold startR at q
    rw [List.getElem?_append] at q
    split at q
    · rw [List.getElem?_map] at q
      obtain ⟨d', e1, e2⟩ := map_some q
      cases e2
    · rw [List.getElem?_replicate] at q
      split at q <;> cases q
/-- what a def with n parameters and N slots gives -/
def runP (n N : Nat) (body : DSt) : List PyData → Option PyData := fun ds => if ds.length = n then (body (startR N ds)).bind fun o => match o with
    | .rt d _ => some d
    | .rtL l => some (.list l)
    | .nx _ => some .none
    | _ => none
  else none
def runL (n N : Nat) (body : DSt) : List PyData → Option (List PyData) := fun ds => if ds.length = n then (body (startR N ds)).bind fun o => match o with
    | .rtL l => some l
    | _ => none
  else none
section
variable {P : Program} {w : World} {K : PySem.W.Frag} {mg : Str → Option Value} {base : Heap}
/-- the body's derivation, for any frame -/
def Body (P : Program) (w : World) (K : PySem.W.Frag) (mg : Str → Option Value) (base : Heap) (zc : BZ → Prop) (qual : Str) (st : Stmt) (f : Addr) (N : List Str) (k : Nat) (body : DSt) : Prop :=
  ∀ (cdv : Value) (A : Around) (outer : List Env) (s : Shared) (B0 : BZ) (H0 H : Hp) (E : XK), zc B0 → Room k (A.deeper (envOfC qual (defScope st) s.heap.objs.size f cdv)) →
    DSs (cxOf CX0 P w K mg base N qual (defScope st) f cdv A outer s H E).nox B0 H0 (defBody st) body
theorem fn_P {x qual : Str} {st : Stmt} {f : Addr} {fd : FuncData} {N ps : List Str} {k : Nat} {body : DSt} (F : L2.Fun K x qual st f fd) (S : FnScope N ps (defScope st))
    (hbody : Body P w K mg base (fun B0 => ∀ l, ¬ B0.z l) qual st f N k body) : FnOk P w K mg base CX0 (k + 1) f fd ps (spP K (runP ps.length N.length body)) := by
  refine F.ok S (fun vs H Q E h => ?_) (fun cdv A outer s H vs Q E hr h => ?_)
  · obtain ⟨B, ds, d, e, h1, h2, _⟩ := h
    unfold runP at h2
    split at h2
    · rw [dps_len h1]; assumption
    · cases h2
  · obtain ⟨B, ds, d, e, h1, h2, q⟩ := h
    refine ⟨_, hbody cdv A outer s ⟨B, fun _ => False⟩ H H E (fun _ h => h) hr, ?_⟩
    unfold runP at h2
    split at h2
    · obtain ⟨o, e1, e2⟩ := bind_some h2
      refine ⟨B, startR N.length ds, o, start_rel e h1, e1, ?_⟩
      cases o with
      | rt d' r => cases e2; exact fun σ' v B' H' R' _ q' => q v B' H' R'.stp q'
      | rtL l => cases e2; exact fun l vs B' H' s hl bl h' q' => q (.ref l) (upd B' l (.lst vs)) H' (s.fix hl h' bl) (.lst (.of upd_same) (dps_ex (Evl.Ex.new bl) _ _ q'))
      | nx ρ => cases e2; exact fun σ' B' H' R' _ => q _ B' H' R'.stp .non
      | bk ρ => cases e2
      | ct ρ => cases e2
    · cases h2
theorem fn_L {x qual : Str} {st : Stmt} {f : Addr} {fd : FuncData} {N ps : List Str} {k : Nat} {body : DSt} (F : L2.Fun K x qual st f fd) (S : FnScope N ps (defScope st))
    (hbody : Body P w K mg base (fun B0 => ∀ l, ¬ B0.z l) qual st f N k body) : FnOk P w K mg base CX0 (k + 1) f fd ps (spL K (runL ps.length N.length body)) := by
  refine F.ok S (fun vs H Q E h => ?_) (fun cdv A outer s H vs Q E hr h => ?_)
  · obtain ⟨B, ds, d, e, h1, h2, _⟩ := h
    unfold runL at h2
    split at h2
    · rw [dps_len h1]; assumption
    · cases h2
  · obtain ⟨B, ds, d, e, h1, h2, q⟩ := h
    refine ⟨_, hbody cdv A outer s ⟨B, fun _ => False⟩ H H E (fun _ h => h) hr, ?_⟩
    unfold runL at h2
    split at h2
    · obtain ⟨o, e1, e2⟩ := bind_some h2
      refine ⟨B, startR N.length ds, o, start_rel e h1, e1, ?_⟩
      cases o with
      | rtL l => cases e2; exact fun l vs B' H' s hl bl h' q' => q l vs B' H' s hl bl h' q'
      | rt d' r => cases e2
      | nx ρ => cases e2
      | bk ρ => cases e2
      | ct ρ => cases e2
    · cases h2
end
end DL

set_option Elab.async false
set_option linter.all false
set_option maxRecDepth 100000
set_option maxHeartbeats 4000000
/-! DL7: match. -/
namespace DL
open PySem L2 PyProof.Rows
abbrev MP := PyData → Option (Option (List PyData))
/-- a pattern: m tells whether a value fits and what the names take -/
def DPt (X : Cx) (p : Pattern) (ns : List Str) (m : MP) : Prop := ∀ (pins : List (Addr × Obj)) (s : Shared) (σ : L2.St) (H B : Hp) (v : V) (u : Value) (d : PyData) (o : Option (List PyData)) (Qr : Option (List (Str × Value)) → Shared → Prop),
  Inv X pins σ H s → Ex B H → RelV v u → Dp X.K B v d → m d = some o →
  (∀ s', Inv X pins σ H s' → match o with
    | none => Qr none s'
    | some ds => ∀ vs us, Vals vs us → DpAll X.K B vs ds → ns.length = us.length → Qr (some (ns.zip us)) s') →
  wpAny (model X.prog X.w) X.A (matchPattern p X.env u) Qr X.xe s
def DPe (X : Cx) (ps : List Pattern) (ns : List Str) (m : List PyData → Option (Option (List PyData))) : Prop := ∀ (pins : List (Addr × Obj)) (s : Shared) (σ : L2.St) (H B : Hp) (vs : List V) (us : List Value) (ds : List PyData) (o : Option (List PyData)) (Qr : Option (List (Str × Value)) → Shared → Prop),
  Inv X pins σ H s → Ex B H → Vals vs us → DpAll X.K B vs ds → m ds = some o →
  (∀ s', Inv X pins σ H s' → match o with
    | none => Qr none s'
    | some es => ∀ vs us, Vals vs us → DpAll X.K B vs es → ns.length = us.length → Qr (some (ns.zip us)) s') →
  wpAny (model X.prog X.w) X.A (matchEach ps X.env us) Qr X.xe s
def DPo (X : Cx) (ps : List Pattern) (m : MP) : Prop := ∀ (pins : List (Addr × Obj)) (s : Shared) (σ : L2.St) (H B : Hp) (v : V) (u : Value) (d : PyData) (o : Option (List PyData)) (Qr : Option (List (Str × Value)) → Shared → Prop),
  Inv X pins σ H s → Ex B H → RelV v u → Dp X.K B v d → m d = some o →
  (∀ s', Inv X pins σ H s' → match o with
    | none => Qr none s'
    | some ds => Qr (some []) s') →
  wpAny (model X.prog X.w) X.A (matchFirst ps X.env u) Qr X.xe s
section
variable {X : Cx} {B0 : BZ} {H0 : Hp} {pos p2 p3 : Pos}
def mVal (c : PyData) : MP := fun d => if ok2 d c then some (if PyData.eqv d c then some [] else none) else none
theorem dpt_val {e : Expr} {c : PyData} {v0 : V} (hu : X.A.units + 64 < cLine) (he : PE X e (tC v0)) (hc : ∀ H, Dp X.K H v0 c) : DPt X (.MatchValue e pos) [] (mVal c) := fun pins s σ H B v u d o Qr I eb rv hd em k => by
  refine wpAny_matchPattern_Value (thn (he.run pins s σ H (fun v' H' => v' = v0 ∧ H' = H) I ⟨rfl, rfl⟩) fun x s1 ⟨v1, H1, I1, r1, e1, e2⟩ => ?_)
  subst e1 e2
  unfold mVal at em
  split at em
  · rename_i hok
    rw [ok2, Bool.and_eq_true] at hok
    cases em
    refine thn (op_eqD hu pins s1 σ H1 v v1 u x (fun w H' => w = .bl (PyData.eqv d c) ∧ H' = H1) I1 rv r1 ⟨d, c, dp_ex eb _ _ hd, hc H1, hok.1, hok.2, rfl, rfl⟩) fun y s2 ⟨w, H2, I2, r2, e3, e4⟩ => ?_
    subst e3 e4
    cases r2
    refine wpAny_truthy_bool ?_
    have k2 := k s2 I2
    cases hq : PyData.eqv d c with
    | true =>
      rw [hq] at k2
      rw [if_pos rfl]
      exact k2 [] [] .nil .nil rfl
    | false =>
      rw [hq] at k2
      rw [if_neg Bool.false_ne_true]
      exact k2
  · cases em
theorem dpt_str {i : Str} {j : Nat} (hu : X.A.units + 64 < cLine) : DPt X (.MatchValue (.Constant (.str i) j p2) pos) [] (mVal (.str i)) := dpt_val hu pe_str fun _ => .str i
theorem dpt_int {i : Int} {j : Nat} (hu : X.A.units + 64 < cLine) : DPt X (.MatchValue (.Constant (.int i) j p2) pos) [] (mVal (.int i)) := dpt_val hu pe_int fun _ => .int i
def mCap : MP := fun d => some (some [d])
theorem dpt_cap {n : Str} : DPt X (.MatchAs none (some n) pos) [n] mCap := fun pins s σ H B v u d o Qr I eb rv hd em k => by
  cases em
  exact wpAny_matchPattern_Capture (k s I [v] [u] (.cons rv .nil) (.cons hd .nil) rfl)
def mWild : MP := fun _ => some (some [])
theorem dpt_wild : DPt X (.MatchAs none none pos) [] mWild := fun pins s σ H B v u d o Qr I eb rv hd em k => by
  cases em
  exact wpAny_matchPattern_Capture (k s I [] [] .nil .nil rfl)
def mNo : MP := fun _ => some none
def mOr (m r : MP) : MP := fun d => (m d).bind fun o => match o with
  | some _ => some (some [])
  | none => r d
theorem dpo_nil : DPo X [] mNo := fun pins s σ H B v u d o Qr I eb rv hd em k => by
  cases em
  exact wpAny_matchFirst_nil (k s I)
theorem dpo_cons {p : Pattern} {ps : List Pattern} {m r : MP} (hp : DPt X p [] m) (hr : DPo X ps r) : DPo X (p :: ps) (mOr m r) := fun pins s σ H B v u d o Qr I eb rv hd em k => by
  obtain ⟨o1, e1, e2⟩ := bind_some em
  refine wpAny_matchFirst_cons (hp pins s σ H B v u d o1 _ I eb rv hd e1 fun s1 I1 => ?_)
  cases o1 with
  | none => exact hr pins s1 σ H B v u d o Qr I1 eb rv hd e2 k
  | some ds =>
    cases e2
    intro vs us r1 r2 r3
    have e3 : us = [] := by
      cases us with
      | nil => rfl
      | cons a b => cases r3
    subst e3
    exact k s1 I1
theorem dpt_or {ps : List Pattern} {m : MP} (h : DPo X ps m) (hn : namesOfAll (ps.take 1) = [] := by rfl) (hm : ∀ d ds, m d = some (some ds) → ds = []) : DPt X (.MatchOr ps pos) [] m := fun pins s σ H B v u d o Qr I eb rv hd em k => by
  refine wpAny_matchPattern_Or (h pins s σ H B v u d o _ I eb rv hd em fun s1 I1 => ?_)
  have k1 := k s1 I1
  cases o with
  | none => exact k1
  | some ds =>
    have e := hm d ds em
    subst e
    show Qr (some ((namesOfAll (ps.take 1)).filterMap _)) s1
    rw [hn]
    exact k1 [] [] .nil .nil rfl
theorem mOr_nil {m r : MP} (h : ∀ d ds, r d = some (some ds) → ds = []) : ∀ d ds, mOr m r d = some (some ds) → ds = [] := fun d ds e => by
  obtain ⟨o1, e1, e2⟩ := bind_some e
  cases o1 with
  | none => exact h d ds e2
  | some x => cases e2; rfl
theorem mNo_nil : ∀ d ds, mNo d = some (some ds) → ds = [] := fun d ds e => by cases e
def mAs (m : MP) : MP := fun d => (m d).map fun o => o.map fun ds => ds ++ [d]
theorem dpt_as {p : Pattern} {ns : List Str} {n : Str} {m : MP} (h : DPt X p ns m) : DPt X (.MatchAs (some p) (some n) pos) (ns ++ [n]) (mAs m) := fun pins s σ H B v u d o Qr I eb rv hd em k => by
  obtain ⟨o1, e1, e2⟩ := map_some em
  subst e2
  refine wpAny_matchPattern_As (h pins s σ H B v u d o1 _ I eb rv hd e1 fun s1 I1 => ?_)
  have k1 := k s1 I1
  cases o1 with
  | none => exact k1
  | some ds =>
    intro vs us r1 r2 r3
    have k2 := k1 (vs ++ [v]) (us ++ [u]) (r1.append (.cons rv .nil)) (dps_app r2 (.cons hd .nil)) (by rw [List.length_append, List.length_append, r3]; rfl)
    rw [List.zip_append r3] at k2
    exact k2
def meNil : List PyData → Option (Option (List PyData)) := fun ds => match ds with
  | [] => some (some [])
  | _ => none
def meCons (m : MP) (r : List PyData → Option (Option (List PyData))) : List PyData → Option (Option (List PyData)) := fun ds => match ds with
  | d :: ds => (m d).bind fun o => match o with
    | none => some none
    | some es => (r ds).map fun o2 => o2.map fun fs => es ++ fs
  | [] => none
theorem dpe_nil : DPe X [] [] meNil := fun pins s σ H B vs us ds o Qr I eb rv hd em k => by
  unfold meNil at em
  split at em
  · cases em
    exact wpAny_matchEach_nil (k s I [] [] .nil .nil rfl)
  · cases em
theorem dpe_cons {p : Pattern} {ps : List Pattern} {ns ms : List Str} {m : MP} {r : List PyData → Option (Option (List PyData))} (hp : DPt X p ns m) (hr : DPe X ps ms r) (hst : p.isStar = false := by rfl) : DPe X (p :: ps) (ns ++ ms) (meCons m r) := fun pins s σ H B vs us ds o Qr I eb rv hd em k => by
  unfold meCons at em
  split at em
  · cases hd with
    | cons h1 h2 =>
      cases rv with
      | cons r1 r2 =>
        obtain ⟨o1, e1, e2⟩ := bind_some em
        refine wpAny_matchEach_cons (hp pins s σ H B _ _ _ o1 _ I eb r1 h1 e1 fun s1 I1 => ?_) hst
        cases o1 with
        | none => cases e2; exact k s1 I1
        | some es =>
          obtain ⟨o2, e3, e4⟩ := map_some e2
          subst e4
          intro vs1 us1 a1 a2 a3
          refine hr pins s1 σ H B _ _ _ o2 _ I1 eb r2 h2 e3 fun s2 I2 => ?_
          have k2 := k s2 I2
          cases o2 with
          | none => exact k2
          | some fs =>
            intro vs2 us2 b1 b2 b3
            have k3 := k2 (vs1 ++ vs2) (us1 ++ us2) (a1.append b1) (dps_app a2 b2) (by rw [List.length_append, List.length_append, a3, b3])
            rw [List.zip_append a3] at k3
            exact k3
  · cases em
def mSeq (n : Nat) (r : List PyData → Option (Option (List PyData))) : MP := fun d => match d with
  | .tuple ds => if ds.length = n then r ds else some none
  | _ => none
theorem dpt_seq {ps : List Pattern} {ns : List Str} {r : List PyData → Option (Option (List PyData))} (hc : X.calm = true) (h : DPe X ps ns r) (hstar : ps.findIdx? (·.isStar) = none := by rfl)
    (hwild : (ps.all fun p => p.isWildcard || (p.isStar && p.names.isEmpty)) = false := by rfl) : DPt X (.MatchSequence ps pos) ns (mSeq ps.length r) := fun pins s σ H B v u d o Qr I eb rv hd em k => by
  unfold mSeq at em
  split at em
  · cases hd with
    | tup hs ha =>
      cases rv
      obtain ⟨its, rv, ht, hz⟩ := I.tuple (Evl.ex_t eb hs)
      have hl := rv.length
      have hl2 := dps_len ha
      have hfit : (its.toArray.size : Int) < 2 ^ 63 := by
        have := sizeLine_eq
        rw [List.size_toArray]
        omega
      split at em
      · rename_i hn
        refine matchSeq_tuple_hit ht hfit (by rw [List.size_toArray]; omega) ?_ hstar hwild
        have hn' : ps.length = its.toArray.size := by rw [List.size_toArray]; omega
        rw [hn']
        refine unpackItems_tuple (I.ok.hd hc) (show IsTup s.heap _ its.toArray from ht) fun h' hx => ?_
        have I1 : Inv X pins σ H { s with heap := h', toks := s.toks + 1 + 1 } := I.kept (t' := s.toks + 1 + 1) fun b o e => hx b o (Nat.ne_of_lt (Heap.lt_size e)) e
        exact h pins _ σ H B _ _ _ o Qr I1 eb rv ha em k
      · rename_i hn
        cases em
        exact matchSeq_tuple_miss ht hfit (by rw [List.size_toArray]; omega) (k _ (I.tok _)) hstar hwild
  · cases em
/-! ### cases -/
def DMc (X : Cx) (B0 : BZ) (H0 : Hp) (cs : List MatchCase) (mc : PyData → DSt) : Prop := ∀ (first : Bool) (pins : List (Addr × Obj)) (s : Shared) (σ : L2.St) (H B : Hp) (v : V) (u : Value) (d : PyData) (ρ : Rho) (o : Out) (D : Ends),
  Inv X pins σ H s → Rel X.K B0 H0 B H σ ρ → RelV v u → Dp X.K B v d → mc d ρ = some o → OutOk X.K B0 H0 B D o → wpAny (model X.prog X.w) X.A (matchCases cs X.env u first) (SP X pins D) X.xe s
def mcNil : PyData → DSt := fun _ ρ => some (.nx ρ)
theorem dmc_nil : DMc X B0 H0 [] mcNil := fun first pins s σ H B v u d ρ o D I R rv hd em k => by
  cases em
  exact wpAny_matchCases_nil ⟨σ, H, I, k σ B H R (Evl.Ex.refl _)⟩
def mcCons (m : MP) (is : List Nat) (body : DSt) (r : PyData → DSt) : PyData → DSt := fun d ρ => (m d).bind fun o => match o with
  | none => r d ρ
  | some ds => (gNs is ds ρ).bind body
/-- names stand in slots -/
def InSl (X : Cx) : List Str → List Nat → Prop
  | [], [] => True
  | n :: ns, i :: is => X.N[i]? = some n ∧ X.env.scope.names.lookup n = some .local ∧ InSl X ns is
  | _, _ => False
theorem bind_names {pins : List (Addr × Obj)} {H B : Hp} {ds : List PyData} {Qr : Unit → Shared → Prop} (hN : X.N.Nodup) : ∀ {ns : List Str} {is : List Nat} {vs : List V} {us : List Value} {ds : List PyData} {s : Shared} {σ : L2.St} {ρ ρ' : Rho}, InSl X ns is → (∀ i ∈ is, NZ B0 i) → Inv X pins σ H s → Rel X.K B0 H0 B H σ ρ → Vals vs us → DpAll X.K B vs ds →
    ns.length = us.length → gNs is ds ρ = some ρ' → (∀ s' σ', Inv X pins σ' H s' → Rel X.K B0 H0 B H σ' ρ' → Qr () s') → wpAny (model X.prog X.w) X.A (assignInOrder ((ns.zip us).map fun (n, _) => bindName X.env n) ((ns.zip us).map (·.2))) Qr X.xe s
  | [], [], vs, us, ds, s, σ, ρ, ρ', hi, hz, I, R, rv, hd, hl, e, k => by
    cases us with
    | cons a b => cases hl
    | nil =>
      cases rv
      cases hd
      cases e
      exact assignInOrder_nil (k s σ I R)
  | n :: ns, i :: is, vs, us, ds, s, σ, ρ, ρ', ⟨h1, h2, h3⟩, hz, I, R, rv, hd, hl, e, k => by
    cases rv with
    | nil => cases hl
    | cons r1 r2 =>
      cases hd with
      | cons d1 d2 =>
        refine assignInOrder_cons (wpAny_bindName (store_ok I hN h1 (.inl h2) r1 (fun s1 I1 => ?_) (.inr h2)))
        exact bind_names (ds := []) hN h3 (fun j hj => hz j (List.mem_cons_of_mem _ hj)) I1 (R.setDat (hz i (List.mem_cons_self ..)) d1) r2 d2 (Nat.succ.inj hl) e k
  | [], i :: is, _, _, _, _, _, _, _, hi, _, _, _, _, _, _, _, _ => hi.elim
  | n :: ns, [], _, _, _, _, _, _, _, hi, _, _, _, _, _, _, _, _ => hi.elim
theorem dmc_cons {p : Pattern} {body : List Stmt} {rest : List MatchCase} {ns : List Str} {is : List Nat} {m : MP} {bd : DSt} {r : PyData → DSt} (hN : X.N.Nodup) (hp : DPt X p ns m) (hi : InSl X ns is) (hz : ∀ i ∈ is, NZ B0 i) (hb : DSs X B0 H0 body bd) (hr : DMc X B0 H0 rest r) :
    DMc X B0 H0 (⟨p, none, body⟩ :: rest) (mcCons m is bd r) := fun first pins s σ H B v u d ρ o D I R rv hd em k => by
  obtain ⟨o1, e1, e2⟩ := bind_some em
  refine wpAny_matchCases_cons (hp pins s σ H B v u d o1 _ I R.bh rv hd e1 fun s1 I1 => ?_)
  cases o1 with
  | none => exact hr false pins s1 σ H B v u d ρ o D I1 R rv hd e2 k
  | some ds =>
    obtain ⟨ρ1, e3, e4⟩ := bind_some e2
    intro vs us a1 a2 a3
    refine bind_names (ds := ds) hN hi hz I1 R a1 a2 a3 e3 fun s2 σ2 I2 R2 => ?_
    exact hb.run pins s2 σ2 H D I2 ⟨B, ρ1, o, R2, e4, k⟩
def sMatch (p : DE) (mc : PyData → DSt) : DSt := fun ρ => (p ρ).bind fun d => mc d ρ
theorem ds_match {e : Expr} {cs : List MatchCase} {p : DE} {mc : PyData → DSt} (he : DP X B0 H0 e p) (hm : DMc X B0 H0 cs mc) : DS X B0 H0 (.Match e cs pos) (sMatch p mc) := ⟨fun pins s σ H D I ⟨B, ρ, o, R, ed, k⟩ => by
  obtain ⟨d, e1, e2⟩ := bind_some ed
  refine wpAny_Match (thn (he.run pins s σ H (fun v H' => ∃ B', Stp B H B' H' ∧ Dp X.K B' v d) I ⟨B, ρ, d, R, e1, fun v B' H' s q => ⟨B', s, q⟩⟩) fun u s1 ⟨v, H1, I1, r1, B1, s2, q⟩ => ?_)
  exact hm true pins s1 σ H1 B1 v u d ρ o D I1 (R.step s2) r1 q e2 (k.mono s2.bb)⟩
end
end DL

set_option Elab.async false
set_option linter.all false
set_option maxRecDepth 100000
set_option maxHeartbeats 4000000
/-! DL8: expressions that change own lists; defs whose first argument is a list that they change. -/
namespace DL
open PySem L2 PyProof.Rows
abbrev DX := Rho → Option (PyData × Rho)
abbrev DXs := Rho → Option (List PyData × Rho)
/-- what stands still: all but the own lists -/
structure Frm (σ : L2.St) (ρ ρ' : Rho) (B H B' H' : Hp) : Prop where
  bb : Ex B B'
  new : ∀ a, H a ≠ none → B a = none → B' a = none
  alive : ∀ a, H a ≠ none → H' a ≠ none
  own : ∀ (j : Nat) ds', ρ'[j]? = some (some (Sl.own ds')) → ∃ ds, ρ[j]? = some (some (Sl.own ds))
  keep : ∀ a o, H a = some o → (∀ (j : Nat) ds, ρ[j]? = some (some (Sl.own ds)) → σ[j]? ≠ some (some (V.ref a))) → H' a = some o
theorem Frm.of {σ : L2.St} {ρ : Rho} {B H B' H' : Hp} (s : Stp B H B' H') : Frm σ ρ ρ B H B' H' := ⟨s.bb, s.new, fun a h => ex_some s.hh h, fun j ds h => ⟨ds, h⟩, fun a o h _ => s.hh a o h⟩
theorem Frm.trans {σ : L2.St} {ρ ρ1 ρ2 : Rho} {B H B1 H1 B2 H2 : Hp} (f : Frm σ ρ ρ1 B H B1 H1) (g : Frm σ ρ1 ρ2 B1 H1 B2 H2) : Frm σ ρ ρ2 B H B2 H2 :=
  ⟨f.bb.trans g.bb, fun a h n => g.new a (f.alive a h) (f.new a h n), fun a h => g.alive a (f.alive a h), fun j ds h => by obtain ⟨d, h⟩ := g.own j ds h; exact f.own j d h, fun a o h k => g.keep a o (f.keep a o h k) fun j ds hj => by obtain ⟨d, hd⟩ := f.own j ds hj; exact k j d hd⟩
def rdX (K : PySem.W.Frag) (B0 : BZ) (H0 : Hp) (dx : DX) : TE := fun σ H Q => ∃ B ρ d ρ', Rel K B0 H0 B H σ ρ ∧ dx ρ = some (d, ρ') ∧ ∀ v B' H', Rel K B0 H0 B' H' σ ρ' → Frm σ ρ ρ' B H B' H' → Dp K B' v d → Q v H'
def rdXA (K : PySem.W.Frag) (B0 : BZ) (H0 : Hp) (dx : DXs) : TA := fun σ H Q => ∃ B ρ d ρ', Rel K B0 H0 B H σ ρ ∧ dx ρ = some (d, ρ') ∧ ∀ vs B' H', Rel K B0 H0 B' H' σ ρ' → Frm σ ρ ρ' B H B' H' → DpAll K B' vs d → Q vs H'
section
variable {X : Cx} {B0 : BZ} {H0 : Hp} {e a b c tg : Expr} {es : List Expr} {pos p2 p3 : Pos}
abbrev DXe (X : Cx) (B0 : BZ) (H0 : Hp) (e : Expr) (dx : DX) : Prop := PE X e (rdX X.K B0 H0 dx)
abbrev DXa (X : Cx) (B0 : BZ) (H0 : Hp) (es : List Expr) (dx : DXs) : Prop := PA X es (rdXA X.K B0 H0 dx)
def xP (p : DE) : DX := fun ρ => (p ρ).map fun d => (d, ρ)
theorem dx_of {p : DE} (h : DP X B0 H0 e p) : DXe X B0 H0 e (xP p) := pe_imp h fun σ H Q ⟨B, ρ, d, ρ', R, ed, k⟩ => by
  obtain ⟨x, e1, e2⟩ := map_some ed
  cases e2
  exact ⟨B, ρ, _, R, e1, fun v B' H' s q => k v B' H' (R.step s) (.of s) q⟩
def xaNil : DXs := fun ρ => some ([], ρ)
def xaCons (p : DX) (r : DXs) : DXs := fun ρ => (p ρ).bind fun x => (r x.2).map fun y => (x.1 :: y.1, y.2)
theorem dxa_nil : DXa X B0 H0 [] xaNil := pa_imp pa_nil fun σ H Q ⟨B, ρ, d, ρ', R, ed, k⟩ => by
  cases ed
  exact k [] B H R (.of (.refl R.bh)) .nil
theorem dxa_cons {p : DX} {r : DXs} (ha : DXe X B0 H0 e p) (hr : DXa X B0 H0 es r) (hs : starEach (e :: es) X.env = (false, eval e X.env) :: starEach es X.env := by rfl) : DXa X B0 H0 (e :: es) (xaCons p r) :=
  pa_imp (pa_cons ha hr hs) fun σ H Q ⟨B, ρ, d, ρ', R, ed, k⟩ => by
    obtain ⟨x, e1, ed⟩ := bind_some ed
    obtain ⟨y, e2, e3⟩ := map_some ed
    cases e3
    exact ⟨B, ρ, x.1, x.2, R, e1, fun v B1 H1 R1 f1 q1 => ⟨B1, x.2, y.1, y.2, R1, e2, fun vs B2 H2 R2 f2 q2 => k (v :: vs) B2 H2 R2 (f1.trans f2) (.cons (dp_ex f2.bb _ _ q1) q2)⟩⟩
theorem Rel.nofresh {K : PySem.W.Frag} {B H : Hp} {σ : L2.St} {ρ : Rho} (R : Rel K B0 H0 B H σ ρ) {p : Addr} (hp : H p = none) : ∀ (j : Nat) ds, ρ[j]? = some (some (Sl.own ds)) → σ[j]? ≠ some (some (V.ref p)) := fun j ds hj hs => by
  obtain ⟨m, us, q1, q2, _⟩ := R.own j ds hj
  rw [hs] at q1
  cases q1
  rw [hp] at q2
  cases q2
def xTup (r : DXs) : DX := fun ρ => (r ρ).bind fun x => if x.1.length ≤ sizeLine then some (.tuple x.1, x.2) else none
theorem dx_tup {r : DXs} {x1} (h : DXa X B0 H0 es r) : DXe X B0 H0 (.Tuple es x1 pos) (xTup r) := pe_imp (pe_tup h) fun σ H Q ⟨B, ρ, d, ρ', R, ed, k⟩ => by
  obtain ⟨x, e1, e2⟩ := bind_some ed
  split at e2
  · rename_i hz
    cases e2
    refine ⟨B, ρ, x.1, x.2, R, e1, fun vs B1 H1 R1 f1 q1 => ⟨by rw [dps_len q1]; exact hz, fun p hp => ?_⟩⟩
    have s2 := Stp.lay R1.bh (.tup vs) hp
    exact k (.ref p) _ _ (R1.step s2) (f1.trans (.of s2)) (.tup (.of upd_same) (dps_ex s2.bb _ _ q1))
  · cases e2
/-! ### defs that change their first argument, a list -/
def spO (K : PySem.W.Frag) (F : List PyData → List PyData → Option (PyData × List PyData)) : Sp := fun vs H Q _ => ∃ B l ws pool us ds d pool', vs = .ref l :: us ∧ Ex B H ∧ H l = some (.lst ws) ∧ B l = none ∧ DpAll K B ws pool ∧ DpAll K B us ds ∧ F pool ds = some (d, pool') ∧
  ∀ v B' H' ws', Ex B B' → Ex B' H' → (∀ a o, a ≠ l → H a = some o → H' a = some o) → (∀ a, H a ≠ none → B a = none → B' a = none) → H' l = some (.lst ws') → DpAll K B' ws' pool' → Dp K B' v d → Q v H'
/-- the caller's list is an own one -/
def xCall (j : Nat) (F : List PyData → List PyData → Option (PyData × List PyData)) (r : DLs) : DX := fun ρ => (vO j ρ).bind fun pool => (r ρ).bind fun ds => (F pool ds).map fun x => (x.1, ρ.set j (some (.own x.2)))
theorem dx_call {k j : Nat} {x y : Str} {F : List PyData → List PyData → Option (PyData × List PyData)} {r : DLs} {p : Pos} (D : Dfn X.prog X.w X.K X.mg X.base k x (spO X.K F)) (hr : Room k X.A) (hg : Gl X x) (hj : X.N[j]? = some y) (hv : Vis X.env.scope y) (ha : DA X B0 H0 es r) (hdb : (x == ("__debug__" : Str)) = false := by decide)
    (hd : (y == ("__debug__" : Str)) = false := by decide) (hcd : (y == ("__classdict__" : Str)) = false := by decide)
    (he : starEach (.Name y p2 :: es) X.env = (false, eval (.Name y p2) X.env) :: starEach es X.env := by rfl) (hpl : (backTo pos (starEach es X.env)).any (·.1) = false := by rfl) : DXe X B0 H0 (.Call (.Name x p) (.Name y p2 :: es) [] pos) (xCall j F r) := by
  obtain ⟨f, fd, ps, FO, hm, hk, hb⟩ := D
  refine pe_imp (pe_call FO hr hg hm hk hb .nil pass0 (pa_cons (pe_var hj hv hd hcd) ha he) hdb he hpl) fun σ H Q ⟨B, ρ, d, ρ', R, ed, k⟩ => ?_
  obtain ⟨pool, e1, ed⟩ := bind_some ed
  obtain ⟨ds, e2, ed⟩ := bind_some ed
  obtain ⟨z, e3, e4⟩ := map_some ed
  cases e4
  obtain ⟨l, vs, a1, a2, a3, a4, a5⟩ := R.own j pool (vO_some e1)
  refine ⟨_, a1, B, ρ, ds, R, e2, fun us B1 H1 s1 q1 => ?_⟩
  have R1 := R.step s1
  show spO X.K F ((.ref l :: us) ++ []) H1 Q E0
  rw [List.append_nil]
  have b1 := s1.new l (by rw [a2]; exact fun z => nomatch z) a3
  refine ⟨B1, l, vs, pool, us, ds, z.1, z.2, rfl, s1.bh, s1.hh _ _ a2, b1, dps_ex s1.bb _ _ a5, q1, e3, fun v B2 H2 ws' bb bh keep new hl hp hq => ?_⟩
  have hl2 : B2 l = none := new l (by rw [s1.hh _ _ a2]; exact fun z => nomatch z) b1
  -- the frame behind the call: first all but the list, then the list
  have R2 : Rel X.K B0 H0 B2 H2 σ (ρ.set j (some (.own z.2))) := by
    refine ⟨by rw [List.length_set]; exact R.len, ⟨(R1.stp.bb).trans bb, fun a o q => ?_, bh, fun a h n => ?_⟩, R1.pin, fun i d q => ?_, fun i es q => ?_, fun i i' ds1 es1 l1 qa qb sa sb => ?_⟩
    · have hne : a ≠ l := fun z => by subst z; rw [a4] at q; cases q
      exact keep a o hne (R1.stp.hh a o q)
    · exact new a (ex_some R1.stp.hh h) (R1.stp.new a h n)
    · rcases set_eq q with ⟨rfl, q, hl⟩ | ⟨ne, q⟩
      · cases q
      · obtain ⟨w, c1, c2⟩ := R1.dat i d q
        exact ⟨w, c1, dp_ex bb _ _ c2⟩
    · rcases set_eq q with ⟨rfl, q, hl'⟩ | ⟨ne, q⟩
      · cases q
        exact ⟨l, ws', a1, hl, hl2, a4, hp⟩
      · obtain ⟨l2, vs2, c1, c2, c3, c4, c5⟩ := R1.own i es q
        have hne : l2 ≠ l := fun z => by
          subst z
          exact ne (R.sep j i pool es l2 (vO_some e1) q a1 c1)
        exact ⟨l2, vs2, c1, keep _ _ hne c2, new _ (by rw [c2]; exact fun z => nomatch z) c3, c4, dps_ex bb _ _ c5⟩
    · have f : ∀ (n : Nat) (zs : List PyData), (ρ.set j (some (Sl.own z.2)))[n]? = some (some (Sl.own zs)) → ∃ ys, ρ[n]? = some (some (Sl.own ys)) := fun n zs q => by
        rcases set_eq q with ⟨rfl, q, hl⟩ | ⟨ne, q⟩
        · exact ⟨pool, vO_some e1⟩
        · exact ⟨zs, q⟩
      obtain ⟨u, hu⟩ := f i ds1 qa
      obtain ⟨w, hw⟩ := f i' es1 qb
      exact R.sep i i' u w l1 hu hw sa sb
  refine k v B2 H2 R2 ⟨s1.bb.trans bb, fun a h n => new a (ex_some s1.hh h) (s1.new a h n), fun a h => ?_, fun n ds' q => ?_, fun a o q hno => ?_⟩ hq
  · by_cases ha : a = l
    · subst ha; rw [hl]; exact fun z => nomatch z
    · cases q : H1 a with
      | none => exact absurd q (ex_some s1.hh h)
      | some o => rw [keep a o ha q]; exact fun z => nomatch z
  · rcases set_eq q with ⟨rfl, q, hl⟩ | ⟨ne, q⟩
    · exact ⟨pool, vO_some e1⟩
    · exact ⟨ds', q⟩
  · have hne : a ≠ l := fun z => by
      subst z
      exact hno j pool (vO_some e1) a1
    exact keep a o hne (s1.hh a o q)
/-- the caller's list is a new one -/
def oCallT (F : List PyData → List PyData → Option (PyData × List PyData)) (p : DLs) (r : DLs) : DE := fun ρ => (p ρ).bind fun pool => (r ρ).bind fun ds => (F pool ds).map (·.1)
theorem dp_callT {k : Nat} {x : Str} {F : List PyData → List PyData → Option (PyData × List PyData)} {q r : DLs} {p : Pos} (D : Dfn X.prog X.w X.K X.mg X.base k x (spO X.K F)) (hr : Room k X.A) (hg : Gl X x) (h1 : DLn X B0 H0 e q) (ha : DA X B0 H0 es r) (hdb : (x == ("__debug__" : Str)) = false := by decide)
    (he : starEach (e :: es) X.env = (false, eval e X.env) :: starEach es X.env := by rfl) (hpl : (backTo pos (starEach es X.env)).any (·.1) = false := by rfl) : DP X B0 H0 (.Call (.Name x p) (e :: es) [] pos) (oCallT F q r) := by
  obtain ⟨f, fd, ps, FO, hm, hk, hb⟩ := D
  refine pe_imp (pe_call FO hr hg hm hk hb .nil pass0 (pa_cons h1 ha he) hdb he hpl) fun σ H Q ⟨B, ρ, d, R, ed, k⟩ => ?_
  obtain ⟨pool, e1, ed⟩ := bind_some ed
  obtain ⟨ds, e2, ed⟩ := bind_some ed
  obtain ⟨z, e3, e4⟩ := map_some ed
  subst e4
  refine ⟨B, ρ, pool, R, e1, fun l vs B1 H1 s1 hl bl h1 q1 => ⟨B1, ρ, ds, R.step s1, e2, fun us B2 H2 s2 q2 => ?_⟩⟩
  show spO X.K F ((.ref l :: us) ++ []) H2 Q E0
  rw [List.append_nil]
  have bl2 := s2.new l (by rw [h1]; exact fun z => nomatch z) bl
  refine ⟨B2, l, vs, pool, us, ds, z.1, z.2, rfl, s2.bh, s2.hh _ _ h1, bl2, dps_ex s2.bb _ _ q1, q2, e3, fun v B3 H3 ws' bb bh keep new hl3 hp hq => ?_⟩
  have s := s1.trans s2
  refine k v B3 H3 ⟨s.bb.trans bb, fun a o q => ?_, bh, fun a h n => new a (ex_some s.hh h) (s.new a h n)⟩ hq
  exact keep a o (fun z => by subst z; rw [hl] at q; cases q) (s.hh a o q)
theorem start_noown {n : Nat} {ds : List PyData} {i : Nat} {es : List PyData} (q : (startR n ds)[i]? = some (some (Sl.own es))) : False := by
  unfold startR at q
  rw [List.getElem?_append] at q
  split at q
  · rw [List.getElem?_map] at q
    obtain ⟨d', e1, e2⟩ := map_some q
    cases e2
  · rw [List.getElem?_replicate] at q
    split at q <;> cases q
def startO (n : Nat) (pool ds : List PyData) : Rho := some (.own pool) :: startR (n - 1) ds
/-- what such a def gives -/
def runO (n N : Nat) (body : DSt) : List PyData → List PyData → Option (PyData × List PyData) := fun pool ds => if ds.length + 1 = n then (body (startO N pool ds)).bind fun o => match o with
    | .rt d ρ => (vO 0 ρ).map fun l => (d, l)
    | .nx ρ => (vO 0 ρ).map fun l => (.none, l)
    | _ => none
  else none
/-! ### statements -/
def sRetX (p : DX) : DSt := fun ρ => (p ρ).map fun x => Out.rt x.1 x.2
theorem ds_retX {p : DX} (h : DXe X B0 H0 e p) : DS X B0 H0 (.Return (some e) pos) (sRetX p) := ps_imp (ps_ret h) fun D σ H ⟨B, ρ, o, R, ed, k⟩ => by
  obtain ⟨x, e1, e2⟩ := map_some ed
  subst e2
  exact ⟨B, ρ, x.1, x.2, R, e1, fun v B' H' R' f q => k σ v B' H' R' f.bb q⟩
def sSetX (i : Nat) (p : DX) : DSt := fun ρ => (p ρ).map fun x => .nx (x.2.set i (some (.dat x.1)))
theorem ds_setX {i : Nat} {x : Str} {pos' : Pos} {p : DX} (nz : NZ B0 i) (hN : X.N.Nodup) (hi : X.N[i]? = some x) (hx : Loc X.env.scope x) (he : DXe X B0 H0 e p) (hs : swapsWith e (some (.Name x pos')) pos.line X.env = pure false := by rfl) (hf : X.fn x = true ∨ X.env.scope.names.lookup x = some .local := by first | exact .inl rfl | exact .inr rfl | assumption) :
    DS X B0 H0 (.Assign [.Name x pos'] e pos) (sSetX i p) := ps_imp (ps_set hN hi hx he hs hf) fun D σ H ⟨B, ρ, o, R, ed, k⟩ => by
  obtain ⟨x, e1, e2⟩ := map_some ed
  subst e2
  exact ⟨B, ρ, x.1, x.2, R, e1, fun v B' H' R' f q => k _ B' H' (R'.setDat nz q) f.bb⟩
/-- return xs.pop() -/
def xPop (j : Nat) : DX := fun ρ => (vO j ρ).bind fun ds => ds.getLast?.map fun y => (y, ρ.set j (some (.own ds.dropLast)))
theorem dx_pop {j : Nat} {y : Str} {apos cpos : Pos} (hj : X.N[j]? = some y) (hv : Vis X.env.scope y) (hd : (y == ("__debug__" : Str)) = false := by decide) (hcd : (y == ("__classdict__" : Str)) = false := by decide)
    (hpe : ∀ {to : TE}, PE X (.Name y p2) to → PE X (.Call (.Attribute (.Name y p2) "pop" apos) [] [] cpos) (tBM0 X.K "list" rPop to)) :
    DXe X B0 H0 (.Call (.Attribute (.Name y p2) "pop" apos) [] [] cpos) (xPop j) :=
  pe_imp (hpe (pe_var hj hv hd hcd)) fun σ H Q ⟨B, ρ, d, ρ', R, ed, k⟩ => by
    obtain ⟨ds, e1, ed⟩ := bind_some ed
    obtain ⟨z, e2, e3⟩ := map_some ed
    cases e3
    obtain ⟨l, vs, a1, a2, a3, a4, a5⟩ := R.own j ds (vO_some e1)
    rw [List.getLast?_eq_getElem?] at e2
    obtain ⟨v, q1, q2⟩ := dps_get a5 e2
    refine ⟨_, a1, ty_lst a2, l, vs, v, rfl, rfl, a2, by rw [dps_len a5]; exact q1, ?_⟩
    refine k v B _ (R.chg (vO_some e1) a1 (dps_dropLast a5)) ⟨Evl.Ex.refl _, fun a h n => n, fun a h => ?_, fun n ds' q => ?_, fun a o q hno => ?_⟩ q2
    · by_cases ha : a = l
      · subst ha; rw [upd_same]; exact fun z => nomatch z
      · rw [upd_ne ha]; exact h
    · rcases set_eq q with ⟨rfl, q, hl⟩ | ⟨ne, q⟩
      · exact ⟨ds, vO_some e1⟩
      · exact ⟨ds', q⟩
    · have hne : a ≠ l := fun z => by
        subst z
        exact hno j ds (vO_some e1) a1
      rw [upd_ne hne]; exact q
/-- [.. for x in ..] whose item changes own lists; x is in slot i -/
def xlGo (i : Nat) (p : DX) : List PyData → Rho → Option (List PyData × Rho)
  | [], ρ => some ([], ρ)
  | d :: ds, ρ => (p (ρ.set i (some (.dat d)))).bind fun x => (xlGo i p ds (x.2.set i none)).map fun y => (x.1 :: y.1, y.2)
def xLc (di : DLs) (i : Nat) (p : DX) : DX := fun ρ => (di ρ).bind fun ds => if ds.length ≤ sizeLine then (xlGo i p ds (ρ.set i none)).map fun x => (.list x.1, x.2) else none
theorem xlGo_none (i : Nat) (p : DX) : ∀ (ds : List PyData) (ρ : Rho) (y : List PyData × Rho), ρ.set i none = ρ → xlGo i p ds ρ = some y → y.2.set i none = y.2
  | [], ρ, y, h, e => by cases e; exact h
  | d :: ds, ρ, y, h, e => by
    obtain ⟨x, e1, e⟩ := bind_some e
    obtain ⟨z, e2, e3⟩ := map_some e
    subst e3
    exact xlGo_none i p ds _ z (by rw [List.set_set]) e2
theorem set_none_ne {ρ : Rho} {i j : Nat} {s : Sl} (h : ρ.set i none = ρ) (e : ρ[j]? = some (some s)) : i ≠ j := fun z => by
  subst z
  rw [← h, List.getElem?_set, if_pos rfl] at e
  split at e <;> cases e
theorem Rel.unset {K : PySem.W.Frag} {B H : Hp} {σ : L2.St} {ρ : Rho} {i : Nat} (R : Rel K B0 H0 B H (σ.set i none) ρ) (h : ρ.set i none = ρ) : Rel K B0 H0 B H σ ρ where
  len := by have := R.len; rw [List.length_set] at this; exact this
  stp := R.stp
  pin := fun l z => by
    have q := R.pin l z
    by_cases hi : i = 0
    · subst hi
      rw [List.getElem?_set, if_pos rfl] at q
      split at q <;> cases q
    · rw [get_set_ne hi] at q; exact q
  dat := fun j d e => by
    obtain ⟨v, a, b⟩ := R.dat j d e
    rw [get_set_ne (set_none_ne h e)] at a
    exact ⟨v, a, b⟩
  own := fun j d e => by
    obtain ⟨l, vs, a, b⟩ := R.own j d e
    rw [get_set_ne (set_none_ne h e)] at a
    exact ⟨l, vs, a, b⟩
  sep := fun x y ds es l qa qb sa sb => R.sep x y ds es l qa qb (by rw [get_set_ne (set_none_ne h qa)]; exact sa) (by rw [get_set_ne (set_none_ne h qb)]; exact sb)
theorem xl_read {K : PySem.W.Frag} {di : DLs} {i : Nat} {p : DX} (nz : NZ B0 i) (σ : L2.St) (H : Hp) (Q : VK) (h : rdX K B0 H0 (xLc di i p) σ H Q) : tLc (rdI K B0 H0 di) (gName i) tYes (rdX K B0 H0 p) [i] σ H Q := by
  obtain ⟨B, ρ, d, ρ', R, ed, k⟩ := h
  obtain ⟨ds, e1, e2⟩ := bind_some ed
  split at e2
  · rename_i hz
    obtain ⟨y, e3, e4⟩ := map_some e2
    cases e4
    refine ⟨B, ρ, ds, R, e1, fun J B1 H1 s1 jok Dl hD => ?_⟩
    let W : Nat → Nat → Hp → Prop := fun n m H' => m = ds.length - n ∧ n ≤ ds.length ∧ ∃ B' ρi acc accd rest, Rel K B0 H0 B' H' (σ.set i none) ρi ∧ ρi.set i none = ρi ∧ Frm (σ.set i none) (ρ.set i none) ρi B1 H1 B' H' ∧ H' Dl = some (.lst acc) ∧ B' Dl = none ∧ (∀ (j : Nat) ds, ρi[j]? = some (some (Sl.own ds)) → (σ.set i none)[j]? ≠ some (some (V.ref Dl))) ∧ DpAll K B' acc accd ∧ xlGo i p (ds.drop n) ρi = some rest ∧ accd ++ rest.1 = y.1 ∧ rest.2 = y.2 ∧ accd.length ≤ n
    have sD := Stp.add s1.bh (.lst []) hD
    have R1 := (R.step s1).setNone (i := i) (o := none) nz
    have hn1 : ∀ (j : Nat) ds, (ρ.set i none)[j]? = some (some (Sl.own ds)) → (σ.set i none)[j]? ≠ some (some (V.ref Dl)) := R1.nofresh hD
    refine ⟨W, ⟨ds.length, rfl, Nat.zero_le _, B1, ρ.set i none, [], [], y, R1.step sD, by rw [List.set_set], .of sD, upd_same, Evl.fresh_back s1.bh hD, hn1, .nil, e3, rfl, rfl, Nat.le_refl _⟩, ?_⟩
    rintro n m H' ⟨hm, hi, B', ρi, acc, accd, rest, Ri, hwi, fr, hl, bl, hno, ha, eg, er1, er2, hle⟩
    by_cases hlt : n < ds.length
    · obtain ⟨x, ex, edr⟩ := drop_cons hlt
      rw [edr] at eg
      obtain ⟨z, ez, eg⟩ := bind_some eg
      obtain ⟨rest', er', e5⟩ := map_some eg
      subst e5
      obtain ⟨jgo, jy⟩ := (jok B' H' fr.bb Ri.bh n).1 x ex
      refine .inr ⟨jgo, fun H'' => W (n + 1) (ds.length - (n + 1)) H'', fun H'' w => ⟨_, by omega, w⟩, fun v H2 yv => ?_⟩
      obtain ⟨B2, s2, hv⟩ := jy v H2 yv
      have hl2 := s2.hh _ _ hl
      have bl2 := s2.new Dl (by rw [hl]; exact fun z => nomatch z) bl
      have R2 := (Ri.step s2).setDat (i := i) nz hv
      show wipe ((σ.set i none).set i (some v)) [i] = σ.set i none ∧ rdX K B0 H0 p ((σ.set i none).set i (some v)) H2 _
      rw [List.set_set] at R2 ⊢
      refine ⟨by show (σ.set i (some v)).set i none = _; rw [List.set_set], B2, _, z.1, z.2, R2, ez, fun w B4 H4 R4 f4 hw4 => ?_⟩
      have hown : ∀ (j : Nat) ds, (ρi.set i (some (.dat x)))[j]? = some (some (Sl.own ds)) → i ≠ j ∧ ρi[j]? = some (some (Sl.own ds)) := fun j ds q => by
        rcases set_eq q with ⟨rfl, q, _⟩ | ⟨ne, q⟩
        · cases q
        · exact ⟨ne, q⟩
      have hnoD : ∀ (j : Nat) ds, (ρi.set i (some (.dat x)))[j]? = some (some (Sl.own ds)) → (σ.set i (some v))[j]? ≠ some (some (V.ref Dl)) := fun j ds q hs => by
        obtain ⟨ne, q⟩ := hown j ds q
        rw [get_set_ne ne] at hs
        exact hno j ds q (by rw [get_set_ne ne]; exact hs)
      have hl4 : H4 Dl = some (.lst acc) := f4.keep Dl _ hl2 hnoD
      have bl4 : B4 Dl = none := f4.new Dl (by rw [hl2]; exact fun z => nomatch z) bl2
      have R5 : Rel K B0 H0 B4 H4 (σ.set i none) (z.2.set i none) := by
        have := R4.setNone (i := i) (o := none) nz
        rw [List.set_set] at this
        exact this
      have h0 : H0 Dl = none := Evl.fresh_back R1.stp.hh hD
      have hw5 : (z.2.set i none).set i none = z.2.set i none := by rw [List.set_set]
      have own5 : ∀ (j : Nat) ds, (z.2.set i none)[j]? = some (some (Sl.own ds)) → i ≠ j ∧ ∃ es, ρi[j]? = some (some (Sl.own es)) := fun j ds q => by
        rcases set_eq q with ⟨rfl, q, _⟩ | ⟨ne, q⟩
        · cases q
        · obtain ⟨es, q⟩ := f4.own j ds q
          exact ⟨ne, es, (hown j es q).2⟩
      have hno5 : ∀ (j : Nat) ds, (z.2.set i none)[j]? = some (some (Sl.own ds)) → (σ.set i none)[j]? ≠ some (some (V.ref Dl)) := fun j ds q => by
        obtain ⟨ne, es, q⟩ := own5 j ds q
        exact hno j es q
      have R6 : Rel K B0 H0 B4 (upd H4 Dl (.lst (acc ++ [w]))) (σ.set i none) (z.2.set i none) := by
        refine ⟨R5.len, ⟨R5.stp.bb, fun a o q => ?_, fun a o q => ?_, R5.stp.new⟩, R5.pin, R5.dat, fun j es q => ?_, R5.sep⟩
        · have hx : a ≠ Dl := fun z => by subst z; rw [h0] at q; cases q
          rw [upd_ne hx]; exact R5.stp.hh a o q
        · have hx : a ≠ Dl := fun z => by subst z; rw [bl4] at q; cases q
          rw [upd_ne hx]; exact R5.stp.bh a o q
        · obtain ⟨l, vs, c1, c2, c3⟩ := R5.own j es q
          have hx : l ≠ Dl := fun z => by subst z; exact hno5 j es q c1
          exact ⟨l, vs, c1, by rw [upd_ne hx]; exact c2, c3⟩
      have fr5 : Frm (σ.set i none) (ρ.set i none) (z.2.set i none) B1 H1 B4 (upd H4 Dl (.lst (acc ++ [w]))) := by
        refine ⟨fr.bb.trans (s2.bb.trans f4.bb), fun a h nn => f4.new a (ex_some s2.hh (fr.alive a h)) (s2.new a (fr.alive a h) (fr.new a h nn)), fun a h => ?_, fun j ds' q => ?_, fun a o q hq => ?_⟩
        · by_cases hx : a = Dl
          · subst hx; rw [upd_same]; exact fun z => nomatch z
          · rw [upd_ne hx]; exact f4.alive a (ex_some s2.hh (fr.alive a h))
        · obtain ⟨ne, es, q⟩ := own5 j ds' q
          exact fr.own j es q
        · have hx : a ≠ Dl := fun z => by subst z; rw [hD] at q; cases q
          rw [upd_ne hx]
          refine f4.keep a o (s2.hh a o (fr.keep a o q hq)) fun j es qj hs => ?_
          obtain ⟨ne, qj⟩ := hown j es qj
          rw [get_set_ne ne] at hs
          obtain ⟨e', qe⟩ := fr.own j es qj
          exact hq j e' qe (by rw [get_set_ne ne]; exact hs)
      refine ⟨acc, hl4, ?_, rfl, hlt, B4, z.2.set i none, acc ++ [w], accd ++ [z.1], rest', R6, hw5, fr5, upd_same, bl4, hno5, dps_app (dps_ex (s2.bb.trans f4.bb) _ _ ha) (.cons hw4 .nil), er', ?_, er2, ?_⟩
      · rw [dps_len ha]; omega
      · rw [List.append_assoc]; exact er1
      · rw [List.length_append, List.length_singleton]; omega
    · have hi' : n = ds.length := by omega
      subst hi'
      rw [List.drop_length] at eg
      cases eg
      rw [List.append_nil] at er1
      have er2' : ρi = y.2 := er2
      subst er1
      refine .inl ⟨(jok B' H' fr.bb Ri.bh _).2 (Nat.le_refl _), ?_⟩
      rw [← er2'] at k
      have hl0 := Evl.fresh_back s1.hh hD
      have bx : Ex B' (upd B' Dl (.lst acc)) := Evl.Ex.new bl
      have Rf : Rel K B0 H0 (upd B' Dl (.lst acc)) H' (σ.set i none) ρi := by
        refine ⟨Ri.len, ⟨Ri.stp.bb.trans bx, Ri.stp.hh, fun a o q => ?_, fun a h nn => ?_⟩, Ri.pin, fun j d e => ?_, fun j es q => ?_, Ri.sep⟩
        · by_cases hx : a = Dl
          · subst hx; rw [upd_same] at q; cases q; exact hl
          · rw [upd_ne hx] at q; exact Ri.stp.bh a o q
        · have hx : a ≠ Dl := fun z => by subst z; exact h (Evl.fresh_back R1.stp.hh hD)
          rw [upd_ne hx]; exact Ri.stp.new a h nn
        · obtain ⟨v, c1, c2⟩ := Ri.dat j d e
          exact ⟨v, c1, dp_ex bx _ _ c2⟩
        · obtain ⟨l, vs, c1, c2, c3, c4, c5⟩ := Ri.own j es q
          have hx : l ≠ Dl := fun z => by subst z; exact hno j es q c1
          exact ⟨l, vs, c1, c2, by rw [upd_ne hx]; exact c3, c4, dps_ex bx _ _ c5⟩
      refine k (.ref Dl) (upd B' Dl (.lst acc)) H' (Rf.unset hwi) ⟨s1.bb.trans (fr.bb.trans bx), fun a h nn => ?_, fun a h => fr.alive a (ex_some s1.hh h), fun j es q => ?_, fun a o q hq => ?_⟩ (.lst (.of upd_same) (dps_ex bx _ _ ha))
      · have hx : a ≠ Dl := fun z => by subst z; exact h hl0
        rw [upd_ne hx]; exact fr.new a (ex_some s1.hh h) (s1.new a h nn)
      · obtain ⟨e', qe⟩ := fr.own j es q
        rcases set_eq qe with ⟨rfl, q, _⟩ | ⟨ne, qe⟩
        · cases q
        · exact ⟨e', qe⟩
      · refine fr.keep a o (s1.hh a o q) fun j es qj hs => ?_
        rcases set_eq qj with ⟨rfl, q, _⟩ | ⟨ne, qj⟩
        · cases q
        · rw [get_set_ne ne] at hs
          exact hq j es qj hs
  · cases e2
theorem dx_lc {elt iter : Expr} {scope : Scope} {y : Str} {i : Nat} {tg : Expr} {di : DLs} {p : DX} (nz : NZ B0 i) (hc : X.calm = true) (hN : X.N.Nodup) (hi : DI X B0 H0 tg iter di) (ok : BlkOk X.N X.env.scope scope [(y, i)])
    (hg : ∀ (s : Shared) (H : Hp) (C : Addr) (cl : List (Str × Addr)) (fp : List Addr), PG (X.blk s H scope (compEnvC scope cl C X.env) fp) tg (gName i))
    (he : ∀ (s : Shared) (H : Hp) (C : Addr) (cl : List (Str × Addr)) (fp : List Addr), DXe (X.blk s H scope (compEnvC scope cl C X.env) fp) B0 H0 elt p) (hs : ∀ x, foldedSetIterable iter X.env x = pure x := by intro _; rfl) :
    DXe X B0 H0 (.ListComp elt [⟨tg, iter, [], 0⟩] scope pos) (xLc di i p) :=
  pe_imp (pe_lc hc hN hi ok hg (fun _ _ _ _ _ => pts_nil) he hs) (xl_read nz)
end
/-! ### a def that changes its first argument -/
section
variable {P : Program} {w : World} {K : PySem.W.Frag} {mg : Str → Option Value} {base : Heap}
theorem start_own {B H : Hp} {N : List Str} {l : Addr} {ws us : List V} {pool ds : List PyData} (e : Ex B H) (hl : H l = some (.lst ws)) (bl : B l = none) (hp : DpAll K B ws pool) (h : DpAll K B us ds) (hN : 0 < N.length) :
    Rel K ⟨B, fun a => a = l⟩ (fun a => if a = l then none else H a) B H (L2.start N (.ref l :: us)) (startO N.length pool ds) := by
  have R := start_rel (K := K) (N := N.drop 1) e h
  have e1 : L2.start N (.ref l :: us) = some (.ref l) :: L2.start (N.drop 1) us := by
    unfold L2.start
    rw [List.map_cons, List.cons_append, List.length_cons, List.length_drop]
    congr 3
    omega
  have e2 : startO N.length pool ds = some (.own pool) :: startR (N.drop 1).length ds := by
    unfold startO
    rw [List.length_drop]
  rw [e1, e2]
  refine ⟨by rw [List.length_cons, List.length_cons, R.len], ⟨Evl.Ex.refl _, fun a o q => ?_, e, fun a h n => n⟩, fun m hm => by cases hm; rfl, fun i d q => ?_, fun i d q => ?_, fun i j d es m qa qb sa sb => ?_⟩
  · have q : (if a = l then none else H a) = some o := q
    split at q
    · cases q
    · exact q
  · cases i with
    | zero => cases q
    | succ i => exact R.dat i d (by simpa using q)
  · cases i with
    | zero =>
      cases q
      exact ⟨l, ws, rfl, hl, bl, by simp, hp⟩
    | succ i =>
      exact (start_noown (by simpa using q)).elim
  · cases i with
    | zero =>
      cases j with
      | zero => rfl
      | succ j => exact (start_noown (by simpa using qb)).elim
    | succ i => exact (start_noown (by simpa using qa)).elim
theorem fn_O {x qual : Str} {st : Stmt} {f : Addr} {fd : FuncData} {N ps : List Str} {k : Nat} {body : DSt} (F : L2.Fun K x qual st f fd) (S : FnScope N ps (defScope st)) (hbody : Body P w K mg base (fun _ => True) qual st f N k body) (hN : 0 < N.length := by decide) :
    FnOk P w K mg base CX0 (k + 1) f fd ps (spO K (runO ps.length N.length body)) := by
  refine F.ok S (fun vs H Q E h => ?_) (fun cdv A outer s H vs Q E hr h => ?_)
  · obtain ⟨B, l, ws, pool, us, ds, d, pool', rfl, e, hl, bl, hp, h1, h2, _⟩ := h
    unfold runO at h2
    split at h2
    · rw [List.length_cons, dps_len h1]; assumption
    · cases h2
  · obtain ⟨B, l, ws, pool, us, ds, d, pool', rfl, e, hl, bl, hp, h1, h2, q⟩ := h
    refine ⟨_, hbody cdv A outer s ⟨B, fun a => a = l⟩ (fun a => if a = l then none else H a) H E True.intro hr, ?_⟩
    unfold runO at h2
    split at h2
    · obtain ⟨o, e1, e2⟩ := bind_some h2
      have fin : ∀ (v : V) (B' H' : Hp) (σ' : L2.St) (ρ' : Rho), Rel K ⟨B, fun a => a = l⟩ (fun a => if a = l then none else H a) B' H' σ' ρ' → vO 0 ρ' = some pool' → Dp K B' v d → Q v H' := fun v B' H' σ' ρ' R hr hd => by
        have hs := R.pin l rfl
        obtain ⟨l', ws', c1, c2, c3, c4, c5⟩ := R.own 0 _ (vO_some hr)
        rw [hs] at c1
        cases c1
        refine q v B' H' ws' R.stp.bb R.stp.bh (fun a o hne ha => R.stp.hh a o (by show (if a = l then none else H a) = _; rw [if_neg hne]; exact ha)) (fun a h n => ?_) c2 c5 hd
        by_cases hx : a = l
        · subst hx; exact c3
        · exact R.stp.new a (by show (if a = l then none else H a) ≠ none; rw [if_neg hx]; exact h) n
      refine ⟨B, startO N.length pool ds, o, start_own e hl bl hp h1 hN, e1, ?_⟩
      cases o with
      | rt d' ρ' =>
        obtain ⟨z, e3, e4⟩ := map_some e2
        cases e4
        exact fun σ' v B' H' R _ hd => fin v B' H' σ' ρ' R e3 hd
      | nx ρ' =>
        obtain ⟨z, e3, e4⟩ := map_some e2
        cases e4
        exact fun σ' B' H' R _ => fin .non B' H' σ' ρ' R e3 .non
      | rtL l => cases e2
      | bk ρ => cases e2
      | ct ρ => cases e2
    · cases h2
end
end DL

set_option Elab.async false
set_option linter.all false
set_option maxRecDepth 100000
set_option maxHeartbeats 4000000
/-! DL9: slices with a step, tuples of the module, promises turned. -/
namespace DL
open PySem L2 PyProof.Rows
section
variable {X : Cx} {B0 : BZ} {H0 : Hp} {e a b c : Expr} {es : List Expr} {pos p2 p3 : Pos}
def stepIx (n : Nat) (lo hi st : Option Int) : List Nat := sliceRange (sliceBounds lo hi st n).1 (sliceBounds lo hi st n).2.1 (sliceBounds lo hi st n).2.2
def stepL {α : Type} (xs : List α) (lo hi st : Option Int) : List α := (stepIx xs.length lo hi st).filterMap (xs[·]?)
theorem pick_step (its : List Value) (lo hi st : Option Int) : slicePick its.toArray lo hi st = (stepL its lo hi st).toArray := by
  unfold slicePick stepL stepIx
  rw [List.size_toArray]
  congr 2
  funext x
  exact List.getElem?_toArray
theorem vals_pick {vs : List V} {us : List Value} (r : Vals vs us) : ∀ ix : List Nat, Vals (ix.filterMap (vs[·]?)) (ix.filterMap (us[·]?))
  | [] => .nil
  | i :: ix => by
    rw [List.filterMap_cons, List.filterMap_cons]
    cases e : vs[i]? with
    | none =>
      have e2 : us[i]? = none := by
        rw [List.getElem?_eq_none_iff] at e ⊢
        rw [← r.length]; exact e
      rw [e2]
      exact vals_pick r ix
    | some v =>
      obtain ⟨u, e2, ru⟩ := r.get e
      rw [e2]
      exact .cons ru (vals_pick r ix)
theorem dps_pick {K : PySem.W.Frag} {H : Hp} {vs : List V} {ds : List PyData} (r : DpAll K H vs ds) : ∀ ix : List Nat, DpAll K H (ix.filterMap (vs[·]?)) (ix.filterMap (ds[·]?))
  | [] => .nil
  | i :: ix => by
    rw [List.filterMap_cons, List.filterMap_cons]
    cases e : ds[i]? with
    | none =>
      have e2 : vs[i]? = none := by
        rw [List.getElem?_eq_none_iff] at e ⊢
        rw [dps_len r]; exact e
      rw [e2]
      exact dps_pick r ix
    | some v =>
      obtain ⟨u, e2, ru⟩ := dps_get r e
      rw [e2]
      exact .cons ru (dps_pick r ix)
theorem dps_step {K : PySem.W.Frag} {H : Hp} {vs : List V} {ds : List PyData} (r : DpAll K H vs ds) (lo hi st : Option Int) : DpAll K H (stepL vs lo hi st) (stepL ds lo hi st) := by
  unfold stepL
  rw [dps_len r]
  exact dps_pick r _
def tSlS (K : PySem.W.Frag) (te : TE) (tl th ts : TO) : TE := fun σ H Q => te σ H fun x H1 => tl σ H1 fun lo H2 => th σ H2 fun hi H3 => ts σ H3 fun st H4 => ∃ a xs, x = .ref a ∧ SqL K H4 a xs ∧ st ≠ some 0 ∧ (stepL xs lo hi st).length ≤ sizeLine ∧ ∀ p, H4 p = none → Q (.ref p) (upd H4 p (.lst (stepL xs lo hi st)))
theorem pe_slS {lo hi st : Option Expr} {te : TE} {tl th ts : TO} (he : PE X e te) (hl : PO X lo tl) (hh : PO X hi th) (hs : PO X st ts) (hc : ∀ l sl, subscriptTail e (.Slice lo hi st p2) (.ref l) (.ref sl) = subscriptTail e (.Slice lo hi st p2) (.ref l) (.ref sl) := by intros; rfl)
    (htail : subscripted (.Slice lo hi st p2) false = fun v w => operate [v, w] (getItem v w) := by rfl) : PE X (.Subscript e (.Slice lo hi st p2) pos) (tSlS X.K te tl th ts) := by
  refine ⟨fun pins s σ H Q I h => ?_⟩
  refine Subscript_ (thn (he.run pins s σ H _ I h) fun v s1 ⟨x, H1, I1, r1, q1⟩ => ?_)
  refine wpAny_Slice (thn (hl.run pins s1 σ H1 _ I1 q1) fun vl s2 ⟨l, H2, I2, pl, q2⟩ => ?_)
  refine thn (hh.run pins s2 σ H2 _ I2 q2) fun vu s3 ⟨u, H3, I3, pu, q3⟩ => ?_
  refine thn (hs.run pins s3 σ H3 _ I3 q3) fun vs s4 ⟨o, H4, I4, ps, a, xs, ex, hx, hne, hz, q⟩ => ?_
  subst ex
  cases r1
  have I5 : Inv X pins σ H4 { s4 with heap := s4.heap.push { cls := .type "slice", data := .fields #[vl, vu, vs] } } := I4.kept (t' := s4.toks) fun b ob q => Heap.get?_push_of_some _ q
  obtain ⟨its, r, ht, hz2⟩ := I5.list hx
  have hlen := r.length
  show wpAny (model X.prog X.w) X.A (subscriptTail e (.Slice lo hi st p2) (.ref a) (.ref s4.heap.objs.size)) (EP X pins σ Q) X.xe { s4 with heap := s4.heap.push { cls := .type "slice", data := .fields #[vl, vu, vs] } }
  refine tail_any (ops := [.ref a, .ref s4.heap.objs.size]) ht.isList.typeIs (PySem.slot_list_getitem.lookup) ?_ (by rw [htail] <;> rfl)
  refine wpAny_getItem_list_slice ht.isList (Heap.IsSliceOf.new _ vl vu vs) pl pu ps hne ?_ (by rw [List.size_toArray]; omega)
  rw [pick_step]
  have rs : Vals (stepL xs l u o) (stepL its l u o) := by
    unfold stepL
    rw [hlen]
    exact vals_pick r _
  refine ⟨.ref _, _, I5.laid (t' := s4.toks) (o := .lst (stepL xs l u o)) (fun b ob q => Heap.get?_push_of_some _ q) (Nat.le_refl _) ?_, rfl, q _ (I5.hok.fresh (Nat.le_refl _))⟩
  exact ⟨hz, _, 0, rs, Heap.get?_push_size _ rfl⟩
def lSlS (p : DLs) (l h s : Rho → Option (Option Int)) : DLs := fun ρ => (p ρ).bind fun ds => (l ρ).bind fun i => (h ρ).bind fun j => (s ρ).bind fun k => if k ≠ some 0 ∧ (stepL ds i j k).length ≤ sizeLine then some (stepL ds i j k) else none
theorem dl_slS {lo hi st : Option Expr} {p : DLs} {l h s : Rho → Option (Option Int)} (ha : DEl X B0 H0 e p) (hl : DO X B0 H0 lo l) (hh : DO X B0 H0 hi h) (hs : DO X B0 H0 st s) (htail : subscripted (.Slice lo hi st p2) false = fun v w => operate [v, w] (getItem v w) := by rfl) : DLn X B0 H0 (.Subscript e (.Slice lo hi st p2) pos) (lSlS p l h s) :=
  pe_imp (pe_slS ha hl hh hs (htail := htail)) fun σ H Q ⟨B, ρ, d, R, ed, k⟩ => by
    obtain ⟨ds, e1, ed⟩ := bind_some ed
    obtain ⟨i, e2, ed⟩ := bind_some ed
    obtain ⟨j, e3, ed⟩ := bind_some ed
    obtain ⟨n, e4, ed⟩ := bind_some ed
    split at ed
    · rename_i hz
      cases ed
      refine ⟨B, ρ, ds, R, e1, fun l vs B1 H1 s1 h1 q1 => ⟨B1, ρ, i, R.step s1, e2, fun B2 H2 s2 => ⟨B2, ρ, j, (R.step s1).step s2, e3, fun B3 H3 s3 => ⟨B3, ρ, n, ((R.step s1).step s2).step s3, e4, fun B4 H4 s4 => ?_⟩⟩⟩⟩
      have s := ((s1.trans s2).trans s3).trans s4
      have q4 := dps_step (dps_ex ((s2.bb.trans s3.bb).trans s4.bb) _ _ q1) i j n
      refine ⟨l, vs, rfl, Evl.ex_l ((s2.hh.trans s3.hh).trans s4.hh) h1, hz.1, by rw [dps_len q4]; exact hz.2, fun r hr => ?_⟩
      exact k r _ B4 _ (s.trans (Stp.add s.bh (.lst _) hr)) (Evl.fresh_back s.hh hr) (Evl.fresh_back s.bh hr) upd_same q4
    · cases ed
/-- a new list handed on as data -/
theorem spP_of_L {P : Program} {w : World} {K : PySem.W.Frag} {mg : Str → Option Value} {base : Heap} {k : Nat} {x : Str} {F : List PyData → Option (List PyData)} (D : Dfn P w K mg base k x (spL K F)) : Dfn P w K mg base k x (spP K fun ds => (F ds).map PyData.list) := by
  obtain ⟨f, fd, ps, FO, a, b, c⟩ := D
  refine ⟨f, fd, ps, FO.imp ?_, a, b, c⟩
  rintro vs H Q E ⟨B, ds, d, e, h1, h2, q⟩
  obtain ⟨l, h3, h4⟩ := map_some h2
  subst h4
  exact ⟨B, ds, l, e, h1, h3, fun m ws B' H' s hl bl h' q' => q (.ref m) (upd B' m (.lst ws)) H' (s.fix hl h' bl) (.lst (.of upd_same) (dps_ex (Evl.Ex.new bl) _ _ q'))⟩
/-- a tuple of texts of the module -/
theorem dp_gtup {x : Str} {f : Addr} {xs : List V} {ds : List PyData} (hg : Gl X x) (hm : X.mg x = some (.ref f)) (hs : ∀ H, SqT X.K H f xs) (hd : ∀ H, DpAll X.K H xs ds) (hdb : (x == ("__debug__" : Str)) = false := by decide) : DP X B0 H0 (.Name x pos) (cD (.tuple ds)) :=
  dp_const (v := .ref f) (pe_glob hg hm rfl hdb) fun H => .tup (hs H) (hd H)
end
end DL

set_option Elab.async false
set_option linter.all false
set_option maxRecDepth 100000
set_option maxHeartbeats 4000000
/-! what each def gives (printed by gen.py) -/
namespace K77
open PySem L2 PyProof.Rows DL
/-- is_whole(value): slots 0 value -/
abbrev d_is_whole : DSt :=
  (sRet (oAnd (o1 (fIsi "int") (vD 0)) (oNot (o1 (fIsi "bool") (vD 0)))))
def F_is_whole : List PyData → Option PyData := runP 1 1 d_is_whole
/-- is_row(value): slots 0 value 1 c -/
abbrev d_is_row : DSt :=
  (sSeq (sIf (tOr (tNot (tV (o1 (fIsi "tuple") (vD 0)))) (tB (o2 fGt (oC fLen (aCons (vD 0) aNil)) (o2 fAdd (cD (.int 2)) (cD (.int 1))))))
    (sRet (cD (.bool false)))
    sNil)
  (sSeq (sIf (tNot (tV (oC fAll (aCons (lD (lLc (iD (vD 0)) (gN 1) tYesD (oAnd (oC F_is_whole (aCons (vD 1) aNil)) (o2 fLe (oC fAbs (aCons (vD 1) aNil)) (cD (.int 1000000)))) [1])) aNil))))
    (sRet (cD (.bool false)))
    sNil)
  (sRet (oOr (oNot (vD 0)) (o2 fNe (o2 fIx (vD 0) (o1 fNeg (cD (.int 1)))) (cD (.int 0)))))))
def F_is_row : List PyData → Option PyData := runP 1 2 d_is_row
/-- is_form(value): slots 0 value 1 row -/
abbrev d_is_form : DSt :=
  (sSeq (sIf (tOr (tNot (tV (o1 (fIsi "tuple") (vD 0)))) (tOr (tB (o2 fGt (oC fLen (aCons (vD 0) aNil)) (o2 fAdd (cD (.int 2)) (cD (.int 1))))) (tNot (tV (oC fAll (aCons (lD (lLc (iD (vD 0)) (gN 1) tYesD (oC F_is_row (aCons (vD 1) aNil)) [1])) aNil))))))
    (sRet (cD (.bool false)))
    sNil)
  (sRet (oOr (oNot (vD 0)) (o2 fNe (o2 fIx (vD 0) (o1 fNeg (cD (.int 1)))) (oTup aNil)))))
def F_is_form : List PyData → Option PyData := runP 1 2 d_is_form
/-- is_plain_number(form): slots 0 form -/
abbrev d_is_plain_number : DSt :=
  (sRet (oAnd (o2 fLt (oC fLen (aCons (vD 0) aNil)) (cD (.int 2))) (oOr (oNot (vD 0)) (o2 fEq (oC fLen (aCons (o2 fIx (vD 0) (cD (.int 0))) aNil)) (cD (.int 1))))))
def F_is_plain_number : List PyData → Option PyData := runP 1 1 d_is_plain_number
/-- within(value): slots 0 value 1 form 2 relation 3 inner 4 listed -/
abbrev d_within : DSt :=
  (sSeq (sIf (tNot (tV (o1 (fIsi "tuple") (vD 0))))
    (sRet (cD .none))
    sNil)
  (sMatch (vD 0) (mcCons (mSeq 3 (meCons (mVal (.str "is")) (meCons mCap (meCons mCap meNil)))) [1, 2] (sRet (oIf (tAnd (tV (oC F_is_form (aCons (vD 1) aNil))) (tAnd (tV (o1 (fIsi "str") (vD 2))) (tB (o2 (fIn false) (vD 2) (cD (.tuple [.str "=", .str "<", .str ">", .str "<=", .str ">=", .str "!="])))))) (lD (lLst aNil)) (cD .none)))
   (mcCons (mSeq 2 (meCons (mVal (.str "not")) (meCons mCap meNil))) [3] (sRetL (lLst (aCons (vD 3) aNil)))
   (mcCons (mSeq 2 (meCons (mOr (mVal (.str "and")) (mOr (mVal (.str "or")) mNo)) (meCons mCap meNil))) [4] (sRet (oIf (tAnd (tV (o1 (fIsi "list") (vD 4))) (tB (o2 fGe (oC fLen (aCons (vD 4) aNil)) (cD (.int 2))))) (vD 4) (cD .none)))
   (mcCons mWild [] (sRet (cD .none))
   mcNil))))))
def F_within : List PyData → Option PyData := runP 1 5 d_within
/-- atoms_of(formula): slots 0 formula 1 found 2 waiting 3 told -/
abbrev d_atoms_of : DSt :=
  (sSeq (sOwn 1 (lLst aNil))
  (sSeq (sOwn 2 (lLst (aCons (vD 0) aNil)))
  (sSeq (whileGo (tV (lD (vO 2)))
    (sSeq (sPop 3 2)
    (sIf (tB (o2 fEq (o2 fIx (vD 3) (cD (.int 0))) (cD (.str "is"))))
      (sApp 1 (vD 3))
      (sExt 2 (lRev (asL (oC F_within (aCons (vD 3) aNil))))))) 4000)
  (sRetL (vO 1)))))
def F_atoms_of : List PyData → Option PyData := runP 1 4 d_atoms_of
/-- forms_of(formula): slots 0 formula 1 found 2 _ 3 form -/
abbrev d_forms_of : DSt :=
  (sSeq (sOwn 1 (lLst aNil))
  (sSeq (sFor (iD (oC F_atoms_of (aCons (vD 0) aNil))) (gT [2, 3, 2])
    (sIf (tAnd (tNot (tV (oC F_is_plain_number (aCons (vD 3) aNil)))) (tB (o2 (fIn true) (vD 3) (lD (vO 1)))))
      (sApp 1 (vD 3))
      sNil))
  (sRetL (vO 1))))
def F_forms_of : List PyData → Option (List PyData) := runL 1 4 d_forms_of
/-- uses_x(form): slots 0 form 1 row -/
abbrev d_uses_x : DSt :=
  (sRet (oC fAny (aCons (lD (lLc (iD (vD 0)) (gN 1) tYesD (o2 fGt (oC fLen (aCons (vD 1) aNil)) (cD (.int 1))) [1])) aNil)))
def F_uses_x : List PyData → Option PyData := runP 1 2 d_uses_x
/-- uses_y(form): slots 0 form -/
abbrev d_uses_y : DSt :=
  (sRet (o2 fGt (oC fLen (aCons (vD 0) aNil)) (cD (.int 1))))
def F_uses_y : List PyData → Option PyData := runP 1 1 d_uses_y
/-- is_quantifier(value): slots 0 value 1 word -/
abbrev d_is_quantifier : DSt :=
  (sSeq (sIf (tOr (tNot (tV (o1 (fIsi "tuple") (vD 0)))) (tOr (tB (o2 fNe (oC fLen (aCons (vD 0) aNil)) (cD (.int 2)))) (tNot (tV (oC fAll (aCons (lD (lLc (iD (vD 0)) (gN 1) tYesD (o1 (fIsi "str") (vD 1)) [1])) aNil))))))
    (sRet (cD (.bool false)))
    sNil)
  (sRet (oAnd (o2 (fIn false) (o2 fIx (vD 0) (cD (.int 0))) (oTup (aCons (cD (.str "some")) (aCons (cD (.str "all")) aNil)))) (o2 (fIn false) (o2 fIx (vD 0) (cD (.int 1))) (oTup (aCons (cD (.str "x")) (aCons (cD (.str "y")) aNil)))))))
def F_is_quantifier : List PyData → Option PyData := runP 1 2 d_is_quantifier
/-- are_quantifiers(value): slots 0 value 1 _ 2 unknown 3 own -/
abbrev d_are_quantifiers : DSt :=
  (sSeq (sIf (tOr (tNot (tV (o1 (fIsi "list") (vD 0)))) (tNot (tV (oC fAll (aCons (lD (lLc (iD (vD 0)) (gN 3) tYesD (oC F_is_quantifier (aCons (vD 3) aNil)) [3])) aNil)))))
    (sRet (cD (.bool false)))
    sNil)
  (sRet (o2 (fIn false) (lD (lLc (iD (vD 0)) (gT [1, 2]) tYesD (vD 2) [1, 2])) (oTup (aCons (lD (lLst (aCons (cD (.str "x")) aNil))) (aCons (lD (lLst (aCons (cD (.str "y")) aNil))) (aCons (lD (lLst (aCons (cD (.str "x")) (aCons (cD (.str "y")) aNil)))) aNil)))))))
def F_are_quantifiers : List PyData → Option PyData := runP 1 4 d_are_quantifiers
/-- formula_fault(value): slots 0 value 1 level 2 count 3 deep 4 deeper 5 told 6 parts -/
abbrev d_formula_fault : DSt :=
  (sSeq (sSet 1 (lD (lLst (aCons (vD 0) aNil))))
  (sSeq (sSet 2 (cD (.int 0)))
  (sSeq (sSet 3 (cD (.int 0)))
  (sSeq (whileGo (tV (vD 1))
    (sSeq (sOwn 4 (lLst aNil))
    (sSeq (sFor (iD (vD 1)) (gN 5)
      (sSeq (sSet 6 (oC F_within (aCons (vD 5) aNil)))
      (sSeq (sIf (tB (o2 fIsN (vD 6) (cD .none)))
        (sRet (cD (.str "form")))
        sNil)
      (sExt 4 (asL (vD 6))))))
    (sSeq (sAug 2 (oC fLen (aCons (vD 1) aNil)))
    (sSeq (sAug 3 (cD (.int 1)))
    (sSeq (sIf (tOr (tB (o2 fGt (vD 2) (cD (.int 60)))) (tB (o2 fGt (vD 3) (cD (.int 20)))))
      (sRet (cD (.str "large")))
      sNil)
    (sFrz 1 4)))))) 30)
  (sRet (cD .none))))))
def F_formula_fault : List PyData → Option PyData := runP 1 7 d_formula_fault
/-- has_free(quantifiers, forms): slots 0 quantifiers 1 forms 2 known 3 _ 4 unknown 5 form -/
abbrev d_has_free : DSt :=
  (sSeq (sSet 2 (lD (lLc (iD (vD 0)) (gT [3, 4]) tYesD (vD 4) [3, 4])))
  (sRet (oC fAny (aCons (lD (lLc (iD (vD 1)) (gN 5) tYesD (oOr (oAnd (oC F_uses_x (aCons (vD 5) aNil)) (o2 (fIn true) (cD (.str "x")) (vD 2))) (oAnd (oC F_uses_y (aCons (vD 5) aNil)) (o2 (fIn true) (cD (.str "y")) (vD 2)))) [5])) aNil))))
def F_has_free : List PyData → Option PyData := runP 2 6 d_has_free
/-- fault_of(value): slots 0 value 1 reason 2 forms -/
abbrev d_fault_of : DSt :=
  (sSeq (sIf (tOr (tNot (tV (o1 (fIsi "tuple") (vD 0)))) (tOr (tB (o2 fNe (oC fLen (aCons (vD 0) aNil)) (cD (.int 2)))) (tNot (tV (oC F_are_quantifiers (aCons (o2 fIx (vD 0) (cD (.int 0))) aNil))))))
    (sRet (cD (.str "form")))
    sNil)
  (sSeq (sSet 1 (oC F_formula_fault (aCons (o2 fIx (vD 0) (cD (.int 1))) aNil)))
  (sSeq (sIf (tB (o2 fNotN (vD 1) (cD .none)))
    (sRet (vD 1))
    sNil)
  (sSeq (sSet 2 (lD (lC F_forms_of (aCons (o2 fIx (vD 0) (cD (.int 1))) aNil))))
  (sSeq (sIf (tV (oC F_has_free (aCons (o2 fIx (vD 0) (cD (.int 0))) (aCons (vD 2) aNil))))
    (sRet (cD (.str "free")))
    sNil)
  (sRet (oIf (tB (o2 fGt (oC fLen (aCons (vD 2) aNil)) (cD (.int 2)))) (cD (.str "large")) (cD .none))))))))
def F_fault_of : List PyData → Option PyData := runP 1 3 d_fault_of
/-- is_sentence(value): slots 0 value -/
abbrev d_is_sentence : DSt :=
  (sRet (o2 fIsN (oC F_fault_of (aCons (vD 0) aNil)) (cD .none)))
def F_is_sentence : List PyData → Option PyData := runP 1 1 d_is_sentence
/-- forms_in(sentence): slots 0 sentence -/
abbrev d_forms_in : DSt :=
  (sRetL (lC F_forms_of (aCons (o2 fIx (vD 0) (cD (.int 1))) aNil)))
def F_forms_in : List PyData → Option (List PyData) := runL 1 1 d_forms_in
/-- _law_numbers(script, at, many): slots 0 script 1 at 2 many 3 cell 4 numbers 5 k 6 mixed -/
abbrev d__law_numbers : DSt :=
  (sSeq (sSet 3 (o2 fMul (cD (.int 1000003)) (o2 fAdd (vD 1) (cD (.int 1)))))
  (sSeq (sIf (tB (o2 fLt (vD 1) (oC fLen (aCons (vD 0) aNil))))
    (sSet 3 (oC fInt (aCons (o2 fIx (vD 0) (vD 1)) aNil)))
    sNil)
  (sSeq (sIf (tB (o2 fLt (vD 3) (cD (.int 0))))
    (sSet 3 (o2 fSub (cD (.int 1)) (o2 fMul (cD (.int 2)) (vD 3))))
    sNil)
  (sSeq (sOwn 4 (lLst aNil))
  (sSeq (sFor (iR1 (aCons (vD 2) aNil)) (gN 5)
    (sIf (tB (o2 fGe (vD 3) (o2 fPow (cD (.int 10)) (cD (.int 18)))))
      (sSeq (sApp 4 (o2 fMod (vD 3) (cD (.int 1009))))
      (sSet 3 (o2 fDiv (vD 3) (cD (.int 1009)))))
      (sSeq (sSet 6 (o2 fMod (o2 fAdd (o2 fAdd (o2 fMul (vD 3) (cD (.int 48271))) (o2 fMul (o2 fAdd (vD 5) (cD (.int 1))) (cD (.int 69621)))) (o2 fMul (vD 1) (cD (.int 4001)))) (cD (.int 2147483647))))
      (sSeq (sSet 6 (o2 fMod (o2 fAdd (o2 fMul (vD 6) (vD 6)) (o2 fMul (cD (.int 16807)) (o2 fAdd (vD 5) (cD (.int 3))))) (cD (.int 2147483629))))
      (sApp 4 (o2 fMod (o2 fDiv (vD 6) (cD (.int 7))) (cD (.int 1009))))))))
  (sRetL (vO 4)))))))
def F__law_numbers : List PyData → Option PyData := runP 3 7 d__law_numbers
/-- _law_is_integer(value): slots 0 value -/
abbrev d__law_is_integer : DSt :=
  (sRet (oAnd (o1 (fIsi "int") (vD 0)) (oNot (o1 (fIsi "bool") (vD 0)))))
def F__law_is_integer : List PyData → Option PyData := runP 1 1 d__law_is_integer
/-- _law_copied(value): slots 0 value 1 one -/
abbrev d__law_copied (Fs : List PyData → Option PyData) : DSt :=
  (sSeq (sIf (tV (o1 (fIsi "list") (vD 0)))
    (sRetL (lLc (iD (vD 0)) (gN 1) tYesD (oC Fs (aCons (vD 1) aNil)) [1]))
    sNil)
  (sSeq (sIf (tV (o1 (fIsi "tuple") (vD 0)))
    (sRet (oTuple (lLc (iD (vD 0)) (gN 1) tYesD (oC Fs (aCons (vD 1) aNil)) [1])))
    sNil)
  (sRet (vD 0))))
def F__law_copied : Nat → List PyData → Option PyData
  | 0 => fun _ => none
  | n + 1 => runP 1 2 (d__law_copied (F__law_copied n))
/-- _law_pop(pool): slots 0 pool -/
abbrev d__law_pop : DSt :=
  (sSeq (sIf (tB (o2 fEq (lD (vO 0)) (lD (lLst aNil))))
    (sRet (cD (.int 0)))
    sNil)
  (sRetX (xPop 0)))
def F__law_pop : List PyData → List PyData → Option (PyData × List PyData) := runO 1 1 d__law_pop
/-- _law_expand(roots): slots 0 roots 1 row 2 root 3 longer 4 k -/
abbrev d__law_expand : DSt :=
  (sSeq (sSet 1 (lD (lLst (aCons (cD (.int 1)) aNil))))
  (sSeq (sFor (iD (vD 0)) (gN 2)
    (sSeq (sOwn 3 (lCat (lLst (aCons (cD (.int 0)) aNil)) (asL (vD 1))))
    (sSeq (sFor (iR1 (aCons (oC fLen (aCons (vD 1) aNil)) aNil)) (gN 4)
      (sSetI 3 (vD 4) (o2 fSub (oIxE (vO 3) (vD 4)) (o2 fMul (vD 2) (o2 fIx (vD 1) (vD 4))))))
    (sFrz 1 3))))
  (sRet (vD 1))))
def F__law_expand : List PyData → Option PyData := runP 1 5 d__law_expand
/-- _law_grid_form(xs, ys, factor): slots 0 xs 1 ys 2 factor 3 rows 4 c 5 d -/
abbrev d__law_grid_form : DSt :=
  (sSeq (sOwn 3 (lLst aNil))
  (sSeq (sFor (iD (oC F__law_expand (aCons (vD 1) aNil))) (gN 4)
    (sApp 3 (oRep01 (oTuple (lLc (iD (oC F__law_expand (aCons (vD 0) aNil))) (gN 5) tYesD (o2 fMul (o2 fMul (vD 2) (vD 4)) (vD 5)) [5])) (oC fInt (aCons (o2 fNe (vD 4) (cD (.int 0))) aNil)))))
  (sRet (oTuple (vO 3)))))
def F__law_grid_form : List PyData → Option PyData := runP 3 6 d__law_grid_form
/-- _law_formula(pool, forms, deep): slots 0 pool 1 forms 2 deep 3 number 4 k -/
abbrev d__law_formula (Fs : List PyData → List PyData → Option (PyData × List PyData)) : DSt :=
  (sSeq (sSetX 3 (xCall 0 F__law_pop aNil))
  (sSeq (sIf (tOr (tB (o2 fEq (vD 2) (cD (.int 0)))) (tOr (tB (o2 fEq (lD (vO 0)) (lD (lLst aNil)))) (tB (o2 fLt (o2 fMod (vD 3) (cD (.int 5))) (cD (.int 2))))))
    (sRet (oTup (aCons (cD (.str "is")) (aCons (o2 fIx (vD 1) (o2 fMod (o2 fDiv (vD 3) (cD (.int 5))) (oC fLen (aCons (vD 1) aNil)))) (aCons (o2 fIx (lD (lLst (aCons (cD (.str "=")) (aCons (cD (.str "<")) (aCons (cD (.str ">")) (aCons (cD (.str "<=")) (aCons (cD (.str ">=")) (aCons (cD (.str "!=")) aNil)))))))) (o2 fMod (o2 fDiv (o2 fDiv (vD 3) (cD (.int 5))) (oC fLen (aCons (vD 1) aNil))) (cD (.int 6)))) aNil)))))
    sNil)
  (sSeq (sIf (tB (o2 fEq (o2 fMod (vD 3) (cD (.int 5))) (cD (.int 2))))
    (sRetX (xTup (xaCons (xP (cD (.str "not"))) (xaCons (xCall 0 Fs (aCons (vD 1) (aCons (o2 fSub (vD 2) (cD (.int 1))) aNil))) xaNil))))
    sNil)
  (sRetX (xTup (xaCons (xP (o2 fIx (lD (lLst (aCons (cD (.str "and")) (aCons (cD (.str "or")) aNil)))) (o2 fMod (vD 3) (cD (.int 2))))) (xaCons (xLc (iR1 (aCons (o2 fAdd (cD (.int 2)) (o2 fMod (o2 fDiv (vD 3) (cD (.int 5))) (cD (.int 2)))) aNil)) 4 (xCall 0 Fs (aCons (vD 1) (aCons (o2 fSub (vD 2) (cD (.int 1))) aNil)))) xaNil)))))))
def F__law_formula : Nat → List PyData → List PyData → Option (PyData × List PyData)
  | 0 => fun _ _ => none
  | n + 1 => runO 3 5 (d__law_formula (F__law_formula n))
/-- _law_grid(script, at, xmost, ymost): slots 0 script 1 at 2 xmost 3 ymost 4 numbers 5 xs 6 ys 7 k -/
abbrev d__law_grid : DSt :=
  (sSeq (sSet 4 (oC F__law_numbers (aCons (vD 0) (aCons (vD 1) (aCons (cD (.int 12)) aNil)))))
  (sSeq (sSet 5 (lD (lLc (iR1 (aCons (o2 fMod (o2 fIx (vD 4) (cD (.int 8))) (o2 fAdd (vD 2) (cD (.int 1)))) aNil)) (gN 7) tYesD (o2 fSub (o2 fMod (o2 fIx (vD 4) (vD 7)) (cD (.int 9))) (cD (.int 4))) [7])))
  (sSeq (sSet 6 (lD (lLc (iR1 (aCons (o2 fMod (o2 fIx (vD 4) (cD (.int 9))) (o2 fAdd (vD 3) (cD (.int 1)))) aNil)) (gN 7) tYesD (o2 fSub (o2 fMod (o2 fIx (vD 4) (o2 fAdd (cD (.int 2)) (vD 7))) (cD (.int 9))) (cD (.int 4))) [7])))
  (sSeq (sIf (tAnd (tB (o2 fEq (vD 5) (lD (lLst aNil)))) (tB (o2 fEq (vD 6) (lD (lLst aNil)))))
    (sIf (tB (o2 fGt (vD 2) (cD (.int 0))))
      (sSet 5 (lD (lLst (aCons (o2 fSub (o2 fMod (o2 fIx (vD 4) (cD (.int 4))) (cD (.int 9))) (cD (.int 4))) aNil))))
      (sSet 6 (lD (lLst (aCons (o2 fSub (o2 fMod (o2 fIx (vD 4) (cD (.int 4))) (cD (.int 9))) (cD (.int 4))) aNil)))))
    sNil)
  (sRet (oTup (aCons (vD 5) (aCons (vD 6) (aCons (o2 fIx (lD (lLst (aCons (cD (.int 1)) (aCons (o1 fNeg (cD (.int 1))) (aCons (cD (.int 2)) (aCons (o1 fNeg (cD (.int 3))) aNil)))))) (o2 fMod (o2 fIx (vD 4) (cD (.int 5))) (cD (.int 4)))) aNil)))))))))
def F__law_grid : List PyData → Option PyData := runP 4 8 d__law_grid
/-- _law_refusal: the fault told, or the empty text -/
def F__law_refusal : List PyData → Option PyData := fun ds => (F_fault_of ds).bind fun r => match r with
  | .none => some (.str "")
  | .str x => some (.str x)
  | _ => none
/-- _law_is_form(value): slots 0 value 1 row 2 c -/
abbrev d__law_is_form : DSt :=
  (sSeq (sIf (tOr (tNot (tV (o1 (fIsi "tuple") (vD 0)))) (tOr (tB (o2 fGt (oC fLen (aCons (vD 0) aNil)) (cD (.int 3)))) (tAnd (tB (o2 fNe (vD 0) (oTup aNil))) (tB (o2 fEq (o2 fIx (vD 0) (o1 fNeg (cD (.int 1)))) (oTup aNil))))))
    (sRet (cD (.bool false)))
    sNil)
  (sSeq (sFor (iD (vD 0)) (gN 1)
    (sIf (tOr (tNot (tV (o1 (fIsi "tuple") (vD 1)))) (tOr (tB (o2 fGt (oC fLen (aCons (vD 1) aNil)) (cD (.int 3)))) (tOr (tB (o2 fNe (lD (lLc (iD (vD 1)) (gN 2) (tOr (tNot (tV (oC F__law_is_integer (aCons (vD 2) aNil)))) (tB (o2 fGt (oC fAbs (aCons (vD 2) aNil)) (cD (.int 1000000))))) (vD 2) [2])) (lD (lLst aNil)))) (tAnd (tB (o2 fNe (vD 1) (oTup aNil))) (tB (o2 fEq (o2 fIx (vD 1) (o1 fNeg (cD (.int 1)))) (cD (.int 0))))))))
      (sRet (cD (.bool false)))
      sNil))
  (sRet (cD (.bool true)))))
def F__law_is_form : List PyData → Option PyData := runP 1 3 d__law_is_form
/-- _law_within(value): slots 0 value -/
abbrev d__law_within : DSt :=
  (sSeq (sIf (tOr (tNot (tV (o1 (fIsi "tuple") (vD 0)))) (tOr (tNot (tB (o3 fLe fLe (cD (.int 2)) (oC fLen (aCons (vD 0) aNil)) (cD (.int 3))))) (tNot (tV (o1 (fIsi "str") (o2 fIx (vD 0) (cD (.int 0))))))))
    (sRet (cD .none))
    sNil)
  (sSeq (sIf (tAnd (tB (o2 fEq (o2 fIx (vD 0) (cD (.int 0))) (cD (.str "is")))) (tAnd (tB (o2 fEq (oC fLen (aCons (vD 0) aNil)) (cD (.int 3)))) (tAnd (tV (oC F__law_is_form (aCons (o2 fIx (vD 0) (cD (.int 1))) aNil))) (tV (o1 (fIsi "str") (o2 fIx (vD 0) (cD (.int 2))))))))
    (sRet (o2 fIx (lD (lLst (aCons (lD (lLst aNil)) (aCons (cD .none) aNil)))) (oC fInt (aCons (o2 (fIn true) (o2 fIx (vD 0) (cD (.int 2))) (lD (lLst (aCons (cD (.str "=")) (aCons (cD (.str "<")) (aCons (cD (.str ">")) (aCons (cD (.str "<=")) (aCons (cD (.str ">=")) (aCons (cD (.str "!=")) aNil))))))))) aNil))))
    sNil)
  (sSeq (sIf (tAnd (tB (o2 fEq (o2 fIx (vD 0) (cD (.int 0))) (cD (.str "not")))) (tB (o2 fEq (oC fLen (aCons (vD 0) aNil)) (cD (.int 2)))))
    (sRetL (lLst (aCons (o2 fIx (vD 0) (cD (.int 1))) aNil)))
    sNil)
  (sSeq (sIf (tAnd (tB (o2 (fIn false) (o2 fIx (vD 0) (cD (.int 0))) (oTup (aCons (cD (.str "and")) (aCons (cD (.str "or")) aNil))))) (tAnd (tB (o2 fEq (oC fLen (aCons (vD 0) aNil)) (cD (.int 2)))) (tAnd (tV (o1 (fIsi "list") (o2 fIx (vD 0) (cD (.int 1))))) (tB (o2 fGt (oC fLen (aCons (o2 fIx (vD 0) (cD (.int 1))) aNil)) (cD (.int 1)))))))
    (sRet (o2 fIx (vD 0) (cD (.int 1))))
    sNil)
  (sRet (cD .none))))))
def F__law_within : List PyData → Option PyData := runP 1 1 d__law_within
/-- _law_listed(formula): slots 0 formula 1 found 2 one -/
abbrev d__law_listed (Fs : List PyData → Option PyData) : DSt :=
  (sSeq (sIf (tB (o2 fEq (o2 fIx (vD 0) (cD (.int 0))) (cD (.str "is"))))
    (sRetL (lLst (aCons (o2 fIx (vD 0) (cD (.int 1))) aNil)))
    sNil)
  (sSeq (sSet 1 (lD (lLst aNil)))
  (sSeq (sFor (iD (oC F__law_within (aCons (vD 0) aNil))) (gN 2)
    (sSet 1 (lD (lCat (asL (vD 1)) (asL (oC Fs (aCons (vD 2) aNil)))))))
  (sRet (vD 1)))))
def F__law_listed : Nat → List PyData → Option PyData
  | 0 => fun _ => none
  | n + 1 => runP 1 3 (d__law_listed (F__law_listed n))
/-- _law_forms(formula): slots 0 formula 1 found 2 form -/
abbrev d__law_forms : DSt :=
  (sSeq (sOwn 1 (lLst aNil))
  (sSeq (sFor (iD (oC (F__law_listed 40) (aCons (vD 0) aNil))) (gN 2)
    (sIf (tAnd (tB (o2 (fIn true) (vD 2) (lD (vO 1)))) (tOr (tB (o2 fGt (oC fLen (aCons (vD 2) aNil)) (cD (.int 1)))) (tAnd (tB (o2 fNe (vD 2) (oTup aNil))) (tB (o2 fGt (oC fLen (aCons (o2 fIx (vD 2) (cD (.int 0))) aNil)) (cD (.int 1)))))))
      (sApp 1 (vD 2))
      sNil))
  (sRetL (vO 1))))
def F__law_forms : List PyData → Option PyData := runP 1 3 d__law_forms
/-- _law_due(value): slots 0 value 1 whole 2 first 3 level 4 count 5 deep 6 longer 7 one 8 parts 9 forms 10 known 11 form 12 pair 13 row -/
abbrev d__law_due : DSt :=
  (sSeq (sIf (tOr (tNot (tV (o1 (fIsi "tuple") (vD 0)))) (tOr (tB (o2 fNe (oC fLen (aCons (vD 0) aNil)) (cD (.int 2)))) (tNot (tV (o1 (fIsi "list") (o2 fIx (vD 0) (cD (.int 0))))))))
    (sRet (cD (.str "form")))
    sNil)
  (sSeq (sSet 1 (lD (lLst aNil)))
  (sSeq (sFor (iD (lD (lLst (aCons (cD (.str "some")) (aCons (cD (.str "all")) aNil))))) (gN 2)
    (sSet 1 (lD (lCat (asL (vD 1)) (lLst (aCons (lD (lLst (aCons (oTup (aCons (vD 2) (aCons (cD (.str "x")) aNil))) aNil))) (aCons (lD (lLst (aCons (oTup (aCons (vD 2) (aCons (cD (.str "y")) aNil))) aNil))) (aCons (lD (lLst (aCons (oTup (aCons (vD 2) (aCons (cD (.str "x")) aNil))) (aCons (oTup (aCons (cD (.str "some")) (aCons (cD (.str "y")) aNil))) aNil)))) (aCons (lD (lLst (aCons (oTup (aCons (vD 2) (aCons (cD (.str "x")) aNil))) (aCons (oTup (aCons (cD (.str "all")) (aCons (cD (.str "y")) aNil))) aNil)))) aNil)))))))))
  (sSeq (sIf (tB (o2 (fIn true) (o2 fIx (vD 0) (cD (.int 0))) (vD 1)))
    (sRet (cD (.str "form")))
    sNil)
  (sSeq (sSet 3 (lD (lLst (aCons (o2 fIx (vD 0) (cD (.int 1))) aNil))))
  (sSeq (sSet 4 (cD (.int 0)))
  (sSeq (sFor (iR1 (aCons (cD (.int 22)) aNil)) (gN 5)
    (sSeq (sSet 6 (lD (lLst aNil)))
    (sSeq (sFor (iD (vD 3)) (gN 7)
      (sSeq (sSet 8 (oC F__law_within (aCons (vD 7) aNil)))
      (sSeq (sIf (tB (o2 fIsN (vD 8) (cD .none)))
        (sRet (cD (.str "form")))
        sNil)
      (sSet 6 (lD (lCat (asL (vD 6)) (asL (vD 8))))))))
    (sSeq (sSet 4 (o2 fAdd (vD 4) (oC fLen (aCons (vD 3) aNil))))
    (sSeq (sIf (tAnd (tB (o2 fNe (vD 3) (lD (lLst aNil)))) (tOr (tB (o2 fGt (vD 4) (cD (.int 60)))) (tB (o2 fEq (vD 5) (cD (.int 20))))))
      (sRet (cD (.str "large")))
      sNil)
    (sSet 3 (vD 6)))))))
  (sSeq (sSet 9 (oC F__law_forms (aCons (o2 fIx (vD 0) (cD (.int 1))) aNil)))
  (sSeq (sSet 10 (lD (lLc (iD (o2 fIx (vD 0) (cD (.int 0)))) (gN 12) tYesD (o2 fIx (vD 12) (cD (.int 1))) [12])))
  (sSeq (sFor (iD (vD 9)) (gN 11)
    (sIf (tOr (tAnd (tB (o2 fGt (oC fLen (aCons (vD 11) aNil)) (cD (.int 1)))) (tB (o2 (fIn true) (cD (.str "y")) (vD 10)))) (tAnd (tB (o2 fNe (lD (lLc (iD (vD 11)) (gN 13) (tB (o2 fGt (oC fLen (aCons (vD 13) aNil)) (cD (.int 1)))) (vD 13) [13])) (lD (lLst aNil)))) (tB (o2 (fIn true) (cD (.str "x")) (vD 10)))))
      (sRet (cD (.str "free")))
      sNil))
  (sRet (o2 fIx (lD (lLst (aCons (cD (.str "")) (aCons (cD (.str "large")) aNil)))) (oC fInt (aCons (o2 fGt (oC fLen (aCons (vD 9) aNil)) (cD (.int 2))) aNil))))))))))))))
def F__law_due : List PyData → Option PyData := runP 1 14 d__law_due
/-- _law_bent(formula, numbers): slots 0 formula 1 numbers 2 found 3 parts 4 k 5 one -/
abbrev d__law_bent (Fs : List PyData → Option PyData) : DSt :=
  (sSeq (sOwn 2 (lLst (aCons (cD .none) (aCons (cD (.str "a")) (aCons (oTup aNil) (aCons (lD (lLst (aCons (vD 0) aNil))) (aCons (lD (lList (vD 0))) (aCons (oCatT (vD 0) (oTup (aCons (cD (.int 0)) aNil))) (aCons (oSlT (vD 0) nPart (nSome (o1 fNeg (cD (.int 1))))) (aCons (oCatT (oTup (aCons (cD (.str "nor")) aNil)) (oSlT (vD 0) (nSome (cD (.int 1))) nPart)) (aCons (oCatT (oTup (aCons (cD .none) aNil)) (oSlT (vD 0) (nSome (cD (.int 1))) nPart)) (aCons (oTup (aCons (cD (.str "not")) (aCons (vD 0) aNil))) (aCons (oTup (aCons (cD (.str "and")) (aCons (lD (lLst (aCons (vD 0) aNil))) aNil))) (aCons (oTup (aCons (cD (.str "or")) (aCons (oTup (aCons (vD 0) (aCons (vD 0) aNil))) aNil))) aNil))))))))))))))
  (sSeq (sOwn 2 (lCat (vO 2) (lLst (aCons (oTup (aCons (cD (.str "is")) (aCons (oTup (aCons (oTup (aCons (cD (.int 0)) (aCons (cD (.int 1)) aNil))) aNil)) (aCons (cD (.str "==")) aNil)))) (aCons (oTup (aCons (cD (.str "is")) (aCons (oTup (aCons (oTup (aCons (cD (.int 0)) (aCons (cD (.int 1)) aNil))) aNil)) (aCons (cD .none) aNil)))) (aCons (oTup (aCons (cD (.str "is")) (aCons (oTup (aCons (oTup (aCons (cD (.int 0)) (aCons (cD (.int 0)) aNil))) aNil)) (aCons (cD (.str "=")) aNil)))) (aCons (oTup (aCons (cD (.str "is")) (aCons (oTup (aCons (oTup (aCons (oTup (aCons (cD (.int 0)) (aCons (cD (.int 1)) aNil))) aNil)) aNil)) (aCons (cD (.str "=")) aNil)))) (aCons (oTup (aCons (cD (.str "is")) (aCons (lD (lLst (aCons (oTup (aCons (cD (.int 0)) (aCons (cD (.int 1)) aNil))) aNil))) (aCons (cD (.str "=")) aNil)))) (aCons (oTup (aCons (cD (.str "is")) (aCons (oTup (aCons (oTup (aCons (cD (.int 0)) (aCons (cD (.int 0)) (aCons (cD (.int 0)) (aCons (cD (.int 1)) aNil))))) aNil)) (aCons (cD (.str "=")) aNil)))) aNil)))))))))
  (sSeq (sOwn 2 (lCat (vO 2) (lLst (aCons (oTup (aCons (cD (.str "is")) (aCons (oTup (aCons (oTup (aCons (cD (.int 1000001)) aNil)) aNil)) (aCons (cD (.str "=")) aNil)))) aNil))))
  (sSeq (sOwn 2 (lCat (vO 2) (lLst (aCons (oTup (aCons (cD (.str "is")) (aCons (oTup (aCons (oTup aNil) (aCons (oTup aNil) (aCons (oTup (aCons (cD (.int 1)) aNil)) aNil)))) (aCons (cD (.str "<")) aNil)))) (aCons (oTup (aCons (cD (.str "is")) (aCons (oTup (aCons (oTup (aCons (cD (.int 5)) aNil)) aNil)) (aCons (cD (.str ">=")) aNil)))) (aCons (oTup (aCons (cD (.str "is")) (aCons (oTup aNil) (aCons (cD (.str "=")) aNil)))) (aCons (oTup (aCons (cD (.str "and")) (aCons (lD (lLst (aCons (vD 0) (aCons (cD .none) aNil)))) aNil))) (aCons (oTup (aCons (cD (.str "or")) (aCons (lD (lLst (aCons (vD 0) (aCons (vD 0) (aCons (oTup (aCons (cD (.str "is")) (aCons (oTup (aCons (oTup (aCons (cD (.int 7)) (aCons (cD (.int 1)) aNil))) aNil)) (aCons (cD (.str "<")) aNil)))) aNil))))) aNil))) aNil))))))))
  (sSeq (sIf (tB (o2 fNe (o2 fIx (vD 0) (cD (.int 0))) (cD (.str "is"))))
    (sSeq (sSet 3 (oC F__law_within (aCons (vD 0) aNil)))
    (sSeq (sSet 4 (o2 fMod (o2 fIx (vD 1) (cD (.int 0))) (oC fLen (aCons (vD 3) aNil))))
    (sFor (iD (lD (lSlS (asL (oC Fs (aCons (o2 fIx (vD 3) (vD 4)) (aCons (lD (lSl (asL (vD 1)) (nSome (cD (.int 1))) nPart)) aNil)))) (nSome (o2 fMod (o2 fIx (vD 1) (cD (.int 0))) (cD (.int 3)))) nPart (nSome (cD (.int 4)))))) (gN 5)
      (sApp 2 (o2 fIx (lD (lLst (aCons (oTup (aCons (o2 fIx (vD 0) (cD (.int 0))) (aCons (lD (lCat (lCat (lSl (asL (vD 3)) nPart (nSome (vD 4))) (lLst (aCons (vD 5) aNil))) (lSl (asL (vD 3)) (nSome (o2 fAdd (vD 4) (cD (.int 1)))) nPart))) aNil))) (aCons (oTup (aCons (cD (.str "not")) (aCons (vD 5) aNil))) aNil)))) (oC fInt (aCons (o2 fEq (o2 fIx (vD 0) (cD (.int 0))) (cD (.str "not"))) aNil)))))))
    sNil)
  (sRetL (vO 2)))))))
def F__law_bent : Nat → List PyData → Option PyData
  | 0 => fun _ => none
  | n + 1 => runP 2 6 (d__law_bent (F__law_bent n))
/-- law(script): slots 0 script 1 numbers 2 owns 3 forms 4 formula 5 both 6 values 7 odd 8 one 9 atom 10 count 11 deep 12 turn 13 value 14 due 15 told 16 listed 17 own -/
abbrev d_law : DSt :=
  (sSeq (sSet 1 (oC F__law_numbers (aCons (vD 0) (aCons (cD (.int 0)) (aCons (cD (.int 20)) aNil)))))
  (sSeq (sSet 2 (lD (lLst (aCons (oC F__law_grid (aCons (vD 0) (aCons (cD (.int 1)) (aCons (cD (.int 2)) (aCons (cD (.int 2)) aNil))))) (aCons (oC F__law_grid (aCons (vD 0) (aCons (cD (.int 2)) (aCons (cD (.int 2)) (aCons (cD (.int 2)) aNil))))) aNil)))))
  (sSeq (sSet 3 (lD (lSl (lLc (iD (vD 2)) (gN 17) tYesD (oC F__law_grid_form (aCons (o2 fIx (vD 17) (cD (.int 0))) (aCons (o2 fIx (vD 17) (cD (.int 1))) (aCons (o2 fIx (vD 17) (cD (.int 2))) aNil)))) [17]) nPart (nSome (o2 fAdd (cD (.int 1)) (o2 fMod (o2 fIx (vD 1) (cD (.int 0))) (cD (.int 2))))))))
  (sSeq (sSet 4 (oCallT (F__law_formula 10) (lRev (asL (oC F__law_numbers (aCons (vD 0) (aCons (cD (.int 3)) (aCons (cD (.int 14)) aNil)))))) (aCons (vD 3) (aCons (cD (.int 5)) aNil))))
  (sSeq (sSet 5 (lD (lLst (aCons (oTup (aCons (o2 fIx (lD (lLst (aCons (cD (.str "some")) (aCons (cD (.str "all")) aNil)))) (o2 fMod (o2 fIx (vD 1) (cD (.int 1))) (cD (.int 2)))) (aCons (cD (.str "x")) aNil))) (aCons (oTup (aCons (o2 fIx (lD (lLst (aCons (cD (.str "some")) (aCons (cD (.str "all")) aNil)))) (o2 fMod (o2 fIx (vD 1) (cD (.int 2))) (cD (.int 2)))) (aCons (cD (.str "y")) aNil))) aNil)))))
  (sSeq (sOwn 6 (lLst (aCons (oTup (aCons (vD 5) (aCons (vD 4) aNil))) (aCons (oTup (aCons (lD (lSl (asL (vD 5)) nPart (nSome (cD (.int 1))))) (aCons (vD 4) aNil))) (aCons (oTup (aCons (lD (lSl (asL (vD 5)) (nSome (cD (.int 1))) nPart)) (aCons (vD 4) aNil))) (aCons (oTup (aCons (lD (lRev (asL (vD 5)))) (aCons (vD 4) aNil))) (aCons (oTup (aCons (lD (lCat (asL (vD 5)) (lSl (asL (vD 5)) (nSome (cD (.int 1))) nPart))) (aCons (vD 4) aNil))) (aCons (oTup (aCons (lD (lLst aNil)) (aCons (vD 4) aNil))) (aCons (oTup (aCons (oTuple (asL (vD 5))) (aCons (vD 4) aNil))) aNil)))))))))
  (sSeq (sOwn 6 (lCat (vO 6) (lLst (aCons (lD (lLst (aCons (vD 5) (aCons (vD 4) aNil)))) (aCons (oTup (aCons (vD 5) (aCons (vD 4) (aCons (cD (.int 0)) aNil)))) (aCons (oTup (aCons (vD 5) aNil)) (aCons (cD .none) (aCons (cD (.str "a")) aNil))))))))
  (sSeq (sFor (iD (lD (lLst (aCons (cD .none) (aCons (oTup (aCons (cD (.str "any")) (aCons (cD (.str "x")) aNil))) (aCons (oTup (aCons (cD (.str "some")) (aCons (cD (.str "z")) aNil))) (aCons (lD (lLst (aCons (cD (.str "some")) (aCons (cD (.str "x")) aNil)))) (aCons (oTup (aCons (cD (.str "some")) (aCons (cD (.str "x")) (aCons (cD (.int 0)) aNil)))) (aCons (oTup (aCons (cD (.str "some")) (aCons (cD .none) aNil))) (aCons (oTup (aCons (cD .none) (aCons (cD (.str "x")) aNil))) aNil)))))))))) (gN 7)
    (sApp 6 (oTup (aCons (lD (lCat (lLst (aCons (vD 7) aNil)) (lSl (asL (vD 5)) (nSome (cD (.int 1))) nPart))) (aCons (vD 4) aNil)))))
  (sSeq (sFor (iD (oC (F__law_bent 20) (aCons (vD 4) (aCons (vD 1) aNil)))) (gN 8)
    (sApp 6 (oTup (aCons (vD 5) (aCons (vD 8) aNil)))))
  (sSeq (sSet 9 (oTup (aCons (cD (.str "is")) (aCons (o2 fIx (vD 3) (cD (.int 0))) (aCons (cD (.str "<")) aNil)))))
  (sSeq (sFor (iD (lD (lLst (aCons (cD (.int 19)) (aCons (cD (.int 20)) (aCons (cD (.int 30)) aNil)))))) (gN 10)
    (sSeq (sSet 11 (vD 9))
    (sSeq (sFor (iR1 (aCons (vD 10) aNil)) (gN 12)
      (sSet 11 (o2 fIx (lD (lLst (aCons (oTup (aCons (cD (.str "not")) (aCons (vD 11) aNil))) (aCons (oTup (aCons (cD (.str "and")) (aCons (lD (lLst (aCons (vD 11) (aCons (vD 9) aNil)))) aNil))) (aCons (oTup (aCons (cD (.str "or")) (aCons (lD (lLst (aCons (vD 9) (aCons (vD 11) aNil)))) aNil))) aNil))))) (o2 fMod (o2 fIx (vD 1) (o2 fAdd (cD (.int 4)) (o2 fMod (vD 12) (cD (.int 9))))) (cD (.int 3))))))
    (sApp 6 (oTup (aCons (vD 5) (aCons (vD 11) aNil)))))))
  (sSeq (sOwn 6 (lCat (vO 6) (lLst (aCons (oTup (aCons (vD 5) (aCons (oTup (aCons (cD (.str "and")) (aCons (lD (lRep (lLst (aCons (vD 9) aNil)) (cD (.int 59)))) aNil))) aNil))) (aCons (oTup (aCons (vD 5) (aCons (oTup (aCons (cD (.str "or")) (aCons (lD (lRep (lLst (aCons (vD 9) aNil)) (cD (.int 60)))) aNil))) aNil))) (aCons (oTup (aCons (vD 5) (aCons (oTup (aCons (cD (.str "and")) (aCons (lD (lCat (lRep (lLst (aCons (vD 9) aNil)) (cD (.int 60))) (lLst (aCons (cD .none) aNil)))) aNil))) aNil))) (aCons (oTup (aCons (vD 5) (aCons (oTup (aCons (cD (.str "or")) (aCons (lD (lCat (lRep (lLst (aCons (vD 9) aNil)) (cD (.int 20))) (lRep (lLst (aCons (oTup (aCons (cD (.str "not")) (aCons (cD .none) aNil))) aNil)) (cD (.int 41))))) aNil))) aNil))) aNil)))))))
  (sSeq (sOwn 6 (lCat (vO 6) (lLst (aCons (oTup (aCons (vD 5) (aCons (oTup (aCons (cD (.str "and")) (aCons (lD (lCat (lRep (lLst (aCons (oTup (aCons (cD (.str "not")) (aCons (oTup (aCons (cD (.str "is")) (aCons (oTup (aCons (oTup aNil) (aCons (oTup (aCons (cD (.int 0)) (aCons (cD (.int 1)) aNil))) aNil))) (aCons (cD (.str "=")) aNil)))) aNil))) aNil)) (cD (.int 29))) (lLst (aCons (oTup (aCons (cD (.str "is")) (aCons (oTup (aCons (oTup (aCons (cD (.int 1)) (aCons (cD (.int 1)) aNil))) aNil)) (aCons (cD (.str ">")) aNil)))) aNil)))) aNil))) aNil))) aNil))))
  (sSeq (sForO 6 (gN 13)
    (sSeq (sSet 14 (oC F__law_due (aCons (vD 13) aNil)))
    (sSeq (sSet 15 (oC F_is_sentence (aCons (oC (F__law_copied 80) (aCons (vD 13) aNil)) aNil)))
    (sSeq (sIf (tOr (tB (o2 fNe (oC F__law_refusal (aCons (oC (F__law_copied 80) (aCons (vD 13) aNil)) aNil)) (vD 14))) (tOr (tNot (tV (o1 (fIsi "bool") (vD 15)))) (tB (o2 fNe (vD 15) (o2 fEq (vD 14) (cD (.str "")))))))
      (sRet (cD (.bool false)))
      sNil)
    (sIf (tB (o2 fEq (vD 14) (cD (.str ""))))
      (sSeq (sOwn 16 (lC F_forms_in (aCons (vD 13) aNil)))
      (sSeq (sIf (tB (o2 fNe (lD (vO 16)) (oC F__law_forms (aCons (o2 fIx (vD 13) (cD (.int 1))) aNil))))
        (sRet (cD (.bool false)))
        sNil)
      (sApp 16 (cD .none))))
      sNil)))))
  (sRet (cD (.bool true)))))))))))))))))
def F_law : List PyData → Option PyData := runP 1 18 d_law
end K77

set_option Elab.async false
set_option linter.all false
set_option maxRecDepth 100000
set_option maxHeartbeats 4000000
/-! M1: plain laws: data of bounded shape; rows, forms, parts. -/
namespace K77
open PySem L2 DL
inductive Fine : Nat → PyData → Prop where
  | non {n : Nat} : Fine n .none
  | bl {n : Nat} (b : Bool) : Fine n (.bool b)
  | int {n : Nat} (i : Int) : Fine n (.int i)
  | str {n : Nat} {s : Str} (h : PyData.strOk s = true) (hl : s.length ≤ 1000) : Fine n (.str s)
  | lst {n : Nat} {ds : List PyData} (h : ds.length ≤ 100) (a : ∀ d ∈ ds, Fine n d) : Fine (n + 1) (.list ds)
  | tup {n : Nat} {ds : List PyData} (h : ds.length ≤ 100) (a : ∀ d ∈ ds, Fine n d) : Fine (n + 1) (.tuple ds)
theorem Fine.mono {n m : Nat} {d : PyData} (h : Fine n d) : n ≤ m → Fine m d := by
  intro hm
  induction h generalizing m with
  | non => exact .non
  | bl b => exact .bl b
  | int i => exact .int i
  | str h hl => exact .str h hl
  | lst h a ih =>
    cases m with
    | zero => omega
    | succ m => exact .lst h fun d hd => ih d hd (by omega)
  | tup h a ih =>
    cases m with
    | zero => omega
    | succ m => exact .tup h fun d hd => ih d hd (by omega)
theorem depthAll_le {n : Nat} : ∀ {ds : List PyData}, (∀ d ∈ ds, d.depth ≤ n) → PyData.depthAll ds ≤ n
  | [], _ => by simp [PyData.depthAll]
  | d :: ds, h => by
    rw [PyData.depthAll]
    exact Nat.max_le.mpr ⟨h d (List.mem_cons_self ..), depthAll_le fun x hx => h x (List.mem_cons_of_mem _ hx)⟩
theorem canAll {ds : List PyData} (h : ∀ d ∈ ds, d.canLay0 = true) : PyData.canLayAll0 ds = true := by
  induction ds with
  | nil => rfl
  | cons d ds ih =>
    rw [PyData.canLayAll0, h d (List.mem_cons_self ..), ih fun x hx => h x (List.mem_cons_of_mem _ hx)]
    rfl
theorem Fine.depth {n : Nat} {d : PyData} (h : Fine n d) : d.depth ≤ n := by
  induction h with
  | lst h a ih => rw [PyData.depth]; exact Nat.succ_le_succ (depthAll_le ih)
  | tup h a ih => rw [PyData.depth]; exact Nat.succ_le_succ (depthAll_le ih)
  | _ => simp [PyData.depth]
theorem Fine.can {n : Nat} {d : PyData} (h : Fine n d) : d.canLay0 = true := by
  induction h with
  | str h hl => rw [PyData.canLay0]; exact h
  | lst h a ih => rw [PyData.canLay0]; exact canAll ih
  | tup h a ih => rw [PyData.canLay0]; exact canAll ih
  | _ => simp [PyData.canLay0]
theorem Fine.shaped {n : Nat} {d : PyData} (h : Fine n d) (hn : n ≤ 64) : SeqAt.shaped d = true := by
  unfold SeqAt.shaped
  rw [h.can, decide_eq_true (Nat.le_trans h.depth hn)]
  rfl
theorem shapedL {n : Nat} {ds : List PyData} (h : ∀ d ∈ ds, Fine n d) (hn : n + 1 ≤ 64) : SeqAt.shaped (.list ds) = true := by
  unfold SeqAt.shaped
  rw [PyData.canLay0, PyData.depth, canAll fun d hd => (h d hd).can, decide_eq_true (Nat.le_trans (Nat.succ_le_succ (depthAll_le fun d hd => (h d hd).depth)) hn)]
  rfl
theorem shapedT {n : Nat} {ds : List PyData} (h : ∀ d ∈ ds, Fine n d) (hn : n + 1 ≤ 64) : SeqAt.shaped (.tuple ds) = true := by
  unfold SeqAt.shaped
  rw [PyData.canLay0, PyData.depth, canAll fun d hd => (h d hd).can, decide_eq_true (Nat.le_trans (Nat.succ_le_succ (depthAll_le fun d hd => (h d hd).depth)) hn)]
  rfl
theorem shaped_str {s : Str} (h : PyData.strOk s = true) : SeqAt.shaped (.str s) = true := by
  unfold SeqAt.shaped
  rw [PyData.canLay0, h, PyData.depth]
  rfl
theorem shaped_int (i : Int) : SeqAt.shaped (.int i) = true := by simp [SeqAt.shaped, PyData.canLay0, PyData.depth]
theorem shaped_nil : SeqAt.shaped (.list []) = true := by simp [SeqAt.shaped, PyData.canLay0, PyData.depth, PyData.canLayAll0, PyData.depthAll]
theorem shaped_tnil : SeqAt.shaped (.tuple []) = true := by simp [SeqAt.shaped, PyData.canLay0, PyData.depth, PyData.canLayAll0, PyData.depthAll]
theorem fEq_of {x y : PyData} (hx : SeqAt.shaped x = true) (hy : SeqAt.shaped y = true) : fEq x y = some (.bool (PyData.eqv x y)) := by
  unfold fEq ok2
  rw [hx, hy]
  rfl
theorem fNe_of {x y : PyData} (hx : SeqAt.shaped x = true) (hy : SeqAt.shaped y = true) : fNe x y = some (.bool (!PyData.eqv x y)) := by
  unfold fNe ok2
  rw [hx, hy]
  rfl
theorem fInL {x : PyData} {ds : List PyData} (neg : Bool) (hx : SeqAt.shaped x = true) (hy : SeqAt.shaped (.list ds) = true) : fIn neg x (.list ds) = some (.bool (if neg then !isIn x ds else isIn x ds)) := by
  unfold fIn ok2
  rw [hx, hy]
  rfl
theorem fInT {x : PyData} {ds : List PyData} (neg : Bool) (hx : SeqAt.shaped x = true) (hy : SeqAt.shaped (.tuple ds) = true) : fIn neg x (.tuple ds) = some (.bool (if neg then !isIn x ds else isIn x ds)) := by
  unfold fIn ok2
  rw [hx, hy]
  rfl
theorem eqv_str (d : PyData) (s : Str) : PyData.eqv d (.str s) = true ↔ d = .str s := by
  cases d <;> simp [PyData.eqv]
theorem eqv_str' (d : PyData) (s : Str) : PyData.eqv (.str s) d = true ↔ d = .str s := by
  cases d with
  | str x =>
    rw [PyData.eqv, beq_iff_eq]
    exact ⟨fun h => by rw [h], fun h => by cases h; rfl⟩
  | _ => simp [PyData.eqv]
theorem eqv_tnil (d : PyData) : PyData.eqv d (.tuple []) = true ↔ d = .tuple [] := by
  cases d with
  | tuple ds => cases ds <;> simp [PyData.eqv, PyData.eqvAll]
  | _ => simp [PyData.eqv]
theorem eqv_nil (d : PyData) : PyData.eqv d (.list []) = true ↔ d = .list [] := by
  cases d with
  | list ds => cases ds <;> simp [PyData.eqv, PyData.eqvAll]
  | _ => simp [PyData.eqv]

/-! ### comprehensions -/
theorem lcGo_map {i : Nat} {p : DE} {ρ : Rho} {f : PyData → PyData} : ∀ {ds : List PyData}, (∀ d ∈ ds, p (ρ.set i (some (.dat d))) = some (f d)) → lcGo (gN i) tYesD p ρ ds = some (ds.map f)
  | [], _ => rfl
  | d :: ds, h => by
    have e := h d (List.mem_cons_self ..)
    show (p (ρ.set i (some (.dat d)))).bind _ = _
    rw [e, lcGo_map fun x hx => h x (List.mem_cons_of_mem _ hx)]
    rfl
theorem lcGo_filter {i : Nat} {t : Rho → Option Bool} {p : DE} {ρ : Rho} {f : PyData → PyData} {b : PyData → Bool} : ∀ {ds : List PyData}, (∀ d ∈ ds, t (ρ.set i (some (.dat d))) = some (b d)) → (∀ d ∈ ds, b d = true → p (ρ.set i (some (.dat d))) = some (f d)) → lcGo (gN i) t p ρ ds = some ((ds.filter b).map f)
  | [], _, _ => rfl
  | d :: ds, h, k => by
    have e := h d (List.mem_cons_self ..)
    have e2 := lcGo_filter (fun x hx => h x (List.mem_cons_of_mem _ hx)) (fun x hx => k x (List.mem_cons_of_mem _ hx))
    show (t (ρ.set i (some (.dat d)))).bind _ = _
    rw [e]
    cases hb : b d with
    | true =>
      have e3 := k d (List.mem_cons_self ..) hb
      show (p (ρ.set i (some (.dat d)))).bind _ = _
      rw [e3, e2, List.filter_cons, if_pos hb]
      rfl
    | false =>
      show lcGo (gN i) t p ρ ds = _
      rw [e2, List.filter_cons, if_neg (by rw [hb]; exact Bool.false_ne_true)]
theorem asBs_map {f : PyData → Bool} : ∀ ds : List PyData, asBs (ds.map fun d => .bool (f d)) = some (ds.map f)
  | [] => rfl
  | d :: ds => by
    show (some (f d)).bind _ = _
    have e := asBs_map (f := f) ds
    show (asBs (ds.map fun d => .bool (f d))).map _ = _
    rw [e]
    rfl
theorem fAll_map {f : PyData → Bool} (ds : List PyData) : fAll [.list (ds.map fun d => .bool (f d))] = some (.bool (ds.all f)) := by
  show (asBs (ds.map fun d => .bool (f d))).map _ = _
  rw [asBs_map]
  simp
theorem fAny_map {f : PyData → Bool} (ds : List PyData) : fAny [.list (ds.map fun d => .bool (f d))] = some (.bool (ds.any f)) := by
  show (asBs (ds.map fun d => .bool (f d))).map _ = _
  rw [asBs_map]
  simp
theorem size_ok {n : Nat} (h : n ≤ 1000000) : n ≤ sizeLine := Nat.le_trans h (by unfold sizeLine; decide)

/-! ### rows and forms -/
def isInt : PyData → Bool
  | .int _ => true
  | _ => false
def cOk : PyData → Bool
  | .int c => decide ((if c < 0 then -c else c) ≤ 1000000)
  | _ => false
/-- the last of a list is not d -/
def lastNot (ds : List PyData) (p : PyData → Bool) : Bool := match ds.getLast? with
  | some d => !p d
  | none => true
def is0 : PyData → Bool
  | .int c => c == 0
  | _ => false
def isT0 : PyData → Bool
  | .tuple [] => true
  | _ => false
def isRow : PyData → Bool
  | .tuple cs => decide (cs.length ≤ 3) && cs.all cOk && lastNot cs is0
  | _ => false
def isForm : PyData → Bool
  | .tuple rs => decide (rs.length ≤ 3) && rs.all isRow && lastNot rs isT0
  | _ => false
theorem whole_eq (v : PyData) : F_is_whole [v] = some (.bool (isInt v)) := by
  simp only [F_is_whole, runP, startR, sRet, oAnd, oNot, o1, vD, List.length_cons, List.length_nil, List.map_cons, List.map_nil, List.replicate, List.append_nil, List.cons_append, List.nil_append, List.getElem?_cons_zero, Option.bind_some, isi_int, isi_bool, Nat.zero_add, Nat.reduceAdd, Nat.reduceSub, if_true, Option.map_some, Option.map_bind]
  cases v <;> rfl
end K77

set_option Elab.async false
set_option linter.all false
set_option maxRecDepth 100000
set_option maxHeartbeats 4000000
/-! M2: what the small defs give. -/
namespace K77
open PySem DL
open L2 (atI ixN)
theorem fAdd_i (a b : Int) : fAdd (.int a) (.int b) = some (.int (a + b)) := rfl
theorem fSub_i (a b : Int) : fSub (.int a) (.int b) = some (.int (a - b)) := rfl
theorem fLt_i (a b : Int) : fLt (.int a) (.int b) = some (.bool (decide (a < b))) := rfl
theorem fLe_i (a b : Int) : fLe (.int a) (.int b) = some (.bool (decide (a ≤ b))) := rfl
theorem fGt_i (a b : Int) : fGt (.int a) (.int b) = some (.bool (decide (b < a))) := rfl
theorem fGe_i (a b : Int) : fGe (.int a) (.int b) = some (.bool (decide (b ≤ a))) := rfl
theorem fNeg_i (a : Int) : fNeg (.int a) = some (.int (-a)) := rfl
theorem fAbs_i (a : Int) : fAbs [.int a] = some (.int (if a < 0 then -a else a)) := rfl
theorem fLen_l (ds : List PyData) : fLen [.list ds] = some (.int (ds.length : Int)) := rfl
theorem fLen_t (ds : List PyData) : fLen [.tuple ds] = some (.int (ds.length : Int)) := rfl
theorem fIsN_n (x : PyData) : fIsN x .none = some (.bool (isNon x)) := rfl
theorem fNotN_n (x : PyData) : fNotN x .none = some (.bool (!isNon x)) := rfl
theorem fInt_b (k : Bool) : fInt [.bool k] = some (.int (if k then 1 else 0)) := rfl
theorem tr_b (b : Bool) : truth (.bool b) = some b := rfl
theorem tr_t (ds : List PyData) : truth (.tuple ds) = some (!ds.isEmpty) := rfl
theorem tr_l (ds : List PyData) : truth (.list ds) = some (!ds.isEmpty) := rfl
theorem fIx_t (ds : List PyData) (i : Int) : fIx (.tuple ds) (.int i) = atI ds i := rfl
theorem fIx_l (ds : List PyData) (i : Int) : fIx (.list ds) (.int i) = atI ds i := rfl
theorem items_t (ds : List PyData) : itemsOf (.tuple ds) = some ds := rfl
theorem items_l (ds : List PyData) : itemsOf (.list ds) = some ds := rfl
theorem atI_0 {α : Type} (d : α) (ds : List α) : atI (d :: ds) 0 = some d := by
  have h : (0 : Int) < ((d :: ds).length : Nat) := by rw [List.length_cons]; omega
  unfold atI ixN
  rw [if_pos (Int.le_refl 0), if_pos h]
  rfl
theorem atI_n {α : Type} (ds : List α) (n : Nat) : atI ds (n : Int) = ds[n]? := by
  unfold atI ixN
  rw [if_pos (by omega)]
  by_cases h : (n : Int) < (ds.length : Nat)
  · rw [if_pos h]
    simp
  · rw [if_neg h]
    rw [List.getElem?_eq_none (by omega)]
    rfl
theorem atI_1 {α : Type} (d e : α) (ds : List α) : atI (d :: e :: ds) 1 = some e := by
  have h := atI_n (d :: e :: ds) 1
  simpa using h
theorem atI_2 {α : Type} (d e f : α) (ds : List α) : atI (d :: e :: f :: ds) 2 = some f := by
  have h := atI_n (d :: e :: f :: ds) 2
  simpa using h
theorem atI_last {α : Type} {ds : List α} (h : ds ≠ []) : atI ds (-1) = ds.getLast? := by
  have hl : 0 < ds.length := List.length_pos_iff.mpr h
  unfold atI ixN
  rw [if_neg (by omega), if_pos (by omega)]
  have e : ((-1 : Int) + (ds.length : Nat)).toNat = ds.length - 1 := by omega
  rw [e, List.getLast?_eq_getElem?]
  rfl
theorem fIx_last_t {ds : List PyData} (h : ds ≠ []) : fIx (.tuple ds) (.int (-1)) = ds.getLast? := atI_last h
theorem ltrue (n : Nat) : ((n : Int) < 0) = False := by
  simp

/-! ### rows -/
theorem row_item (c : PyData) : oAnd (oC F_is_whole (aCons (vD 1) aNil)) (o2 fLe (oC fAbs (aCons (vD 1) aNil)) (cD (.int 1000000))) [some (.dat v), some (.dat c)] = some (.bool (cOk c)) := by
  simp only [runP, startR, sRet, sRetL, sSeq, sIf, sNil, sSet, oAnd, oOr, oNot, oIf, o1, o2, vD, cD, tB, tV, tNot, tAnd, tOr, aNil, aCons, oC, lD, iD, List.length_cons, List.length_nil, List.map_cons, List.map_nil, List.replicate, List.append_nil, List.cons_append, List.nil_append, List.getElem?_cons_zero, List.getElem?_cons_succ, List.set_cons_zero, List.set_cons_succ, List.set_nil, Option.bind_some, Option.bind_none, Option.map_some, Option.map_none, Nat.zero_add, Nat.reduceAdd, Nat.reduceSub, if_true, if_false, Bool.false_eq_true, reduceCtorEq, Bool.not_true, Bool.not_false, whole_eq]
  cases c <;> first | rfl | simp only [isInt, tr_b, fAbs_i, fLe_i, Option.bind_some, if_true, cOk]
theorem is0_eqv (d : PyData) (h : isInt d = true) : PyData.eqv d (.int 0) = is0 d := by
  cases d <;> first | rfl | (cases h; done) | simp [PyData.eqv, is0]
theorem cOk_int {d : PyData} (h : cOk d = true) : isInt d = true := by
  cases d <;> first | rfl | (cases h; done)
theorem shaped_cint {d : PyData} (h : isInt d = true) : SeqAt.shaped d = true := by
  cases d <;> first | exact shaped_int _ | (cases h; done)
theorem last_of {α : Type} {ds : List α} (h : ds ≠ []) : ∃ d, ds.getLast? = some d ∧ d ∈ ds := by
  cases e : ds.getLast? with
  | none => rw [List.getLast?_eq_none_iff] at e; exact absurd e h
  | some d => exact ⟨d, rfl, List.mem_of_getLast? e⟩
theorem isEmpty_ne {α : Type} {ds : List α} (h : ds ≠ []) : ds.isEmpty = false := by
  cases ds with
  | nil => exact absurd rfl h
  | cons a b => rfl
theorem row_eq (v : PyData) (hw : ∀ ds, v = .tuple ds → ds.length ≤ sizeLine) : F_is_row [v] = some (.bool (isRow v)) := by
  cases v with
  | tuple cs =>
    have hz := hw cs rfl
    have hgo : lcGo (gN 1) tYesD (oAnd (oC F_is_whole (aCons (vD 1) aNil)) (o2 fLe (oC fAbs (aCons (vD 1) aNil)) (cD (.int 1000000)))) [some (.dat (.tuple cs)), none] cs = some (cs.map fun d => .bool (cOk d)) := lcGo_map fun d hd => row_item d
    by_cases h3 : cs.length ≤ 3
    · have h3' : decide (2 + 1 < (cs.length : Int)) = false := decide_eq_false (by omega)
      cases ha : cs.all cOk with
      | false => simp only [F_is_row, runP, startR, sRet, sRetL, sSeq, sIf, sNil, sSet, oAnd, oOr, oNot, oIf, o1, o2, vD, cD, tB, tV, tNot, tAnd, tOr, aNil, aCons, oC, lD, iD, List.length_cons, List.length_nil, List.map_cons, List.map_nil, List.replicate, List.append_nil, List.cons_append, List.nil_append, List.getElem?_cons_zero, List.getElem?_cons_succ, List.set_cons_zero, List.set_cons_succ, List.set_nil, Option.bind_some, Option.bind_none, Option.map_some, Option.map_none, Nat.zero_add, Nat.reduceAdd, Nat.reduceSub, if_true, if_false, Bool.false_eq_true, reduceCtorEq, Bool.not_true, Bool.not_false, isi_tuple, isi_list, isi_str, isi_int, isi_bool, tyName, beq_self_eq_true, tr_b, tr_t, tr_l, fAdd_i, fSub_i, fLt_i, fLe_i, fGt_i, fGe_i, fNeg_i, fAbs_i, fLen_l, fLen_t, fIsN_n, fNotN_n, fInt_b, fIx_t, fIx_l, items_t, items_l, lLc, wipeR, Bool.not_not, Bool.and_true, Bool.true_and, Bool.and_false, Bool.false_and, Bool.or_true, Bool.true_or, Bool.or_false, Bool.false_or, h3', hz, hgo, fAll_map, ha, isRow, decide_eq_true h3]
      | true =>
        by_cases hn : cs = []
        · subst hn; rfl
        · obtain ⟨d, e1, hd⟩ := last_of hn
          have hc := cOk_int (List.all_eq_true.mp ha d hd)
          simp only [F_is_row, runP, startR, sRet, sRetL, sSeq, sIf, sNil, sSet, oAnd, oOr, oNot, oIf, o1, o2, vD, cD, tB, tV, tNot, tAnd, tOr, aNil, aCons, oC, lD, iD, List.length_cons, List.length_nil, List.map_cons, List.map_nil, List.replicate, List.append_nil, List.cons_append, List.nil_append, List.getElem?_cons_zero, List.getElem?_cons_succ, List.set_cons_zero, List.set_cons_succ, List.set_nil, Option.bind_some, Option.bind_none, Option.map_some, Option.map_none, Nat.zero_add, Nat.reduceAdd, Nat.reduceSub, if_true, if_false, Bool.false_eq_true, reduceCtorEq, Bool.not_true, Bool.not_false, isi_tuple, isi_list, isi_str, isi_int, isi_bool, tyName, beq_self_eq_true, tr_b, tr_t, tr_l, fAdd_i, fSub_i, fLt_i, fLe_i, fGt_i, fGe_i, fNeg_i, fAbs_i, fLen_l, fLen_t, fIsN_n, fNotN_n, fInt_b, fIx_t, fIx_l, items_t, items_l, lLc, wipeR, Bool.not_not, Bool.and_true, Bool.true_and, Bool.and_false, Bool.false_and, Bool.or_true, Bool.true_or, Bool.or_false, Bool.false_or, h3', hz, hgo, fAll_map, ha, isRow, decide_eq_true h3, isEmpty_ne hn, atI_last hn, e1, lastNot, fNe_of (shaped_cint hc) (shaped_int 0), is0_eqv d hc]
    · have h3' : decide (2 + 1 < (cs.length : Int)) = true := decide_eq_true (by omega)
      simp only [F_is_row, runP, startR, sRet, sRetL, sSeq, sIf, sNil, sSet, oAnd, oOr, oNot, oIf, o1, o2, vD, cD, tB, tV, tNot, tAnd, tOr, aNil, aCons, oC, lD, iD, List.length_cons, List.length_nil, List.map_cons, List.map_nil, List.replicate, List.append_nil, List.cons_append, List.nil_append, List.getElem?_cons_zero, List.getElem?_cons_succ, List.set_cons_zero, List.set_cons_succ, List.set_nil, Option.bind_some, Option.bind_none, Option.map_some, Option.map_none, Nat.zero_add, Nat.reduceAdd, Nat.reduceSub, if_true, if_false, Bool.false_eq_true, reduceCtorEq, Bool.not_true, Bool.not_false, isi_tuple, isi_list, isi_str, isi_int, isi_bool, tyName, beq_self_eq_true, tr_b, tr_t, tr_l, fAdd_i, fSub_i, fLt_i, fLe_i, fGt_i, fGe_i, fNeg_i, fAbs_i, fLen_l, fLen_t, fIsN_n, fNotN_n, fInt_b, fIx_t, fIx_l, items_t, items_l, lLc, wipeR, Bool.not_not, Bool.and_true, Bool.true_and, Bool.and_false, Bool.false_and, Bool.or_true, Bool.true_or, Bool.or_false, Bool.false_or, h3', isRow, decide_eq_false h3]
  | _ => simp [F_is_row, runP, startR, sRet, sRetL, sSeq, sIf, sNil, sSet, oAnd, oOr, oNot, oIf, o1, o2, vD, cD, tB, tV, tNot, tAnd, tOr, aNil, aCons, oC, lD, iD, List.length_cons, List.length_nil, List.map_cons, List.map_nil, List.replicate, List.append_nil, List.cons_append, List.nil_append, List.getElem?_cons_zero, List.getElem?_cons_succ, List.set_cons_zero, List.set_cons_succ, List.set_nil, Option.bind_some, Option.bind_none, Option.map_some, Option.map_none, Nat.zero_add, Nat.reduceAdd, Nat.reduceSub, if_true, if_false, Bool.false_eq_true, reduceCtorEq, Bool.not_true, Bool.not_false, isi_tuple, tyName, tr_b, isRow]
end K77

set_option Elab.async false
set_option linter.all false
set_option maxRecDepth 100000
set_option maxHeartbeats 4000000
/-! M3: forms, parts, on both sides. -/
namespace K77
open PySem DL
open L2 (atI ixN)
theorem fine_tl {n : Nat} {ds : List PyData} (h : Fine n (.tuple ds)) : ds.length ≤ 100 ∧ ∃ m, n = m + 1 ∧ ∀ d ∈ ds, Fine m d := by
  cases h with
  | tup h a => exact ⟨h, _, rfl, a⟩
theorem fine_ll {n : Nat} {ds : List PyData} (h : Fine n (.list ds)) : ds.length ≤ 100 ∧ ∃ m, n = m + 1 ∧ ∀ d ∈ ds, Fine m d := by
  cases h with
  | lst h a => exact ⟨h, _, rfl, a⟩
theorem fine_sz {n : Nat} {v : PyData} (h : Fine n v) : ∀ ds, v = .tuple ds → ds.length ≤ sizeLine := fun ds e => by
  subst e
  exact size_ok (by have := (fine_tl h).1; omega)
theorem eqv_t0 (d : PyData) : PyData.eqv d (.tuple []) = isT0 d := by
  cases d with
  | tuple ds => cases ds <;> simp [PyData.eqv, PyData.eqvAll, isT0]
  | _ => simp [PyData.eqv, isT0]
theorem eqv_tn (ds : List PyData) : PyData.eqv (.tuple ds) (.tuple []) = ds.isEmpty := by
  cases ds <;> simp [PyData.eqv, PyData.eqvAll]
theorem eqv_ln (ds : List PyData) : PyData.eqv (.list ds) (.list []) = ds.isEmpty := by
  cases ds <;> simp [PyData.eqv, PyData.eqvAll]
theorem tup_nil (ρ : Rho) : oTup aNil ρ = some (.tuple []) := rfl
theorem lst_nil (ρ : Rho) : lLst aNil ρ = some [] := rfl
theorem form_eq {n : Nat} (v : PyData) (hf : Fine n v) (hn : n ≤ 64) : F_is_form [v] = some (.bool (isForm v)) := by
  cases v with
  | tuple cs =>
    have hz := fine_sz hf cs rfl
    obtain ⟨_, m, rfl, ha⟩ := fine_tl hf
    have hgo : lcGo (gN 1) tYesD (oC F_is_row (aCons (vD 1) aNil)) [some (.dat (.tuple cs)), none] cs = some (cs.map fun d => .bool (isRow d)) := lcGo_map fun d hd => by
      simp only [runP, startR, sRet, sRetL, sSeq, sIf, sNil, sSet, oAnd, oOr, oNot, oIf, o1, o2, vD, cD, tB, tV, tNot, tAnd, tOr, aNil, aCons, oC, lD, iD, List.length_cons, List.length_nil, List.map_cons, List.map_nil, List.replicate, List.append_nil, List.cons_append, List.nil_append, List.getElem?_cons_zero, List.getElem?_cons_succ, List.set_cons_zero, List.set_cons_succ, List.set_nil, Option.bind_some, Option.bind_none, Option.map_some, Option.map_none, Nat.zero_add, Nat.reduceAdd, Nat.reduceSub, if_true, if_false, Bool.false_eq_true, reduceCtorEq, Bool.not_true, Bool.not_false]
      exact row_eq d (fine_sz (ha d hd))
    by_cases h3 : cs.length ≤ 3
    · have h3' : decide (2 + 1 < (cs.length : Int)) = false := decide_eq_false (by omega)
      cases hr : cs.all isRow with
      | false => simp only [F_is_form, runP, startR, sRet, sRetL, sSeq, sIf, sNil, sSet, oAnd, oOr, oNot, oIf, o1, o2, vD, cD, tB, tV, tNot, tAnd, tOr, aNil, aCons, oC, lD, iD, List.length_cons, List.length_nil, List.map_cons, List.map_nil, List.replicate, List.append_nil, List.cons_append, List.nil_append, List.getElem?_cons_zero, List.getElem?_cons_succ, List.set_cons_zero, List.set_cons_succ, List.set_nil, Option.bind_some, Option.bind_none, Option.map_some, Option.map_none, Nat.zero_add, Nat.reduceAdd, Nat.reduceSub, if_true, if_false, Bool.false_eq_true, reduceCtorEq, Bool.not_true, Bool.not_false, isi_tuple, isi_list, isi_str, isi_int, isi_bool, tyName, beq_self_eq_true, tr_b, tr_t, tr_l, fAdd_i, fSub_i, fLt_i, fLe_i, fGt_i, fGe_i, fNeg_i, fAbs_i, fLen_l, fLen_t, fIsN_n, fNotN_n, fInt_b, fIx_t, fIx_l, items_t, items_l, lLc, wipeR, Bool.not_not, Bool.and_true, Bool.true_and, Bool.and_false, Bool.false_and, Bool.or_true, Bool.true_or, Bool.or_false, Bool.false_or, h3', hz, hgo, fAll_map, hr, isForm, decide_eq_true h3]
      | true =>
        by_cases hn : cs = []
        · subst hn; rfl
        · obtain ⟨d, e1, hd⟩ := last_of hn
          simp only [F_is_form, runP, startR, sRet, sRetL, sSeq, sIf, sNil, sSet, oAnd, oOr, oNot, oIf, o1, o2, vD, cD, tB, tV, tNot, tAnd, tOr, aNil, aCons, oC, lD, iD, List.length_cons, List.length_nil, List.map_cons, List.map_nil, List.replicate, List.append_nil, List.cons_append, List.nil_append, List.getElem?_cons_zero, List.getElem?_cons_succ, List.set_cons_zero, List.set_cons_succ, List.set_nil, Option.bind_some, Option.bind_none, Option.map_some, Option.map_none, Nat.zero_add, Nat.reduceAdd, Nat.reduceSub, if_true, if_false, Bool.false_eq_true, reduceCtorEq, Bool.not_true, Bool.not_false, isi_tuple, isi_list, isi_str, isi_int, isi_bool, tyName, beq_self_eq_true, tr_b, tr_t, tr_l, fAdd_i, fSub_i, fLt_i, fLe_i, fGt_i, fGe_i, fNeg_i, fAbs_i, fLen_l, fLen_t, fIsN_n, fNotN_n, fInt_b, fIx_t, fIx_l, items_t, items_l, lLc, wipeR, Bool.not_not, Bool.and_true, Bool.true_and, Bool.and_false, Bool.false_and, Bool.or_true, Bool.true_or, Bool.or_false, Bool.false_or, h3', hz, hgo, fAll_map, hr, isForm, decide_eq_true h3, isEmpty_ne hn, atI_last hn, e1, lastNot, tup_nil, fNe_of ((ha d hd).shaped (by omega)) shaped_tnil, eqv_t0]
    · have h3' : decide (2 + 1 < (cs.length : Int)) = true := decide_eq_true (by omega)
      simp only [F_is_form, runP, startR, sRet, sRetL, sSeq, sIf, sNil, sSet, oAnd, oOr, oNot, oIf, o1, o2, vD, cD, tB, tV, tNot, tAnd, tOr, aNil, aCons, oC, lD, iD, List.length_cons, List.length_nil, List.map_cons, List.map_nil, List.replicate, List.append_nil, List.cons_append, List.nil_append, List.getElem?_cons_zero, List.getElem?_cons_succ, List.set_cons_zero, List.set_cons_succ, List.set_nil, Option.bind_some, Option.bind_none, Option.map_some, Option.map_none, Nat.zero_add, Nat.reduceAdd, Nat.reduceSub, if_true, if_false, Bool.false_eq_true, reduceCtorEq, Bool.not_true, Bool.not_false, isi_tuple, isi_list, isi_str, isi_int, isi_bool, tyName, beq_self_eq_true, tr_b, tr_t, tr_l, fAdd_i, fSub_i, fLt_i, fLe_i, fGt_i, fGe_i, fNeg_i, fAbs_i, fLen_l, fLen_t, fIsN_n, fNotN_n, fInt_b, fIx_t, fIx_l, items_t, items_l, lLc, wipeR, Bool.not_not, Bool.and_true, Bool.true_and, Bool.and_false, Bool.false_and, Bool.or_true, Bool.true_or, Bool.or_false, Bool.false_or, h3', isForm, decide_eq_false h3]
  | _ => simp [F_is_form, runP, startR, sRet, sRetL, sSeq, sIf, sNil, sSet, oAnd, oOr, oNot, oIf, o1, o2, vD, cD, tB, tV, tNot, tAnd, tOr, aNil, aCons, oC, lD, iD, List.length_cons, List.length_nil, List.map_cons, List.map_nil, List.replicate, List.append_nil, List.cons_append, List.nil_append, List.getElem?_cons_zero, List.getElem?_cons_succ, List.set_cons_zero, List.set_cons_succ, List.set_nil, Option.bind_some, Option.bind_none, Option.map_some, Option.map_none, Nat.zero_add, Nat.reduceAdd, Nat.reduceSub, if_true, if_false, Bool.false_eq_true, reduceCtorEq, Bool.not_true, Bool.not_false, isi_tuple, tyName, tr_b, isForm]
theorem linteger_eq (v : PyData) : F__law_is_integer [v] = some (.bool (isInt v)) := whole_eq v
def badC (c : PyData) : Bool := !cOk c
theorem lrow_item (v c : PyData) (x : Option Sl) : DL.tOr (DL.tNot (tV (oC F__law_is_integer (aCons (vD 2) aNil)))) (DL.tB (o2 fGt (oC fAbs (aCons (vD 2) aNil)) (cD (.int 1000000)))) [some (.dat v), x, some (.dat c)] = some (badC c) := by
  simp only [runP, startR, sRet, sRetL, sSeq, sIf, sNil, sSet, oAnd, oOr, oNot, oIf, o1, o2, vD, cD, tB, tV, tNot, tAnd, tOr, aNil, aCons, oC, lD, iD, List.length_cons, List.length_nil, List.map_cons, List.map_nil, List.replicate, List.append_nil, List.cons_append, List.nil_append, List.getElem?_cons_zero, List.getElem?_cons_succ, List.set_cons_zero, List.set_cons_succ, List.set_nil, Option.bind_some, Option.bind_none, Option.map_some, Option.map_none, Nat.zero_add, Nat.reduceAdd, Nat.reduceSub, if_true, if_false, Bool.false_eq_true, reduceCtorEq, Bool.not_true, Bool.not_false, isi_tuple, isi_list, isi_str, isi_int, isi_bool, tyName, beq_self_eq_true, tr_b, tr_t, tr_l, fAdd_i, fSub_i, fLt_i, fLe_i, fGt_i, fGe_i, fNeg_i, fAbs_i, fLen_l, fLen_t, fIsN_n, fNotN_n, fInt_b, fIx_t, fIx_l, items_t, items_l, lLc, wipeR, Bool.not_not, Bool.and_true, Bool.true_and, Bool.and_false, Bool.false_and, Bool.or_true, Bool.true_or, Bool.or_false, Bool.false_or, linteger_eq]
  cases c <;> first | rfl | (simp only [isInt, badC, cOk, runP, startR, sRet, sRetL, sSeq, sIf, sNil, sSet, oAnd, oOr, oNot, oIf, o1, o2, vD, cD, tB, tV, tNot, tAnd, tOr, aNil, aCons, oC, lD, iD, List.length_cons, List.length_nil, List.map_cons, List.map_nil, List.replicate, List.append_nil, List.cons_append, List.nil_append, List.getElem?_cons_zero, List.getElem?_cons_succ, List.set_cons_zero, List.set_cons_succ, List.set_nil, Option.bind_some, Option.bind_none, Option.map_some, Option.map_none, Nat.zero_add, Nat.reduceAdd, Nat.reduceSub, if_true, if_false, Bool.false_eq_true, reduceCtorEq, Bool.not_true, Bool.not_false, isi_tuple, isi_list, isi_str, isi_int, isi_bool, tyName, beq_self_eq_true, tr_b, tr_t, tr_l, fAdd_i, fSub_i, fLt_i, fLe_i, fGt_i, fGe_i, fNeg_i, fAbs_i, fLen_l, fLen_t, fIsN_n, fNotN_n, fInt_b, fIx_t, fIx_l, items_t, items_l, lLc, wipeR, Bool.not_not, Bool.and_true, Bool.true_and, Bool.and_false, Bool.false_and, Bool.or_true, Bool.true_or, Bool.or_false, Bool.false_or]; rw [← decide_not]; congr 2; apply propext; omega)
theorem filter_bad {cs : List PyData} : (cs.filter badC).isEmpty = cs.all cOk := by
  induction cs with
  | nil => rfl
  | cons c cs ih =>
    rw [List.filter_cons, List.all_cons]
    cases h : cOk c with
    | true => simp only [badC, h, Bool.not_true, Bool.false_eq_true, if_false, Bool.true_and]; exact ih
    | false => simp [badC, h]
def lrowBody : DSt := (sIf (DL.tOr (DL.tNot (tV (o1 (fIsi "tuple") (vD 1)))) (DL.tOr (DL.tB (o2 fGt (oC fLen (aCons (vD 1) aNil)) (cD (.int 3)))) (DL.tOr (DL.tB (o2 fNe (lD (lLc (iD (vD 1)) (gN 2) (DL.tOr (DL.tNot (tV (oC F__law_is_integer (aCons (vD 2) aNil)))) (DL.tB (o2 fGt (oC fAbs (aCons (vD 2) aNil)) (cD (.int 1000000))))) (vD 2) [2])) (lD (lLst aNil)))) (DL.tAnd (DL.tB (o2 fNe (vD 1) (oTup aNil))) (DL.tB (o2 fEq (o2 fIx (vD 1) (o1 fNeg (cD (.int 1)))) (cD (.int 0))))))))
      (sRet (cD (.bool false)))
      sNil)
theorem lrow_body {n : Nat} (v r : PyData) (hf : Fine n r) (hn : n ≤ 63) : lrowBody [some (.dat v), some (.dat r), none] = some (if isRow r then .nx [some (.dat v), some (.dat r), none] else .rt (.bool false) [some (.dat v), some (.dat r), none]) := by
  unfold lrowBody
  cases r with
  | tuple cs =>
    have hz := fine_sz hf cs rfl
    obtain ⟨_, m, rfl, ha⟩ := fine_tl hf
    by_cases h3 : cs.length ≤ 3
    · have h3' : decide (3 < (cs.length : Int)) = false := decide_eq_false (by omega)
      have hgo : lcGo (gN 2) (DL.tOr (DL.tNot (tV (oC F__law_is_integer (aCons (vD 2) aNil)))) (DL.tB (o2 fGt (oC fAbs (aCons (vD 2) aNil)) (cD (.int 1000000))))) (vD 2) [some (.dat v), some (.dat (.tuple cs)), none] cs = some ((cs.filter badC).map fun d => d) :=
        lcGo_filter (fun d hd => lrow_item v d _) (fun d hd _ => rfl)
      rw [List.map_id'] at hgo
      have hs : SeqAt.shaped (.list (cs.filter badC)) = true := shapedL (fun d hd => ha d (List.mem_filter.mp hd).1) (by omega)
      cases hr : cs.all cOk with
      | false => simp only [runP, startR, sRet, sRetL, sSeq, sIf, sNil, sSet, oAnd, oOr, oNot, oIf, o1, o2, vD, cD, tB, tV, tNot, tAnd, tOr, aNil, aCons, oC, lD, iD, List.length_cons, List.length_nil, List.map_cons, List.map_nil, List.replicate, List.append_nil, List.cons_append, List.nil_append, List.getElem?_cons_zero, List.getElem?_cons_succ, List.set_cons_zero, List.set_cons_succ, List.set_nil, Option.bind_some, Option.bind_none, Option.map_some, Option.map_none, Nat.zero_add, Nat.reduceAdd, Nat.reduceSub, if_true, if_false, Bool.false_eq_true, reduceCtorEq, Bool.not_true, Bool.not_false, isi_tuple, isi_list, isi_str, isi_int, isi_bool, tyName, beq_self_eq_true, tr_b, tr_t, tr_l, fAdd_i, fSub_i, fLt_i, fLe_i, fGt_i, fGe_i, fNeg_i, fAbs_i, fLen_l, fLen_t, fIsN_n, fNotN_n, fInt_b, fIx_t, fIx_l, items_t, items_l, lLc, wipeR, Bool.not_not, Bool.and_true, Bool.true_and, Bool.and_false, Bool.false_and, Bool.or_true, Bool.true_or, Bool.or_false, Bool.false_or, h3', hz, hgo, lst_nil, fNe_of hs shaped_nil, eqv_ln, filter_bad, hr, isRow, decide_eq_true h3]
      | true =>
        by_cases hn : cs = []
        · subst hn; rfl
        · obtain ⟨d, e1, hd⟩ := last_of hn
          have hc := cOk_int (List.all_eq_true.mp hr d hd)
          have hs2 : SeqAt.shaped (.tuple cs) = true := shapedT ha (by omega)
          simp only [runP, startR, sRet, sRetL, sSeq, sIf, sNil, sSet, oAnd, oOr, oNot, oIf, o1, o2, vD, cD, tB, tV, tNot, tAnd, tOr, aNil, aCons, oC, lD, iD, List.length_cons, List.length_nil, List.map_cons, List.map_nil, List.replicate, List.append_nil, List.cons_append, List.nil_append, List.getElem?_cons_zero, List.getElem?_cons_succ, List.set_cons_zero, List.set_cons_succ, List.set_nil, Option.bind_some, Option.bind_none, Option.map_some, Option.map_none, Nat.zero_add, Nat.reduceAdd, Nat.reduceSub, if_true, if_false, Bool.false_eq_true, reduceCtorEq, Bool.not_true, Bool.not_false, isi_tuple, isi_list, isi_str, isi_int, isi_bool, tyName, beq_self_eq_true, tr_b, tr_t, tr_l, fAdd_i, fSub_i, fLt_i, fLe_i, fGt_i, fGe_i, fNeg_i, fAbs_i, fLen_l, fLen_t, fIsN_n, fNotN_n, fInt_b, fIx_t, fIx_l, items_t, items_l, lLc, wipeR, Bool.not_not, Bool.and_true, Bool.true_and, Bool.and_false, Bool.false_and, Bool.or_true, Bool.true_or, Bool.or_false, Bool.false_or, h3', hz, hgo, lst_nil, fNe_of hs shaped_nil, eqv_ln, filter_bad, hr, isRow, decide_eq_true h3, tup_nil, fNe_of hs2 shaped_tnil, eqv_tn, isEmpty_ne hn, atI_last hn, e1, fEq_of (shaped_cint hc) (shaped_int 0), is0_eqv d hc, lastNot]
          cases is0 d <;> rfl
    · have h3' : decide (3 < (cs.length : Int)) = true := decide_eq_true (by omega)
      simp only [runP, startR, sRet, sRetL, sSeq, sIf, sNil, sSet, oAnd, oOr, oNot, oIf, o1, o2, vD, cD, tB, tV, tNot, tAnd, tOr, aNil, aCons, oC, lD, iD, List.length_cons, List.length_nil, List.map_cons, List.map_nil, List.replicate, List.append_nil, List.cons_append, List.nil_append, List.getElem?_cons_zero, List.getElem?_cons_succ, List.set_cons_zero, List.set_cons_succ, List.set_nil, Option.bind_some, Option.bind_none, Option.map_some, Option.map_none, Nat.zero_add, Nat.reduceAdd, Nat.reduceSub, if_true, if_false, Bool.false_eq_true, reduceCtorEq, Bool.not_true, Bool.not_false, isi_tuple, isi_list, isi_str, isi_int, isi_bool, tyName, beq_self_eq_true, tr_b, tr_t, tr_l, fAdd_i, fSub_i, fLt_i, fLe_i, fGt_i, fGe_i, fNeg_i, fAbs_i, fLen_l, fLen_t, fIsN_n, fNotN_n, fInt_b, fIx_t, fIx_l, items_t, items_l, lLc, wipeR, Bool.not_not, Bool.and_true, Bool.true_and, Bool.and_false, Bool.false_and, Bool.or_true, Bool.true_or, Bool.or_false, Bool.false_or, h3', isRow, decide_eq_false h3]
  | _ => simp only [runP, startR, sRet, sRetL, sSeq, sIf, sNil, sSet, oAnd, oOr, oNot, oIf, o1, o2, vD, cD, tB, tV, tNot, tAnd, tOr, aNil, aCons, oC, lD, iD, List.length_cons, List.length_nil, List.map_cons, List.map_nil, List.replicate, List.append_nil, List.cons_append, List.nil_append, List.getElem?_cons_zero, List.getElem?_cons_succ, List.set_cons_zero, List.set_cons_succ, List.set_nil, Option.bind_some, Option.bind_none, Option.map_some, Option.map_none, Nat.zero_add, Nat.reduceAdd, Nat.reduceSub, if_true, if_false, Bool.false_eq_true, reduceCtorEq, Bool.not_true, Bool.not_false, isi_tuple, isi_list, isi_str, isi_int, isi_bool, tyName, beq_self_eq_true, tr_b, tr_t, tr_l, fAdd_i, fSub_i, fLt_i, fLe_i, fGt_i, fGe_i, fNeg_i, fAbs_i, fLen_l, fLen_t, fIsN_n, fNotN_n, fInt_b, fIx_t, fIx_l, items_t, items_l, lLc, wipeR, Bool.not_not, Bool.and_true, Bool.true_and, Bool.and_false, Bool.false_and, Bool.or_true, Bool.true_or, Bool.or_false, Bool.false_or, isRow] <;> rfl
end K77

set_option Elab.async false
set_option linter.all false
set_option maxRecDepth 100000
set_option maxHeartbeats 4000000
/-! M4: forms by the law's reading; parts. -/
namespace K77
open PySem DL
open L2 (atI ixN)
theorem lrows_go {n : Nat} (hn : n ≤ 63) (v : PyData) : ∀ (rs : List PyData) (x : Option Sl), (∀ r ∈ rs, Fine n r) → ∃ ρ, forGo (gN 1) lrowBody rs [some (.dat v), x, none] = some (if rs.all isRow then .nx ρ else .rt (.bool false) ρ)
  | [], x, _ => ⟨_, rfl⟩
  | r :: rs, x, h => by
    obtain ⟨ρ, e⟩ := lrows_go hn v rs (some (.dat r)) fun d hd => h d (List.mem_cons_of_mem _ hd)
    have eb := lrow_body v r (h r (List.mem_cons_self ..)) hn
    show ∃ ρ, Option.bind (lrowBody [some (.dat v), some (.dat r), none]) _ = _
    rw [eb, List.all_cons]
    cases hr : isRow r with
    | true => exact ⟨ρ, e⟩
    | false => exact ⟨_, rfl⟩
theorem lform_eq {n : Nat} (v : PyData) (hf : Fine n v) (hn : n ≤ 64) : F__law_is_form [v] = some (.bool (isForm v)) := by
  cases v with
  | tuple cs =>
    obtain ⟨_, m, rfl, ha⟩ := fine_tl hf
    have hs : SeqAt.shaped (.tuple cs) = true := hf.shaped hn
    obtain ⟨ρ, e⟩ := lrows_go (n := m) (by omega) (.tuple cs) cs none ha
    have e' : sFor (iD (vD 0)) (gN 1) lrowBody [some (.dat (.tuple cs)), none, none] = some (if cs.all isRow then .nx ρ else .rt (.bool false) ρ) := by
      unfold sFor
      simp only [runP, startR, sRet, sRetL, sSeq, sIf, sNil, sSet, oAnd, oOr, oNot, oIf, o1, o2, vD, cD, tB, tV, tNot, tAnd, tOr, aNil, aCons, oC, lD, iD, List.length_cons, List.length_nil, List.map_cons, List.map_nil, List.replicate, List.append_nil, List.cons_append, List.nil_append, List.getElem?_cons_zero, List.getElem?_cons_succ, List.set_cons_zero, List.set_cons_succ, List.set_nil, Option.bind_some, Option.bind_none, Option.map_some, Option.map_none, Nat.zero_add, Nat.reduceAdd, Nat.reduceSub, if_true, if_false, Bool.false_eq_true, reduceCtorEq, Bool.not_true, Bool.not_false, isi_tuple, isi_list, isi_str, isi_int, isi_bool, tyName, beq_self_eq_true, tr_b, tr_t, tr_l, fAdd_i, fSub_i, fLt_i, fLe_i, fGt_i, fGe_i, fNeg_i, fAbs_i, fLen_l, fLen_t, fIsN_n, fNotN_n, fInt_b, fIx_t, fIx_l, items_t, items_l, lLc, wipeR, Bool.not_not, Bool.and_true, Bool.true_and, Bool.and_false, Bool.false_and, Bool.or_true, Bool.true_or, Bool.or_false, Bool.false_or]
      exact e
    have hd : d__law_is_form = (sSeq (sIf (DL.tOr (DL.tNot (tV (o1 (fIsi "tuple") (vD 0)))) (DL.tOr (DL.tB (o2 fGt (oC fLen (aCons (vD 0) aNil)) (cD (.int 3)))) (DL.tAnd (DL.tB (o2 fNe (vD 0) (oTup aNil))) (DL.tB (o2 fEq (o2 fIx (vD 0) (o1 fNeg (cD (.int 1)))) (oTup aNil))))))
        (sRet (cD (.bool false))) sNil) (sSeq (sFor (iD (vD 0)) (gN 1) lrowBody) (sRet (cD (.bool true))))) := rfl
    by_cases h3 : cs.length ≤ 3
    · have h3' : decide (3 < (cs.length : Int)) = false := decide_eq_false (by omega)
      by_cases hn : cs = []
      · subst hn; rfl
      · obtain ⟨d, e1, hd'⟩ := last_of hn
        have h4 : fNe (.tuple cs) (.tuple []) = some (.bool true) := by rw [fNe_of hs shaped_tnil, eqv_tn, isEmpty_ne hn] <;> rfl
        have h5 : fEq d (.tuple []) = some (.bool (isT0 d)) := by rw [fEq_of ((ha d hd').shaped (by omega)) shaped_tnil, eqv_t0]
        simp only [F__law_is_form, hd, runP, startR, sRet, sRetL, sSeq, sIf, sNil, sSet, oAnd, oOr, oNot, oIf, o1, o2, vD, cD, tB, tV, tNot, tAnd, tOr, aNil, aCons, oC, lD, iD, List.length_cons, List.length_nil, List.map_cons, List.map_nil, List.replicate, List.append_nil, List.cons_append, List.nil_append, List.getElem?_cons_zero, List.getElem?_cons_succ, List.set_cons_zero, List.set_cons_succ, List.set_nil, Option.bind_some, Option.bind_none, Option.map_some, Option.map_none, Nat.zero_add, Nat.reduceAdd, Nat.reduceSub, if_true, if_false, Bool.false_eq_true, reduceCtorEq, Bool.not_true, Bool.not_false, isi_tuple, isi_list, isi_str, isi_int, isi_bool, tyName, beq_self_eq_true, tr_b, tr_t, tr_l, fAdd_i, fSub_i, fLt_i, fLe_i, fGt_i, fGe_i, fNeg_i, fAbs_i, fLen_l, fLen_t, fIsN_n, fNotN_n, fInt_b, fIx_t, fIx_l, items_t, items_l, lLc, wipeR, Bool.not_not, Bool.and_true, Bool.true_and, Bool.and_false, Bool.false_and, Bool.or_true, Bool.true_or, Bool.or_false, Bool.false_or, h3', tup_nil, h4, atI_last hn, e1, h5]
        cases ht : isT0 d with
        | true => simp only [runP, startR, sRet, sRetL, sSeq, sIf, sNil, sSet, oAnd, oOr, oNot, oIf, o1, o2, vD, cD, tB, tV, tNot, tAnd, tOr, aNil, aCons, oC, lD, iD, List.length_cons, List.length_nil, List.map_cons, List.map_nil, List.replicate, List.append_nil, List.cons_append, List.nil_append, List.getElem?_cons_zero, List.getElem?_cons_succ, List.set_cons_zero, List.set_cons_succ, List.set_nil, Option.bind_some, Option.bind_none, Option.map_some, Option.map_none, Nat.zero_add, Nat.reduceAdd, Nat.reduceSub, if_true, if_false, Bool.false_eq_true, reduceCtorEq, Bool.not_true, Bool.not_false, isi_tuple, isi_list, isi_str, isi_int, isi_bool, tyName, beq_self_eq_true, tr_b, tr_t, tr_l, fAdd_i, fSub_i, fLt_i, fLe_i, fGt_i, fGe_i, fNeg_i, fAbs_i, fLen_l, fLen_t, fIsN_n, fNotN_n, fInt_b, fIx_t, fIx_l, items_t, items_l, lLc, wipeR, Bool.not_not, Bool.and_true, Bool.true_and, Bool.and_false, Bool.false_and, Bool.or_true, Bool.true_or, Bool.or_false, Bool.false_or, isForm, lastNot, e1, ht]
        | false =>
          simp only [runP, startR, sRet, sRetL, sSeq, sIf, sNil, sSet, oAnd, oOr, oNot, oIf, o1, o2, vD, cD, tB, tV, tNot, tAnd, tOr, aNil, aCons, oC, lD, iD, List.length_cons, List.length_nil, List.map_cons, List.map_nil, List.replicate, List.append_nil, List.cons_append, List.nil_append, List.getElem?_cons_zero, List.getElem?_cons_succ, List.set_cons_zero, List.set_cons_succ, List.set_nil, Option.bind_some, Option.bind_none, Option.map_some, Option.map_none, Nat.zero_add, Nat.reduceAdd, Nat.reduceSub, if_true, if_false, Bool.false_eq_true, reduceCtorEq, Bool.not_true, Bool.not_false, isi_tuple, isi_list, isi_str, isi_int, isi_bool, tyName, beq_self_eq_true, tr_b, tr_t, tr_l, fAdd_i, fSub_i, fLt_i, fLe_i, fGt_i, fGe_i, fNeg_i, fAbs_i, fLen_l, fLen_t, fIsN_n, fNotN_n, fInt_b, fIx_t, fIx_l, items_t, items_l, lLc, wipeR, Bool.not_not, Bool.and_true, Bool.true_and, Bool.and_false, Bool.false_and, Bool.or_true, Bool.true_or, Bool.or_false, Bool.false_or, e', isForm, lastNot, e1, ht, decide_eq_true h3]
          cases cs.all isRow <;> rfl
    · have h3' : decide (3 < (cs.length : Int)) = true := decide_eq_true (by omega)
      simp only [F__law_is_form, hd, runP, startR, sRet, sRetL, sSeq, sIf, sNil, sSet, oAnd, oOr, oNot, oIf, o1, o2, vD, cD, tB, tV, tNot, tAnd, tOr, aNil, aCons, oC, lD, iD, List.length_cons, List.length_nil, List.map_cons, List.map_nil, List.replicate, List.append_nil, List.cons_append, List.nil_append, List.getElem?_cons_zero, List.getElem?_cons_succ, List.set_cons_zero, List.set_cons_succ, List.set_nil, Option.bind_some, Option.bind_none, Option.map_some, Option.map_none, Nat.zero_add, Nat.reduceAdd, Nat.reduceSub, if_true, if_false, Bool.false_eq_true, reduceCtorEq, Bool.not_true, Bool.not_false, isi_tuple, isi_list, isi_str, isi_int, isi_bool, tyName, beq_self_eq_true, tr_b, tr_t, tr_l, fAdd_i, fSub_i, fLt_i, fLe_i, fGt_i, fGe_i, fNeg_i, fAbs_i, fLen_l, fLen_t, fIsN_n, fNotN_n, fInt_b, fIx_t, fIx_l, items_t, items_l, lLc, wipeR, Bool.not_not, Bool.and_true, Bool.true_and, Bool.and_false, Bool.false_and, Bool.or_true, Bool.true_or, Bool.or_false, Bool.false_or, h3', isForm, decide_eq_false h3]
  | _ => simp only [F__law_is_form, runP, startR, sRet, sRetL, sSeq, sIf, sNil, sSet, oAnd, oOr, oNot, oIf, o1, o2, vD, cD, tB, tV, tNot, tAnd, tOr, aNil, aCons, oC, lD, iD, List.length_cons, List.length_nil, List.map_cons, List.map_nil, List.replicate, List.append_nil, List.cons_append, List.nil_append, List.getElem?_cons_zero, List.getElem?_cons_succ, List.set_cons_zero, List.set_cons_succ, List.set_nil, Option.bind_some, Option.bind_none, Option.map_some, Option.map_none, Nat.zero_add, Nat.reduceAdd, Nat.reduceSub, if_true, if_false, Bool.false_eq_true, reduceCtorEq, Bool.not_true, Bool.not_false, isi_tuple, isi_list, isi_str, isi_int, isi_bool, tyName, beq_self_eq_true, tr_b, tr_t, tr_l, fAdd_i, fSub_i, fLt_i, fLe_i, fGt_i, fGe_i, fNeg_i, fAbs_i, fLen_l, fLen_t, fIsN_n, fNotN_n, fInt_b, fIx_t, fIx_l, items_t, items_l, lLc, wipeR, Bool.not_not, Bool.and_true, Bool.true_and, Bool.and_false, Bool.false_and, Bool.or_true, Bool.true_or, Bool.or_false, Bool.false_or, isForm] <;> rfl
/-! ### parts -/
def rels : List PyData := [.str "=", .str "<", .str ">", .str "<=", .str ">=", .str "!="]
def isStr : PyData → Bool
  | .str _ => true
  | _ => false
def isS (s : Str) : PyData → Bool
  | .str x => x == s
  | _ => false
theorem eqv_s (d : PyData) (s : Str) : PyData.eqv d (.str s) = isS s d := by
  cases d <;> simp [PyData.eqv, isS]
theorem isS_iff {d : PyData} {s : Str} : isS s d = true ↔ d = .str s := by
  cases d <;> simp [isS]
/-- the parts of a formula, as its own levels go -/
def parts : PyData → Option (List PyData)
  | .tuple [a, b, c] => if isS "is" a && (isForm b && (isStr c && isIn c rels)) then some [] else none
  | .tuple [a, b] => if isS "not" a then some [b] else if isS "and" a || isS "or" a then (match b with
      | .list l => if 2 ≤ l.length then some l else none
      | _ => none) else none
  | _ => none
def enc : Option (List PyData) → PyData
  | none => .none
  | some l => .list l
theorem sh_rels : SeqAt.shaped (.list rels) = true := by decide +kernel
theorem sh_relsT : SeqAt.shaped (.tuple rels) = true := by decide +kernel
theorem mval_str {d : PyData} {s : Str} (h : SeqAt.shaped d = true) (hs : PyData.strOk s = true) : mVal (.str s) d = some (if isS s d then some [] else none) := by
  unfold mVal ok2
  rw [h, shaped_str hs, eqv_s]
  rfl
theorem within_eq {n : Nat} (v : PyData) (hf : Fine n v) (hn : n ≤ 64) : F_within [v] = some (enc (parts v)) := by
  cases v with
  | tuple cs =>
    obtain ⟨_, m, rfl, ha⟩ := fine_tl hf
    match cs, ha with
    | [], _ => rfl
    | [a], _ => rfl
    | [a, b], ha =>
      have ha1 := ha a (by simp)
      have hb1 := ha b (by simp)
      have s1 := ha1.shaped (by omega)
      have k1 := mval_str (s := "not") s1 (by decide +kernel)
      have k2 := mval_str (s := "and") s1 (by decide +kernel)
      have k3 := mval_str (s := "or") s1 (by decide +kernel)
      simp only [F_within, runP, startR, sRet, sRetL, sSeq, sIf, sNil, sSet, oAnd, oOr, oNot, oIf, o1, o2, vD, cD, tB, tV, tNot, tAnd, tOr, aNil, aCons, oC, lD, iD, List.length_cons, List.length_nil, List.map_cons, List.map_nil, List.replicate, List.append_nil, List.cons_append, List.nil_append, List.getElem?_cons_zero, List.getElem?_cons_succ, List.set_cons_zero, List.set_cons_succ, List.set_nil, Option.bind_some, Option.bind_none, Option.map_some, Option.map_none, Nat.zero_add, Nat.reduceAdd, Nat.reduceSub, if_true, if_false, Bool.false_eq_true, reduceCtorEq, Bool.not_true, Bool.not_false, isi_tuple, isi_list, isi_str, isi_int, isi_bool, tyName, beq_self_eq_true, tr_b, tr_t, tr_l, fAdd_i, fSub_i, fLt_i, fLe_i, fGt_i, fGe_i, fNeg_i, fAbs_i, fLen_l, fLen_t, fIsN_n, fNotN_n, fInt_b, fIx_t, fIx_l, items_t, items_l, lLc, wipeR, Bool.not_not, Bool.and_true, Bool.true_and, Bool.and_false, Bool.false_and, Bool.or_true, Bool.true_or, Bool.or_false, Bool.false_or, sMatch, mcCons, mSeq, if_neg (show ¬ 2 = 3 by decide), meCons, meNil, k1, gNs, mCap, mOr, k2, k3, mNo, mWild, mcNil, parts]
      cases h1 : isS "not" a with
      | true => simp only [runP, startR, sRet, sRetL, sSeq, sIf, sNil, sSet, oAnd, oOr, oNot, oIf, o1, o2, vD, cD, tB, tV, tNot, tAnd, tOr, aNil, aCons, oC, lD, iD, List.length_cons, List.length_nil, List.map_cons, List.map_nil, List.replicate, List.append_nil, List.cons_append, List.nil_append, List.getElem?_cons_zero, List.getElem?_cons_succ, List.set_cons_zero, List.set_cons_succ, List.set_nil, Option.bind_some, Option.bind_none, Option.map_some, Option.map_none, Nat.zero_add, Nat.reduceAdd, Nat.reduceSub, if_true, if_false, Bool.false_eq_true, reduceCtorEq, Bool.not_true, Bool.not_false, isi_tuple, isi_list, isi_str, isi_int, isi_bool, tyName, beq_self_eq_true, tr_b, tr_t, tr_l, fAdd_i, fSub_i, fLt_i, fLe_i, fGt_i, fGe_i, fNeg_i, fAbs_i, fLen_l, fLen_t, fIsN_n, fNotN_n, fInt_b, fIx_t, fIx_l, items_t, items_l, lLc, wipeR, Bool.not_not, Bool.and_true, Bool.true_and, Bool.and_false, Bool.false_and, Bool.or_true, Bool.true_or, Bool.or_false, Bool.false_or, gNs] <;> rfl
      | false =>
        simp only [runP, startR, sRet, sRetL, sSeq, sIf, sNil, sSet, oAnd, oOr, oNot, oIf, o1, o2, vD, cD, tB, tV, tNot, tAnd, tOr, aNil, aCons, oC, lD, iD, List.length_cons, List.length_nil, List.map_cons, List.map_nil, List.replicate, List.append_nil, List.cons_append, List.nil_append, List.getElem?_cons_zero, List.getElem?_cons_succ, List.set_cons_zero, List.set_cons_succ, List.set_nil, Option.bind_some, Option.bind_none, Option.map_some, Option.map_none, Nat.zero_add, Nat.reduceAdd, Nat.reduceSub, if_true, if_false, Bool.false_eq_true, reduceCtorEq, Bool.not_true, Bool.not_false, isi_tuple, isi_list, isi_str, isi_int, isi_bool, tyName, beq_self_eq_true, tr_b, tr_t, tr_l, fAdd_i, fSub_i, fLt_i, fLe_i, fGt_i, fGe_i, fNeg_i, fAbs_i, fLen_l, fLen_t, fIsN_n, fNotN_n, fInt_b, fIx_t, fIx_l, items_t, items_l, lLc, wipeR, Bool.not_not, Bool.and_true, Bool.true_and, Bool.and_false, Bool.false_and, Bool.or_true, Bool.true_or, Bool.or_false, Bool.false_or, gNs]
        cases h2 : isS "and" a with
        | true =>
          simp only [runP, startR, sRet, sRetL, sSeq, sIf, sNil, sSet, oAnd, oOr, oNot, oIf, o1, o2, vD, cD, tB, tV, tNot, tAnd, tOr, aNil, aCons, oC, lD, iD, List.length_cons, List.length_nil, List.map_cons, List.map_nil, List.replicate, List.append_nil, List.cons_append, List.nil_append, List.getElem?_cons_zero, List.getElem?_cons_succ, List.set_cons_zero, List.set_cons_succ, List.set_nil, Option.bind_some, Option.bind_none, Option.map_some, Option.map_none, Nat.zero_add, Nat.reduceAdd, Nat.reduceSub, if_true, if_false, Bool.false_eq_true, reduceCtorEq, Bool.not_true, Bool.not_false, isi_tuple, isi_list, isi_str, isi_int, isi_bool, tyName, beq_self_eq_true, tr_b, tr_t, tr_l, fAdd_i, fSub_i, fLt_i, fLe_i, fGt_i, fGe_i, fNeg_i, fAbs_i, fLen_l, fLen_t, fIsN_n, fNotN_n, fInt_b, fIx_t, fIx_l, items_t, items_l, lLc, wipeR, Bool.not_not, Bool.and_true, Bool.true_and, Bool.and_false, Bool.false_and, Bool.or_true, Bool.true_or, Bool.or_false, Bool.false_or, gNs]
          cases b with
          | list l =>
            simp only [runP, startR, sRet, sRetL, sSeq, sIf, sNil, sSet, oAnd, oOr, oNot, oIf, o1, o2, vD, cD, tB, tV, tNot, tAnd, tOr, aNil, aCons, oC, lD, iD, List.length_cons, List.length_nil, List.map_cons, List.map_nil, List.replicate, List.append_nil, List.cons_append, List.nil_append, List.getElem?_cons_zero, List.getElem?_cons_succ, List.set_cons_zero, List.set_cons_succ, List.set_nil, Option.bind_some, Option.bind_none, Option.map_some, Option.map_none, Nat.zero_add, Nat.reduceAdd, Nat.reduceSub, if_true, if_false, Bool.false_eq_true, reduceCtorEq, Bool.not_true, Bool.not_false, isi_tuple, isi_list, isi_str, isi_int, isi_bool, tyName, beq_self_eq_true, tr_b, tr_t, tr_l, fAdd_i, fSub_i, fLt_i, fLe_i, fGt_i, fGe_i, fNeg_i, fAbs_i, fLen_l, fLen_t, fIsN_n, fNotN_n, fInt_b, fIx_t, fIx_l, items_t, items_l, lLc, wipeR, Bool.not_not, Bool.and_true, Bool.true_and, Bool.and_false, Bool.false_and, Bool.or_true, Bool.true_or, Bool.or_false, Bool.false_or]
            by_cases h5 : 2 ≤ l.length
            · simp only [decide_eq_true (show (2 : Int) ≤ (l.length : Nat) by omega), runP, startR, sRet, sRetL, sSeq, sIf, sNil, sSet, oAnd, oOr, oNot, oIf, o1, o2, vD, cD, tB, tV, tNot, tAnd, tOr, aNil, aCons, oC, lD, iD, List.length_cons, List.length_nil, List.map_cons, List.map_nil, List.replicate, List.append_nil, List.cons_append, List.nil_append, List.getElem?_cons_zero, List.getElem?_cons_succ, List.set_cons_zero, List.set_cons_succ, List.set_nil, Option.bind_some, Option.bind_none, Option.map_some, Option.map_none, Nat.zero_add, Nat.reduceAdd, Nat.reduceSub, if_true, if_false, Bool.false_eq_true, reduceCtorEq, Bool.not_true, Bool.not_false, isi_tuple, isi_list, isi_str, isi_int, isi_bool, tyName, beq_self_eq_true, tr_b, tr_t, tr_l, fAdd_i, fSub_i, fLt_i, fLe_i, fGt_i, fGe_i, fNeg_i, fAbs_i, fLen_l, fLen_t, fIsN_n, fNotN_n, fInt_b, fIx_t, fIx_l, items_t, items_l, lLc, wipeR, Bool.not_not, Bool.and_true, Bool.true_and, Bool.and_false, Bool.false_and, Bool.or_true, Bool.true_or, Bool.or_false, Bool.false_or, if_pos h5, enc] <;> rfl
            · simp only [decide_eq_false (show ¬ (2 : Int) ≤ (l.length : Nat) by omega), runP, startR, sRet, sRetL, sSeq, sIf, sNil, sSet, oAnd, oOr, oNot, oIf, o1, o2, vD, cD, tB, tV, tNot, tAnd, tOr, aNil, aCons, oC, lD, iD, List.length_cons, List.length_nil, List.map_cons, List.map_nil, List.replicate, List.append_nil, List.cons_append, List.nil_append, List.getElem?_cons_zero, List.getElem?_cons_succ, List.set_cons_zero, List.set_cons_succ, List.set_nil, Option.bind_some, Option.bind_none, Option.map_some, Option.map_none, Nat.zero_add, Nat.reduceAdd, Nat.reduceSub, if_true, if_false, Bool.false_eq_true, reduceCtorEq, Bool.not_true, Bool.not_false, isi_tuple, isi_list, isi_str, isi_int, isi_bool, tyName, beq_self_eq_true, tr_b, tr_t, tr_l, fAdd_i, fSub_i, fLt_i, fLe_i, fGt_i, fGe_i, fNeg_i, fAbs_i, fLen_l, fLen_t, fIsN_n, fNotN_n, fInt_b, fIx_t, fIx_l, items_t, items_l, lLc, wipeR, Bool.not_not, Bool.and_true, Bool.true_and, Bool.and_false, Bool.false_and, Bool.or_true, Bool.true_or, Bool.or_false, Bool.false_or, if_neg h5, enc]
          | _ => simp only [runP, startR, sRet, sRetL, sSeq, sIf, sNil, sSet, oAnd, oOr, oNot, oIf, o1, o2, vD, cD, tB, tV, tNot, tAnd, tOr, aNil, aCons, oC, lD, iD, List.length_cons, List.length_nil, List.map_cons, List.map_nil, List.replicate, List.append_nil, List.cons_append, List.nil_append, List.getElem?_cons_zero, List.getElem?_cons_succ, List.set_cons_zero, List.set_cons_succ, List.set_nil, Option.bind_some, Option.bind_none, Option.map_some, Option.map_none, Nat.zero_add, Nat.reduceAdd, Nat.reduceSub, if_true, if_false, Bool.false_eq_true, reduceCtorEq, Bool.not_true, Bool.not_false, isi_tuple, isi_list, isi_str, isi_int, isi_bool, tyName, beq_self_eq_true, tr_b, tr_t, tr_l, fAdd_i, fSub_i, fLt_i, fLe_i, fGt_i, fGe_i, fNeg_i, fAbs_i, fLen_l, fLen_t, fIsN_n, fNotN_n, fInt_b, fIx_t, fIx_l, items_t, items_l, lLc, wipeR, Bool.not_not, Bool.and_true, Bool.true_and, Bool.and_false, Bool.false_and, Bool.or_true, Bool.true_or, Bool.or_false, Bool.false_or] <;> rfl
        | false =>
          simp only [runP, startR, sRet, sRetL, sSeq, sIf, sNil, sSet, oAnd, oOr, oNot, oIf, o1, o2, vD, cD, tB, tV, tNot, tAnd, tOr, aNil, aCons, oC, lD, iD, List.length_cons, List.length_nil, List.map_cons, List.map_nil, List.replicate, List.append_nil, List.cons_append, List.nil_append, List.getElem?_cons_zero, List.getElem?_cons_succ, List.set_cons_zero, List.set_cons_succ, List.set_nil, Option.bind_some, Option.bind_none, Option.map_some, Option.map_none, Nat.zero_add, Nat.reduceAdd, Nat.reduceSub, if_true, if_false, Bool.false_eq_true, reduceCtorEq, Bool.not_true, Bool.not_false, isi_tuple, isi_list, isi_str, isi_int, isi_bool, tyName, beq_self_eq_true, tr_b, tr_t, tr_l, fAdd_i, fSub_i, fLt_i, fLe_i, fGt_i, fGe_i, fNeg_i, fAbs_i, fLen_l, fLen_t, fIsN_n, fNotN_n, fInt_b, fIx_t, fIx_l, items_t, items_l, lLc, wipeR, Bool.not_not, Bool.and_true, Bool.true_and, Bool.and_false, Bool.false_and, Bool.or_true, Bool.true_or, Bool.or_false, Bool.false_or, gNs]
          cases h3 : isS "or" a with
          | true =>
            simp only [runP, startR, sRet, sRetL, sSeq, sIf, sNil, sSet, oAnd, oOr, oNot, oIf, o1, o2, vD, cD, tB, tV, tNot, tAnd, tOr, aNil, aCons, oC, lD, iD, List.length_cons, List.length_nil, List.map_cons, List.map_nil, List.replicate, List.append_nil, List.cons_append, List.nil_append, List.getElem?_cons_zero, List.getElem?_cons_succ, List.set_cons_zero, List.set_cons_succ, List.set_nil, Option.bind_some, Option.bind_none, Option.map_some, Option.map_none, Nat.zero_add, Nat.reduceAdd, Nat.reduceSub, if_true, if_false, Bool.false_eq_true, reduceCtorEq, Bool.not_true, Bool.not_false, isi_tuple, isi_list, isi_str, isi_int, isi_bool, tyName, beq_self_eq_true, tr_b, tr_t, tr_l, fAdd_i, fSub_i, fLt_i, fLe_i, fGt_i, fGe_i, fNeg_i, fAbs_i, fLen_l, fLen_t, fIsN_n, fNotN_n, fInt_b, fIx_t, fIx_l, items_t, items_l, lLc, wipeR, Bool.not_not, Bool.and_true, Bool.true_and, Bool.and_false, Bool.false_and, Bool.or_true, Bool.true_or, Bool.or_false, Bool.false_or, gNs]
            cases b with
            | list l =>
              simp only [runP, startR, sRet, sRetL, sSeq, sIf, sNil, sSet, oAnd, oOr, oNot, oIf, o1, o2, vD, cD, tB, tV, tNot, tAnd, tOr, aNil, aCons, oC, lD, iD, List.length_cons, List.length_nil, List.map_cons, List.map_nil, List.replicate, List.append_nil, List.cons_append, List.nil_append, List.getElem?_cons_zero, List.getElem?_cons_succ, List.set_cons_zero, List.set_cons_succ, List.set_nil, Option.bind_some, Option.bind_none, Option.map_some, Option.map_none, Nat.zero_add, Nat.reduceAdd, Nat.reduceSub, if_true, if_false, Bool.false_eq_true, reduceCtorEq, Bool.not_true, Bool.not_false, isi_tuple, isi_list, isi_str, isi_int, isi_bool, tyName, beq_self_eq_true, tr_b, tr_t, tr_l, fAdd_i, fSub_i, fLt_i, fLe_i, fGt_i, fGe_i, fNeg_i, fAbs_i, fLen_l, fLen_t, fIsN_n, fNotN_n, fInt_b, fIx_t, fIx_l, items_t, items_l, lLc, wipeR, Bool.not_not, Bool.and_true, Bool.true_and, Bool.and_false, Bool.false_and, Bool.or_true, Bool.true_or, Bool.or_false, Bool.false_or]
              by_cases h5 : 2 ≤ l.length
              · simp only [decide_eq_true (show (2 : Int) ≤ (l.length : Nat) by omega), runP, startR, sRet, sRetL, sSeq, sIf, sNil, sSet, oAnd, oOr, oNot, oIf, o1, o2, vD, cD, tB, tV, tNot, tAnd, tOr, aNil, aCons, oC, lD, iD, List.length_cons, List.length_nil, List.map_cons, List.map_nil, List.replicate, List.append_nil, List.cons_append, List.nil_append, List.getElem?_cons_zero, List.getElem?_cons_succ, List.set_cons_zero, List.set_cons_succ, List.set_nil, Option.bind_some, Option.bind_none, Option.map_some, Option.map_none, Nat.zero_add, Nat.reduceAdd, Nat.reduceSub, if_true, if_false, Bool.false_eq_true, reduceCtorEq, Bool.not_true, Bool.not_false, isi_tuple, isi_list, isi_str, isi_int, isi_bool, tyName, beq_self_eq_true, tr_b, tr_t, tr_l, fAdd_i, fSub_i, fLt_i, fLe_i, fGt_i, fGe_i, fNeg_i, fAbs_i, fLen_l, fLen_t, fIsN_n, fNotN_n, fInt_b, fIx_t, fIx_l, items_t, items_l, lLc, wipeR, Bool.not_not, Bool.and_true, Bool.true_and, Bool.and_false, Bool.false_and, Bool.or_true, Bool.true_or, Bool.or_false, Bool.false_or, if_pos h5, enc] <;> rfl
              · simp only [decide_eq_false (show ¬ (2 : Int) ≤ (l.length : Nat) by omega), runP, startR, sRet, sRetL, sSeq, sIf, sNil, sSet, oAnd, oOr, oNot, oIf, o1, o2, vD, cD, tB, tV, tNot, tAnd, tOr, aNil, aCons, oC, lD, iD, List.length_cons, List.length_nil, List.map_cons, List.map_nil, List.replicate, List.append_nil, List.cons_append, List.nil_append, List.getElem?_cons_zero, List.getElem?_cons_succ, List.set_cons_zero, List.set_cons_succ, List.set_nil, Option.bind_some, Option.bind_none, Option.map_some, Option.map_none, Nat.zero_add, Nat.reduceAdd, Nat.reduceSub, if_true, if_false, Bool.false_eq_true, reduceCtorEq, Bool.not_true, Bool.not_false, isi_tuple, isi_list, isi_str, isi_int, isi_bool, tyName, beq_self_eq_true, tr_b, tr_t, tr_l, fAdd_i, fSub_i, fLt_i, fLe_i, fGt_i, fGe_i, fNeg_i, fAbs_i, fLen_l, fLen_t, fIsN_n, fNotN_n, fInt_b, fIx_t, fIx_l, items_t, items_l, lLc, wipeR, Bool.not_not, Bool.and_true, Bool.true_and, Bool.and_false, Bool.false_and, Bool.or_true, Bool.true_or, Bool.or_false, Bool.false_or, if_neg h5, enc]
            | _ => simp only [runP, startR, sRet, sRetL, sSeq, sIf, sNil, sSet, oAnd, oOr, oNot, oIf, o1, o2, vD, cD, tB, tV, tNot, tAnd, tOr, aNil, aCons, oC, lD, iD, List.length_cons, List.length_nil, List.map_cons, List.map_nil, List.replicate, List.append_nil, List.cons_append, List.nil_append, List.getElem?_cons_zero, List.getElem?_cons_succ, List.set_cons_zero, List.set_cons_succ, List.set_nil, Option.bind_some, Option.bind_none, Option.map_some, Option.map_none, Nat.zero_add, Nat.reduceAdd, Nat.reduceSub, if_true, if_false, Bool.false_eq_true, reduceCtorEq, Bool.not_true, Bool.not_false, isi_tuple, isi_list, isi_str, isi_int, isi_bool, tyName, beq_self_eq_true, tr_b, tr_t, tr_l, fAdd_i, fSub_i, fLt_i, fLe_i, fGt_i, fGe_i, fNeg_i, fAbs_i, fLen_l, fLen_t, fIsN_n, fNotN_n, fInt_b, fIx_t, fIx_l, items_t, items_l, lLc, wipeR, Bool.not_not, Bool.and_true, Bool.true_and, Bool.and_false, Bool.false_and, Bool.or_true, Bool.true_or, Bool.or_false, Bool.false_or] <;> rfl
          | false => simp only [runP, startR, sRet, sRetL, sSeq, sIf, sNil, sSet, oAnd, oOr, oNot, oIf, o1, o2, vD, cD, tB, tV, tNot, tAnd, tOr, aNil, aCons, oC, lD, iD, List.length_cons, List.length_nil, List.map_cons, List.map_nil, List.replicate, List.append_nil, List.cons_append, List.nil_append, List.getElem?_cons_zero, List.getElem?_cons_succ, List.set_cons_zero, List.set_cons_succ, List.set_nil, Option.bind_some, Option.bind_none, Option.map_some, Option.map_none, Nat.zero_add, Nat.reduceAdd, Nat.reduceSub, if_true, if_false, Bool.false_eq_true, reduceCtorEq, Bool.not_true, Bool.not_false, isi_tuple, isi_list, isi_str, isi_int, isi_bool, tyName, beq_self_eq_true, tr_b, tr_t, tr_l, fAdd_i, fSub_i, fLt_i, fLe_i, fGt_i, fGe_i, fNeg_i, fAbs_i, fLen_l, fLen_t, fIsN_n, fNotN_n, fInt_b, fIx_t, fIx_l, items_t, items_l, lLc, wipeR, Bool.not_not, Bool.and_true, Bool.true_and, Bool.and_false, Bool.false_and, Bool.or_true, Bool.true_or, Bool.or_false, Bool.false_or, gNs] <;> rfl
    | [a, b, c], ha =>
      have s1 := (ha a (by simp)).shaped (by omega)
      have s3 := (ha c (by simp)).shaped (by omega)
      have k1 := mval_str (s := "is") s1 (by decide +kernel)
      have kf := form_eq b (ha b (by simp)) (by omega)
      have kr : fIn false c (.tuple [.str "=", .str "<", .str ">", .str "<=", .str ">=", .str "!="]) = some (.bool (isIn c rels)) := fInT false s3 sh_relsT
      have kt : DL.tAnd (tV (oC F_is_form (aCons (vD 1) aNil))) (DL.tAnd (tV (o1 (fIsi "str") (vD 2))) (DL.tB (o2 (fIn false) (vD 2) (cD (.tuple [.str "=", .str "<", .str ">", .str "<=", .str ">=", .str "!="]))))) [some (.dat (.tuple [a, b, c])), some (.dat b), some (.dat c), none, none] = some (isForm b && (isStr c && isIn c rels)) := by
        simp only [runP, startR, sRet, sRetL, sSeq, sIf, sNil, sSet, oAnd, oOr, oNot, oIf, o1, o2, vD, cD, tB, tV, tNot, tAnd, tOr, aNil, aCons, oC, lD, iD, List.length_cons, List.length_nil, List.map_cons, List.map_nil, List.replicate, List.append_nil, List.cons_append, List.nil_append, List.getElem?_cons_zero, List.getElem?_cons_succ, List.set_cons_zero, List.set_cons_succ, List.set_nil, Option.bind_some, Option.bind_none, Option.map_some, Option.map_none, Nat.zero_add, Nat.reduceAdd, Nat.reduceSub, if_true, if_false, Bool.false_eq_true, reduceCtorEq, Bool.not_true, Bool.not_false, isi_tuple, isi_list, isi_str, isi_int, isi_bool, tyName, beq_self_eq_true, tr_b, tr_t, tr_l, fAdd_i, fSub_i, fLt_i, fLe_i, fGt_i, fGe_i, fNeg_i, fAbs_i, fLen_l, fLen_t, fIsN_n, fNotN_n, fInt_b, fIx_t, fIx_l, items_t, items_l, lLc, wipeR, Bool.not_not, Bool.and_true, Bool.true_and, Bool.and_false, Bool.false_and, Bool.or_true, Bool.true_or, Bool.or_false, Bool.false_or, kf, kr]
        cases isForm b with
        | false => rfl
        | true => cases c <;> simp only [isStr, runP, startR, sRet, sRetL, sSeq, sIf, sNil, sSet, oAnd, oOr, oNot, oIf, o1, o2, vD, cD, tB, tV, tNot, tAnd, tOr, aNil, aCons, oC, lD, iD, List.length_cons, List.length_nil, List.map_cons, List.map_nil, List.replicate, List.append_nil, List.cons_append, List.nil_append, List.getElem?_cons_zero, List.getElem?_cons_succ, List.set_cons_zero, List.set_cons_succ, List.set_nil, Option.bind_some, Option.bind_none, Option.map_some, Option.map_none, Nat.zero_add, Nat.reduceAdd, Nat.reduceSub, if_true, if_false, Bool.false_eq_true, reduceCtorEq, Bool.not_true, Bool.not_false, isi_tuple, isi_list, isi_str, isi_int, isi_bool, tyName, beq_self_eq_true, tr_b, tr_t, tr_l, fAdd_i, fSub_i, fLt_i, fLe_i, fGt_i, fGe_i, fNeg_i, fAbs_i, fLen_l, fLen_t, fIsN_n, fNotN_n, fInt_b, fIx_t, fIx_l, items_t, items_l, lLc, wipeR, Bool.not_not, Bool.and_true, Bool.true_and, Bool.and_false, Bool.false_and, Bool.or_true, Bool.true_or, Bool.or_false, Bool.false_or] <;> rfl
      simp only [F_within, sMatch, mcCons, mSeq, meCons, meNil, k1, gNs, mCap, mOr, mNo, mWild, mcNil, parts, sSeq, sIf, runP, startR, List.length_cons, List.length_nil, List.map_cons, List.map_nil, if_true, List.replicate, List.append_nil, List.cons_append, List.nil_append, Nat.reduceAdd, Nat.reduceSub, DL.tNot, tV, o1, vD, List.getElem?_cons_zero, isi_tuple, tyName, beq_self_eq_true, Option.bind_some, tr_b, Option.map_some, Bool.not_true, if_false, Bool.false_eq_true, sNil]
      cases h1 : isS "is" a with
      | false => simp only [runP, startR, sRet, sRetL, sSeq, sIf, sNil, sSet, oAnd, oOr, oNot, oIf, o1, o2, vD, cD, tB, tV, tNot, tAnd, tOr, aNil, aCons, oC, lD, iD, List.length_cons, List.length_nil, List.map_cons, List.map_nil, List.replicate, List.append_nil, List.cons_append, List.nil_append, List.getElem?_cons_zero, List.getElem?_cons_succ, List.set_cons_zero, List.set_cons_succ, List.set_nil, Option.bind_some, Option.bind_none, Option.map_some, Option.map_none, Nat.zero_add, Nat.reduceAdd, Nat.reduceSub, if_true, if_false, Bool.false_eq_true, reduceCtorEq, Bool.not_true, Bool.not_false, isi_tuple, isi_list, isi_str, isi_int, isi_bool, tyName, beq_self_eq_true, tr_b, tr_t, tr_l, fAdd_i, fSub_i, fLt_i, fLe_i, fGt_i, fGe_i, fNeg_i, fAbs_i, fLen_l, fLen_t, fIsN_n, fNotN_n, fInt_b, fIx_t, fIx_l, items_t, items_l, lLc, wipeR, Bool.not_not, Bool.and_true, Bool.true_and, Bool.and_false, Bool.false_and, Bool.or_true, Bool.true_or, Bool.or_false, Bool.false_or, gNs, if_neg (show ¬ 3 = 2 by decide)] <;> rfl
      | true =>
        simp only [if_true, Option.bind_some, gNs, List.set_cons_zero, List.set_cons_succ, List.nil_append, List.cons_append, Option.map_some, sRet, oIf]
        rw [kt]
        cases isForm b && (isStr c && isIn c rels) <;> rfl
    | a :: b :: c :: d :: r, _ =>
      simp only [F_within, runP, startR, sRet, sRetL, sSeq, sIf, sNil, sSet, oAnd, oOr, oNot, oIf, o1, o2, vD, cD, tB, tV, tNot, tAnd, tOr, aNil, aCons, oC, lD, iD, List.length_cons, List.length_nil, List.map_cons, List.map_nil, List.replicate, List.append_nil, List.cons_append, List.nil_append, List.getElem?_cons_zero, List.getElem?_cons_succ, List.set_cons_zero, List.set_cons_succ, List.set_nil, Option.bind_some, Option.bind_none, Option.map_some, Option.map_none, Nat.zero_add, Nat.reduceAdd, Nat.reduceSub, if_true, if_false, Bool.false_eq_true, reduceCtorEq, Bool.not_true, Bool.not_false, isi_tuple, isi_list, isi_str, isi_int, isi_bool, tyName, beq_self_eq_true, tr_b, tr_t, tr_l, fAdd_i, fSub_i, fLt_i, fLe_i, fGt_i, fGe_i, fNeg_i, fAbs_i, fLen_l, fLen_t, fIsN_n, fNotN_n, fInt_b, fIx_t, fIx_l, items_t, items_l, lLc, wipeR, Bool.not_not, Bool.and_true, Bool.true_and, Bool.and_false, Bool.false_and, Bool.or_true, Bool.true_or, Bool.or_false, Bool.false_or, sMatch, mcCons, mSeq, if_neg (show ¬ r.length + 1 + 1 + 1 + 1 = 3 by omega), if_neg (show ¬ r.length + 1 + 1 + 1 + 1 = 2 by omega), mWild, gNs, parts]
      rfl
  | _ => simp only [F_within, runP, startR, sRet, sRetL, sSeq, sIf, sNil, sSet, oAnd, oOr, oNot, oIf, o1, o2, vD, cD, tB, tV, tNot, tAnd, tOr, aNil, aCons, oC, lD, iD, List.length_cons, List.length_nil, List.map_cons, List.map_nil, List.replicate, List.append_nil, List.cons_append, List.nil_append, List.getElem?_cons_zero, List.getElem?_cons_succ, List.set_cons_zero, List.set_cons_succ, List.set_nil, Option.bind_some, Option.bind_none, Option.map_some, Option.map_none, Nat.zero_add, Nat.reduceAdd, Nat.reduceSub, if_true, if_false, Bool.false_eq_true, reduceCtorEq, Bool.not_true, Bool.not_false, isi_tuple, isi_list, isi_str, isi_int, isi_bool, tyName, beq_self_eq_true, tr_b, tr_t, tr_l, fAdd_i, fSub_i, fLt_i, fLe_i, fGt_i, fGe_i, fNeg_i, fAbs_i, fLen_l, fLen_t, fIsN_n, fNotN_n, fInt_b, fIx_t, fIx_l, items_t, items_l, lLc, wipeR, Bool.not_not, Bool.and_true, Bool.true_and, Bool.and_false, Bool.false_and, Bool.or_true, Bool.true_or, Bool.or_false, Bool.false_or, parts] <;> rfl
end K77

set_option Elab.async false
set_option linter.all false
set_option maxRecDepth 100000
set_option maxHeartbeats 4000000
/-! M5: parts by the law's reading. -/
namespace K77
open PySem DL
open L2 (atI ixN)
theorem eqv_s' (d : PyData) (s : Str) : PyData.eqv (.str s) d = isS s d := by
  cases d with
  | str x =>
    rw [PyData.eqv, isS, Bool.eq_iff_iff, beq_iff_eq, beq_iff_eq]
    exact eq_comm
  | _ => simp [PyData.eqv, isS]
def andor : List PyData := [.str "and", .str "or"]
theorem sh_andor : SeqAt.shaped (.tuple andor) = true := by decide +kernel
theorem in_andor (d : PyData) : isIn d andor = (isS "and" d || isS "or" d) := by
  unfold isIn andor
  simp only [List.any_cons, List.any_nil, eqv_s', Bool.or_false]
theorem str_is {d : PyData} (h : isStr d = true) : ∃ x, d = .str x := by
  cases d <;> first | exact ⟨_, rfl⟩ | cases h
theorem isS_str {s : Str} {d : PyData} (h : isStr d = false) : isS s d = false := by
  cases d <;> first | rfl | cases h
theorem isi_str' (d : PyData) : fIsi "str" d = some (.bool (isStr d)) := by
  rw [isi_str]
  cases d <;> rfl
theorem isS_ne {s t : Str} {d : PyData} (h : isS s d = true) (hn : (s == t) = false) : isS t d = false := by
  have e := isS_iff.mp h
  subst e
  exact hn
theorem sb (s : Str) (hs : PyData.strOk s = true) {d : PyData} (h : SeqAt.shaped d = true) : fEq d (.str s) = some (.bool (isS s d)) := by
  rw [fEq_of h (shaped_str hs), eqv_s]
theorem fEq_ii (i j : Int) : fEq (.int i) (.int j) = some (.bool (i == j)) := by
  rw [fEq_of (shaped_int i) (shaped_int j)]
  rfl
theorem fNe_ii (i j : Int) : fNe (.int i) (.int j) = some (.bool (!(i == j))) := by
  rw [fNe_of (shaped_int i) (shaped_int j)]
  rfl
def relL : DLs := lLst (aCons (cD (.str "=")) (aCons (cD (.str "<")) (aCons (cD (.str ">")) (aCons (cD (.str "<=")) (aCons (cD (.str ">=")) (aCons (cD (.str "!=")) aNil))))))
theorem relL_eq (ρ : Rho) : relL ρ = some rels := rfl
def pickL : DLs := lLst (aCons (lD (lLst aNil)) (aCons (cD .none) aNil))
theorem pickL_eq (ρ : Rho) : pickL ρ = some [.list [], .none] := rfl
def aoT : DE := oTup (aCons (cD (.str "and")) (aCons (cD (.str "or")) aNil))
theorem aoT_eq (ρ : Rho) : aoT ρ = some (.tuple andor) := rfl
def w1 : Rho → Option Bool := (DL.tOr (DL.tNot (tV (o1 (fIsi "tuple") (vD 0)))) (DL.tOr (DL.tNot (DL.tB (o3 fLe fLe (cD (.int 2)) (oC fLen (aCons (vD 0) aNil)) (cD (.int 3))))) (DL.tNot (tV (o1 (fIsi "str") (o2 fIx (vD 0) (cD (.int 0))))))))
def w2 : Rho → Option Bool := (DL.tAnd (DL.tB (o2 fEq (o2 fIx (vD 0) (cD (.int 0))) (cD (.str "is")))) (DL.tAnd (DL.tB (o2 fEq (oC fLen (aCons (vD 0) aNil)) (cD (.int 3)))) (DL.tAnd (tV (oC F__law_is_form (aCons (o2 fIx (vD 0) (cD (.int 1))) aNil))) (tV (o1 (fIsi "str") (o2 fIx (vD 0) (cD (.int 2))))))))
def w3 : Rho → Option Bool := (DL.tAnd (DL.tB (o2 fEq (o2 fIx (vD 0) (cD (.int 0))) (cD (.str "not")))) (DL.tB (o2 fEq (oC fLen (aCons (vD 0) aNil)) (cD (.int 2)))))
def w4 : Rho → Option Bool := (DL.tAnd (DL.tB (o2 (fIn false) (o2 fIx (vD 0) (cD (.int 0))) aoT)) (DL.tAnd (DL.tB (o2 fEq (oC fLen (aCons (vD 0) aNil)) (cD (.int 2)))) (DL.tAnd (tV (o1 (fIsi "list") (o2 fIx (vD 0) (cD (.int 1))))) (DL.tB (o2 fGt (oC fLen (aCons (o2 fIx (vD 0) (cD (.int 1))) aNil)) (cD (.int 1)))))))
theorem w_split : d__law_within = sSeq (sIf w1 (sRet (cD .none)) sNil) (sSeq (sIf w2 (sRet (o2 fIx (lD pickL) (oC fInt (aCons (o2 (fIn true) (o2 fIx (vD 0) (cD (.int 2))) (lD relL)) aNil)))) sNil)
    (sSeq (sIf w3 (sRetL (lLst (aCons (o2 fIx (vD 0) (cD (.int 1))) aNil))) sNil) (sSeq (sIf w4 (sRet (o2 fIx (vD 0) (cD (.int 1)))) sNil) (sRet (cD .none))))) := rfl
theorem w1_2 (a b : PyData) : w1 [some (.dat (.tuple [a, b]))] = some (!isStr a) := by
  simp only [w1, runP, startR, sRet, sRetL, sSeq, sIf, sNil, sSet, oAnd, oOr, oNot, oIf, o1, o2, vD, cD, tB, tV, tNot, tAnd, tOr, aNil, aCons, oC, lD, iD, List.length_cons, List.length_nil, List.map_cons, List.map_nil, List.replicate, List.append_nil, List.cons_append, List.nil_append, List.getElem?_cons_zero, List.getElem?_cons_succ, List.set_cons_zero, List.set_cons_succ, List.set_nil, Option.bind_some, Option.bind_none, Option.map_some, Option.map_none, Nat.zero_add, Nat.reduceAdd, Nat.reduceSub, if_true, if_false, Bool.false_eq_true, reduceCtorEq, Bool.not_true, Bool.not_false, isi_tuple, isi_list, isi_str, isi_int, isi_bool, tyName, beq_self_eq_true, tr_b, tr_t, tr_l, fAdd_i, fSub_i, fLt_i, fLe_i, fGt_i, fGe_i, fNeg_i, fAbs_i, fLen_l, fLen_t, fIsN_n, fNotN_n, fInt_b, fIx_t, fIx_l, items_t, items_l, lLc, wipeR, Bool.not_not, Bool.and_true, Bool.true_and, Bool.and_false, Bool.false_and, Bool.or_true, Bool.true_or, Bool.or_false, Bool.false_or, o3, atI_0, isi_str', show decide ((2 : Int) ≤ ((2 : Nat) : Int)) = true by decide, show decide (((2 : Nat) : Int) ≤ (3 : Int)) = true by decide]
  cases a <;> rfl
theorem w1_3 (a b c : PyData) : w1 [some (.dat (.tuple [a, b, c]))] = some (!isStr a) := by
  simp only [w1, runP, startR, sRet, sRetL, sSeq, sIf, sNil, sSet, oAnd, oOr, oNot, oIf, o1, o2, vD, cD, tB, tV, tNot, tAnd, tOr, aNil, aCons, oC, lD, iD, List.length_cons, List.length_nil, List.map_cons, List.map_nil, List.replicate, List.append_nil, List.cons_append, List.nil_append, List.getElem?_cons_zero, List.getElem?_cons_succ, List.set_cons_zero, List.set_cons_succ, List.set_nil, Option.bind_some, Option.bind_none, Option.map_some, Option.map_none, Nat.zero_add, Nat.reduceAdd, Nat.reduceSub, if_true, if_false, Bool.false_eq_true, reduceCtorEq, Bool.not_true, Bool.not_false, isi_tuple, isi_list, isi_str, isi_int, isi_bool, tyName, beq_self_eq_true, tr_b, tr_t, tr_l, fAdd_i, fSub_i, fLt_i, fLe_i, fGt_i, fGe_i, fNeg_i, fAbs_i, fLen_l, fLen_t, fIsN_n, fNotN_n, fInt_b, fIx_t, fIx_l, items_t, items_l, lLc, wipeR, Bool.not_not, Bool.and_true, Bool.true_and, Bool.and_false, Bool.false_and, Bool.or_true, Bool.true_or, Bool.or_false, Bool.false_or, o3, atI_0, isi_str', show decide ((2 : Int) ≤ ((3 : Nat) : Int)) = true by decide, show decide (((3 : Nat) : Int) ≤ (3 : Int)) = true by decide]
  cases a <;> rfl
theorem w2_2 {a b : PyData} (h : SeqAt.shaped a = true) : w2 [some (.dat (.tuple [a, b]))] = some false := by
  simp only [w2, runP, startR, sRet, sRetL, sSeq, sIf, sNil, sSet, oAnd, oOr, oNot, oIf, o1, o2, vD, cD, tB, tV, tNot, tAnd, tOr, aNil, aCons, oC, lD, iD, List.length_cons, List.length_nil, List.map_cons, List.map_nil, List.replicate, List.append_nil, List.cons_append, List.nil_append, List.getElem?_cons_zero, List.getElem?_cons_succ, List.set_cons_zero, List.set_cons_succ, List.set_nil, Option.bind_some, Option.bind_none, Option.map_some, Option.map_none, Nat.zero_add, Nat.reduceAdd, Nat.reduceSub, if_true, if_false, Bool.false_eq_true, reduceCtorEq, Bool.not_true, Bool.not_false, isi_tuple, isi_list, isi_str, isi_int, isi_bool, tyName, beq_self_eq_true, tr_b, tr_t, tr_l, fAdd_i, fSub_i, fLt_i, fLe_i, fGt_i, fGe_i, fNeg_i, fAbs_i, fLen_l, fLen_t, fIsN_n, fNotN_n, fInt_b, fIx_t, fIx_l, items_t, items_l, lLc, wipeR, Bool.not_not, Bool.and_true, Bool.true_and, Bool.and_false, Bool.false_and, Bool.or_true, Bool.true_or, Bool.or_false, Bool.false_or, atI_0, sb "is" (by decide +kernel) h, fEq_ii, show (((2 : Nat) : Int) == (3 : Int)) = false by decide]
  cases isS "is" a <;> rfl
theorem w2_3 {n : Nat} {a b c : PyData} (h : SeqAt.shaped a = true) (hb : Fine n b) (hn : n ≤ 64) : w2 [some (.dat (.tuple [a, b, c]))] = some (isS "is" a && (isForm b && isStr c)) := by
  simp only [w2, runP, startR, sRet, sRetL, sSeq, sIf, sNil, sSet, oAnd, oOr, oNot, oIf, o1, o2, vD, cD, tB, tV, tNot, tAnd, tOr, aNil, aCons, oC, lD, iD, List.length_cons, List.length_nil, List.map_cons, List.map_nil, List.replicate, List.append_nil, List.cons_append, List.nil_append, List.getElem?_cons_zero, List.getElem?_cons_succ, List.set_cons_zero, List.set_cons_succ, List.set_nil, Option.bind_some, Option.bind_none, Option.map_some, Option.map_none, Nat.zero_add, Nat.reduceAdd, Nat.reduceSub, if_true, if_false, Bool.false_eq_true, reduceCtorEq, Bool.not_true, Bool.not_false, isi_tuple, isi_list, isi_str, isi_int, isi_bool, tyName, beq_self_eq_true, tr_b, tr_t, tr_l, fAdd_i, fSub_i, fLt_i, fLe_i, fGt_i, fGe_i, fNeg_i, fAbs_i, fLen_l, fLen_t, fIsN_n, fNotN_n, fInt_b, fIx_t, fIx_l, items_t, items_l, lLc, wipeR, Bool.not_not, Bool.and_true, Bool.true_and, Bool.and_false, Bool.false_and, Bool.or_true, Bool.true_or, Bool.or_false, Bool.false_or, atI_0, atI_1, atI_2, sb "is" (by decide +kernel) h, fEq_ii, show (((3 : Nat) : Int) == (3 : Int)) = true by decide, lform_eq b hb hn, isi_str']
  cases isS "is" a
  · rfl
  · cases isForm b
    · rfl
    · cases c <;> rfl
theorem w3_2 {a b : PyData} (h : SeqAt.shaped a = true) : w3 [some (.dat (.tuple [a, b]))] = some (isS "not" a) := by
  simp only [w3, runP, startR, sRet, sRetL, sSeq, sIf, sNil, sSet, oAnd, oOr, oNot, oIf, o1, o2, vD, cD, tB, tV, tNot, tAnd, tOr, aNil, aCons, oC, lD, iD, List.length_cons, List.length_nil, List.map_cons, List.map_nil, List.replicate, List.append_nil, List.cons_append, List.nil_append, List.getElem?_cons_zero, List.getElem?_cons_succ, List.set_cons_zero, List.set_cons_succ, List.set_nil, Option.bind_some, Option.bind_none, Option.map_some, Option.map_none, Nat.zero_add, Nat.reduceAdd, Nat.reduceSub, if_true, if_false, Bool.false_eq_true, reduceCtorEq, Bool.not_true, Bool.not_false, isi_tuple, isi_list, isi_str, isi_int, isi_bool, tyName, beq_self_eq_true, tr_b, tr_t, tr_l, fAdd_i, fSub_i, fLt_i, fLe_i, fGt_i, fGe_i, fNeg_i, fAbs_i, fLen_l, fLen_t, fIsN_n, fNotN_n, fInt_b, fIx_t, fIx_l, items_t, items_l, lLc, wipeR, Bool.not_not, Bool.and_true, Bool.true_and, Bool.and_false, Bool.false_and, Bool.or_true, Bool.true_or, Bool.or_false, Bool.false_or, atI_0, sb "not" (by decide +kernel) h, fEq_ii, show (((2 : Nat) : Int) == (2 : Int)) = true by decide]
  cases isS "not" a <;> rfl
theorem w3_3 {a b c : PyData} (h : SeqAt.shaped a = true) : w3 [some (.dat (.tuple [a, b, c]))] = some false := by
  simp only [w3, runP, startR, sRet, sRetL, sSeq, sIf, sNil, sSet, oAnd, oOr, oNot, oIf, o1, o2, vD, cD, tB, tV, tNot, tAnd, tOr, aNil, aCons, oC, lD, iD, List.length_cons, List.length_nil, List.map_cons, List.map_nil, List.replicate, List.append_nil, List.cons_append, List.nil_append, List.getElem?_cons_zero, List.getElem?_cons_succ, List.set_cons_zero, List.set_cons_succ, List.set_nil, Option.bind_some, Option.bind_none, Option.map_some, Option.map_none, Nat.zero_add, Nat.reduceAdd, Nat.reduceSub, if_true, if_false, Bool.false_eq_true, reduceCtorEq, Bool.not_true, Bool.not_false, isi_tuple, isi_list, isi_str, isi_int, isi_bool, tyName, beq_self_eq_true, tr_b, tr_t, tr_l, fAdd_i, fSub_i, fLt_i, fLe_i, fGt_i, fGe_i, fNeg_i, fAbs_i, fLen_l, fLen_t, fIsN_n, fNotN_n, fInt_b, fIx_t, fIx_l, items_t, items_l, lLc, wipeR, Bool.not_not, Bool.and_true, Bool.true_and, Bool.and_false, Bool.false_and, Bool.or_true, Bool.true_or, Bool.or_false, Bool.false_or, atI_0, sb "not" (by decide +kernel) h, fEq_ii, show (((3 : Nat) : Int) == (2 : Int)) = false by decide]
  cases isS "not" a <;> rfl
theorem w4_3 {a b c : PyData} (h : SeqAt.shaped a = true) : w4 [some (.dat (.tuple [a, b, c]))] = some false := by
  simp only [w4, runP, startR, sRet, sRetL, sSeq, sIf, sNil, sSet, oAnd, oOr, oNot, oIf, o1, o2, vD, cD, tB, tV, tNot, tAnd, tOr, aNil, aCons, oC, lD, iD, List.length_cons, List.length_nil, List.map_cons, List.map_nil, List.replicate, List.append_nil, List.cons_append, List.nil_append, List.getElem?_cons_zero, List.getElem?_cons_succ, List.set_cons_zero, List.set_cons_succ, List.set_nil, Option.bind_some, Option.bind_none, Option.map_some, Option.map_none, Nat.zero_add, Nat.reduceAdd, Nat.reduceSub, if_true, if_false, Bool.false_eq_true, reduceCtorEq, Bool.not_true, Bool.not_false, isi_tuple, isi_list, isi_str, isi_int, isi_bool, tyName, beq_self_eq_true, tr_b, tr_t, tr_l, fAdd_i, fSub_i, fLt_i, fLe_i, fGt_i, fGe_i, fNeg_i, fAbs_i, fLen_l, fLen_t, fIsN_n, fNotN_n, fInt_b, fIx_t, fIx_l, items_t, items_l, lLc, wipeR, Bool.not_not, Bool.and_true, Bool.true_and, Bool.and_false, Bool.false_and, Bool.or_true, Bool.true_or, Bool.or_false, Bool.false_or, atI_0, aoT_eq, fInT false h sh_andor, in_andor, fEq_ii, show (((3 : Nat) : Int) == (2 : Int)) = false by decide]
  cases (isS "and" a || isS "or" a) <;> rfl
def lst2 : PyData → Bool
  | .list l => decide (2 ≤ l.length)
  | _ => false
theorem w4_2 {a b : PyData} (h : SeqAt.shaped a = true) : w4 [some (.dat (.tuple [a, b]))] = some ((isS "and" a || isS "or" a) && lst2 b) := by
  simp only [w4, runP, startR, sRet, sRetL, sSeq, sIf, sNil, sSet, oAnd, oOr, oNot, oIf, o1, o2, vD, cD, tB, tV, tNot, tAnd, tOr, aNil, aCons, oC, lD, iD, List.length_cons, List.length_nil, List.map_cons, List.map_nil, List.replicate, List.append_nil, List.cons_append, List.nil_append, List.getElem?_cons_zero, List.getElem?_cons_succ, List.set_cons_zero, List.set_cons_succ, List.set_nil, Option.bind_some, Option.bind_none, Option.map_some, Option.map_none, Nat.zero_add, Nat.reduceAdd, Nat.reduceSub, if_true, if_false, Bool.false_eq_true, reduceCtorEq, Bool.not_true, Bool.not_false, isi_tuple, isi_list, isi_str, isi_int, isi_bool, tyName, beq_self_eq_true, tr_b, tr_t, tr_l, fAdd_i, fSub_i, fLt_i, fLe_i, fGt_i, fGe_i, fNeg_i, fAbs_i, fLen_l, fLen_t, fIsN_n, fNotN_n, fInt_b, fIx_t, fIx_l, items_t, items_l, lLc, wipeR, Bool.not_not, Bool.and_true, Bool.true_and, Bool.and_false, Bool.false_and, Bool.or_true, Bool.true_or, Bool.or_false, Bool.false_or, atI_0, atI_1, aoT_eq, fInT false h sh_andor, in_andor, fEq_ii, show (((2 : Nat) : Int) == (2 : Int)) = true by decide]
  cases (isS "and" a || isS "or" a)
  · rfl
  · cases b with
    | list l =>
      simp only [runP, startR, sRet, sRetL, sSeq, sIf, sNil, sSet, oAnd, oOr, oNot, oIf, o1, o2, vD, cD, tB, tV, tNot, tAnd, tOr, aNil, aCons, oC, lD, iD, List.length_cons, List.length_nil, List.map_cons, List.map_nil, List.replicate, List.append_nil, List.cons_append, List.nil_append, List.getElem?_cons_zero, List.getElem?_cons_succ, List.set_cons_zero, List.set_cons_succ, List.set_nil, Option.bind_some, Option.bind_none, Option.map_some, Option.map_none, Nat.zero_add, Nat.reduceAdd, Nat.reduceSub, if_true, if_false, Bool.false_eq_true, reduceCtorEq, Bool.not_true, Bool.not_false, isi_tuple, isi_list, isi_str, isi_int, isi_bool, tyName, beq_self_eq_true, tr_b, tr_t, tr_l, fAdd_i, fSub_i, fLt_i, fLe_i, fGt_i, fGe_i, fNeg_i, fAbs_i, fLen_l, fLen_t, fIsN_n, fNotN_n, fInt_b, fIx_t, fIx_l, items_t, items_l, lLc, wipeR, Bool.not_not, Bool.and_true, Bool.true_and, Bool.and_false, Bool.false_and, Bool.or_true, Bool.true_or, Bool.or_false, Bool.false_or, lst2]
      congr 1
      apply Bool.eq_iff_iff.mpr
      rw [decide_eq_true_eq, decide_eq_true_eq]
      omega
    | _ => rfl
theorem sz2 (a : PyData) : lLst (aCons (o2 fIx (vD 0) (cD (.int 1))) aNil) [some (.dat (.tuple [a, b]))] = some [b] := by
  simp only [lLst, runP, startR, sRet, sRetL, sSeq, sIf, sNil, sSet, oAnd, oOr, oNot, oIf, o1, o2, vD, cD, tB, tV, tNot, tAnd, tOr, aNil, aCons, oC, lD, iD, List.length_cons, List.length_nil, List.map_cons, List.map_nil, List.replicate, List.append_nil, List.cons_append, List.nil_append, List.getElem?_cons_zero, List.getElem?_cons_succ, List.set_cons_zero, List.set_cons_succ, List.set_nil, Option.bind_some, Option.bind_none, Option.map_some, Option.map_none, Nat.zero_add, Nat.reduceAdd, Nat.reduceSub, if_true, if_false, Bool.false_eq_true, reduceCtorEq, Bool.not_true, Bool.not_false, isi_tuple, isi_list, isi_str, isi_int, isi_bool, tyName, beq_self_eq_true, tr_b, tr_t, tr_l, fAdd_i, fSub_i, fLt_i, fLe_i, fGt_i, fGe_i, fNeg_i, fAbs_i, fLen_l, fLen_t, fIsN_n, fNotN_n, fInt_b, fIx_t, fIx_l, items_t, items_l, lLc, wipeR, Bool.not_not, Bool.and_true, Bool.true_and, Bool.and_false, Bool.false_and, Bool.or_true, Bool.true_or, Bool.or_false, Bool.false_or, atI_1]
  rw [if_pos (size_ok (by decide))]
theorem lwithin_eq {n : Nat} (v : PyData) (hf : Fine n v) (hn : n ≤ 64) : F__law_within [v] = some (enc (parts v)) := by
  cases v with
  | tuple cs =>
    obtain ⟨_, m, rfl, ha⟩ := fine_tl hf
    match cs, ha with
    | [], _ => rfl
    | [a], _ => rfl
    | [a, b], ha =>
      have s1 := (ha a (by simp)).shaped (by omega)
      simp only [F__law_within, w_split, sSeq, sIf, runP, startR, List.length_cons, List.length_nil, List.map_cons, List.map_nil, if_true, List.replicate, List.append_nil, List.cons_append, List.nil_append, Nat.reduceAdd, Nat.reduceSub, w1_2]
      cases hs : isStr a with
      | false => simp only [runP, startR, sRet, sRetL, sSeq, sIf, sNil, sSet, oAnd, oOr, oNot, oIf, o1, o2, vD, cD, tB, tV, tNot, tAnd, tOr, aNil, aCons, oC, lD, iD, List.length_cons, List.length_nil, List.map_cons, List.map_nil, List.replicate, List.append_nil, List.cons_append, List.nil_append, List.getElem?_cons_zero, List.getElem?_cons_succ, List.set_cons_zero, List.set_cons_succ, List.set_nil, Option.bind_some, Option.bind_none, Option.map_some, Option.map_none, Nat.zero_add, Nat.reduceAdd, Nat.reduceSub, if_true, if_false, Bool.false_eq_true, reduceCtorEq, Bool.not_true, Bool.not_false, isi_tuple, isi_list, isi_str, isi_int, isi_bool, tyName, beq_self_eq_true, tr_b, tr_t, tr_l, fAdd_i, fSub_i, fLt_i, fLe_i, fGt_i, fGe_i, fNeg_i, fAbs_i, fLen_l, fLen_t, fIsN_n, fNotN_n, fInt_b, fIx_t, fIx_l, items_t, items_l, lLc, wipeR, Bool.not_not, Bool.and_true, Bool.true_and, Bool.and_false, Bool.false_and, Bool.or_true, Bool.true_or, Bool.or_false, Bool.false_or, parts, isS_str hs, enc] <;> rfl
      | true =>
        simp only [Bool.not_true, Option.bind_some, Bool.false_eq_true, if_false, sNil, w2_2 s1, w3_2 s1, parts]
        cases h1 : isS "not" a with
        | true => simp only [if_true, sRetL, sz2, Option.map_some, Option.bind_some] <;> rfl
        | false =>
          simp only [Bool.false_eq_true, if_false, Option.bind_some, w4_2 s1]
          cases h2 : (isS "and" a || isS "or" a) with
          | false => rfl
          | true =>
            cases b with
            | list l =>
              by_cases h5 : 2 ≤ l.length
              · simp only [lst2, decide_eq_true h5, if_pos h5, runP, startR, sRet, sRetL, sSeq, sIf, sNil, sSet, oAnd, oOr, oNot, oIf, o1, o2, vD, cD, tB, tV, tNot, tAnd, tOr, aNil, aCons, oC, lD, iD, List.length_cons, List.length_nil, List.map_cons, List.map_nil, List.replicate, List.append_nil, List.cons_append, List.nil_append, List.getElem?_cons_zero, List.getElem?_cons_succ, List.set_cons_zero, List.set_cons_succ, List.set_nil, Option.bind_some, Option.bind_none, Option.map_some, Option.map_none, Nat.zero_add, Nat.reduceAdd, Nat.reduceSub, if_true, if_false, Bool.false_eq_true, reduceCtorEq, Bool.not_true, Bool.not_false, isi_tuple, isi_list, isi_str, isi_int, isi_bool, tyName, beq_self_eq_true, tr_b, tr_t, tr_l, fAdd_i, fSub_i, fLt_i, fLe_i, fGt_i, fGe_i, fNeg_i, fAbs_i, fLen_l, fLen_t, fIsN_n, fNotN_n, fInt_b, fIx_t, fIx_l, items_t, items_l, lLc, wipeR, Bool.not_not, Bool.and_true, Bool.true_and, Bool.and_false, Bool.false_and, Bool.or_true, Bool.true_or, Bool.or_false, Bool.false_or, atI_1, enc]
              · simp only [lst2, decide_eq_false h5, if_neg h5, runP, startR, sRet, sRetL, sSeq, sIf, sNil, sSet, oAnd, oOr, oNot, oIf, o1, o2, vD, cD, tB, tV, tNot, tAnd, tOr, aNil, aCons, oC, lD, iD, List.length_cons, List.length_nil, List.map_cons, List.map_nil, List.replicate, List.append_nil, List.cons_append, List.nil_append, List.getElem?_cons_zero, List.getElem?_cons_succ, List.set_cons_zero, List.set_cons_succ, List.set_nil, Option.bind_some, Option.bind_none, Option.map_some, Option.map_none, Nat.zero_add, Nat.reduceAdd, Nat.reduceSub, if_true, if_false, Bool.false_eq_true, reduceCtorEq, Bool.not_true, Bool.not_false, isi_tuple, isi_list, isi_str, isi_int, isi_bool, tyName, beq_self_eq_true, tr_b, tr_t, tr_l, fAdd_i, fSub_i, fLt_i, fLe_i, fGt_i, fGe_i, fNeg_i, fAbs_i, fLen_l, fLen_t, fIsN_n, fNotN_n, fInt_b, fIx_t, fIx_l, items_t, items_l, lLc, wipeR, Bool.not_not, Bool.and_true, Bool.true_and, Bool.and_false, Bool.false_and, Bool.or_true, Bool.true_or, Bool.or_false, Bool.false_or, enc]
            | _ => rfl
    | [a, b, c], ha =>
      have s1 := (ha a (by simp)).shaped (by omega)
      have s3 := (ha c (by simp)).shaped (by omega)
      simp only [F__law_within, w_split, sSeq, sIf, runP, startR, List.length_cons, List.length_nil, List.map_cons, List.map_nil, if_true, List.replicate, List.append_nil, List.cons_append, List.nil_append, Nat.reduceAdd, Nat.reduceSub, w1_3]
      cases hs : isStr a with
      | false => simp only [runP, startR, sRet, sRetL, sSeq, sIf, sNil, sSet, oAnd, oOr, oNot, oIf, o1, o2, vD, cD, tB, tV, tNot, tAnd, tOr, aNil, aCons, oC, lD, iD, List.length_cons, List.length_nil, List.map_cons, List.map_nil, List.replicate, List.append_nil, List.cons_append, List.nil_append, List.getElem?_cons_zero, List.getElem?_cons_succ, List.set_cons_zero, List.set_cons_succ, List.set_nil, Option.bind_some, Option.bind_none, Option.map_some, Option.map_none, Nat.zero_add, Nat.reduceAdd, Nat.reduceSub, if_true, if_false, Bool.false_eq_true, reduceCtorEq, Bool.not_true, Bool.not_false, isi_tuple, isi_list, isi_str, isi_int, isi_bool, tyName, beq_self_eq_true, tr_b, tr_t, tr_l, fAdd_i, fSub_i, fLt_i, fLe_i, fGt_i, fGe_i, fNeg_i, fAbs_i, fLen_l, fLen_t, fIsN_n, fNotN_n, fInt_b, fIx_t, fIx_l, items_t, items_l, lLc, wipeR, Bool.not_not, Bool.and_true, Bool.true_and, Bool.and_false, Bool.false_and, Bool.or_true, Bool.true_or, Bool.or_false, Bool.false_or, parts, isS_str hs, enc] <;> rfl
      | true =>
        simp only [Bool.not_true, Option.bind_some, Bool.false_eq_true, if_false, sNil, w2_3 s1 (ha b (by simp)) (show m ≤ 64 by omega), parts]
        cases h1 : isS "is" a with
        | false => simp only [Bool.false_and, Bool.false_eq_true, if_false, Option.bind_some, w3_3 s1, w4_3 s1] <;> rfl
        | true =>
          simp only [Bool.true_and]
          cases h2 : isForm b with
          | false => simp only [Bool.false_and, Bool.false_eq_true, if_false, Option.bind_some, w3_3 s1, w4_3 s1] <;> rfl
          | true =>
            simp only [Bool.true_and]
            cases h3 : isStr c with
            | false => simp only [Bool.false_and, Bool.false_eq_true, if_false, Option.bind_some, w3_3 s1, w4_3 s1] <;> rfl
            | true =>
              simp only [runP, startR, sRet, sRetL, sSeq, sIf, sNil, sSet, oAnd, oOr, oNot, oIf, o1, o2, vD, cD, tB, tV, tNot, tAnd, tOr, aNil, aCons, oC, lD, iD, List.length_cons, List.length_nil, List.map_cons, List.map_nil, List.replicate, List.append_nil, List.cons_append, List.nil_append, List.getElem?_cons_zero, List.getElem?_cons_succ, List.set_cons_zero, List.set_cons_succ, List.set_nil, Option.bind_some, Option.bind_none, Option.map_some, Option.map_none, Nat.zero_add, Nat.reduceAdd, Nat.reduceSub, if_true, if_false, Bool.false_eq_true, reduceCtorEq, Bool.not_true, Bool.not_false, isi_tuple, isi_list, isi_str, isi_int, isi_bool, tyName, beq_self_eq_true, tr_b, tr_t, tr_l, fAdd_i, fSub_i, fLt_i, fLe_i, fGt_i, fGe_i, fNeg_i, fAbs_i, fLen_l, fLen_t, fIsN_n, fNotN_n, fInt_b, fIx_t, fIx_l, items_t, items_l, lLc, wipeR, Bool.not_not, Bool.and_true, Bool.true_and, Bool.and_false, Bool.false_and, Bool.or_true, Bool.true_or, Bool.or_false, Bool.false_or, atI_2, pickL_eq, relL_eq, fInL true s3 sh_rels]
              cases isIn c rels with
              | true => simp only [runP, startR, sRet, sRetL, sSeq, sIf, sNil, sSet, oAnd, oOr, oNot, oIf, o1, o2, vD, cD, tB, tV, tNot, tAnd, tOr, aNil, aCons, oC, lD, iD, List.length_cons, List.length_nil, List.map_cons, List.map_nil, List.replicate, List.append_nil, List.cons_append, List.nil_append, List.getElem?_cons_zero, List.getElem?_cons_succ, List.set_cons_zero, List.set_cons_succ, List.set_nil, Option.bind_some, Option.bind_none, Option.map_some, Option.map_none, Nat.zero_add, Nat.reduceAdd, Nat.reduceSub, if_true, if_false, Bool.false_eq_true, reduceCtorEq, Bool.not_true, Bool.not_false, isi_tuple, isi_list, isi_str, isi_int, isi_bool, tyName, beq_self_eq_true, tr_b, tr_t, tr_l, fAdd_i, fSub_i, fLt_i, fLe_i, fGt_i, fGe_i, fNeg_i, fAbs_i, fLen_l, fLen_t, fIsN_n, fNotN_n, fInt_b, fIx_t, fIx_l, items_t, items_l, lLc, wipeR, Bool.not_not, Bool.and_true, Bool.true_and, Bool.and_false, Bool.false_and, Bool.or_true, Bool.true_or, Bool.or_false, Bool.false_or, atI_0, atI_1, enc]
              | false => simp only [runP, startR, sRet, sRetL, sSeq, sIf, sNil, sSet, oAnd, oOr, oNot, oIf, o1, o2, vD, cD, tB, tV, tNot, tAnd, tOr, aNil, aCons, oC, lD, iD, List.length_cons, List.length_nil, List.map_cons, List.map_nil, List.replicate, List.append_nil, List.cons_append, List.nil_append, List.getElem?_cons_zero, List.getElem?_cons_succ, List.set_cons_zero, List.set_cons_succ, List.set_nil, Option.bind_some, Option.bind_none, Option.map_some, Option.map_none, Nat.zero_add, Nat.reduceAdd, Nat.reduceSub, if_true, if_false, Bool.false_eq_true, reduceCtorEq, Bool.not_true, Bool.not_false, isi_tuple, isi_list, isi_str, isi_int, isi_bool, tyName, beq_self_eq_true, tr_b, tr_t, tr_l, fAdd_i, fSub_i, fLt_i, fLe_i, fGt_i, fGe_i, fNeg_i, fAbs_i, fLen_l, fLen_t, fIsN_n, fNotN_n, fInt_b, fIx_t, fIx_l, items_t, items_l, lLc, wipeR, Bool.not_not, Bool.and_true, Bool.true_and, Bool.and_false, Bool.false_and, Bool.or_true, Bool.true_or, Bool.or_false, Bool.false_or, atI_0, atI_1, enc]
    | a :: b :: c :: d :: r, _ =>
      have h5 : decide (((r.length + 1 + 1 + 1 + 1 : Nat) : Int) ≤ 3) = false := decide_eq_false (by omega)
      have h6 : decide ((2 : Int) ≤ ((r.length + 1 + 1 + 1 + 1 : Nat) : Int)) = true := decide_eq_true (by omega)
      simp only [F__law_within, runP, startR, sRet, sRetL, sSeq, sIf, sNil, sSet, oAnd, oOr, oNot, oIf, o1, o2, vD, cD, tB, tV, tNot, tAnd, tOr, aNil, aCons, oC, lD, iD, List.length_cons, List.length_nil, List.map_cons, List.map_nil, List.replicate, List.append_nil, List.cons_append, List.nil_append, List.getElem?_cons_zero, List.getElem?_cons_succ, List.set_cons_zero, List.set_cons_succ, List.set_nil, Option.bind_some, Option.bind_none, Option.map_some, Option.map_none, Nat.zero_add, Nat.reduceAdd, Nat.reduceSub, if_true, if_false, Bool.false_eq_true, reduceCtorEq, Bool.not_true, Bool.not_false, isi_tuple, isi_list, isi_str, isi_int, isi_bool, tyName, beq_self_eq_true, tr_b, tr_t, tr_l, fAdd_i, fSub_i, fLt_i, fLe_i, fGt_i, fGe_i, fNeg_i, fAbs_i, fLen_l, fLen_t, fIsN_n, fNotN_n, fInt_b, fIx_t, fIx_l, items_t, items_l, lLc, wipeR, Bool.not_not, Bool.and_true, Bool.true_and, Bool.and_false, Bool.false_and, Bool.or_true, Bool.true_or, Bool.or_false, Bool.false_or, o3, h6, h5, parts, enc]
  | _ => simp only [F__law_within, runP, startR, sRet, sRetL, sSeq, sIf, sNil, sSet, oAnd, oOr, oNot, oIf, o1, o2, vD, cD, tB, tV, tNot, tAnd, tOr, aNil, aCons, oC, lD, iD, List.length_cons, List.length_nil, List.map_cons, List.map_nil, List.replicate, List.append_nil, List.cons_append, List.nil_append, List.getElem?_cons_zero, List.getElem?_cons_succ, List.set_cons_zero, List.set_cons_succ, List.set_nil, Option.bind_some, Option.bind_none, Option.map_some, Option.map_none, Nat.zero_add, Nat.reduceAdd, Nat.reduceSub, if_true, if_false, Bool.false_eq_true, reduceCtorEq, Bool.not_true, Bool.not_false, isi_tuple, isi_list, isi_str, isi_int, isi_bool, tyName, beq_self_eq_true, tr_b, tr_t, tr_l, fAdd_i, fSub_i, fLt_i, fLe_i, fGt_i, fGe_i, fNeg_i, fAbs_i, fLen_l, fLen_t, fIsN_n, fNotN_n, fInt_b, fIx_t, fIx_l, items_t, items_l, lLc, wipeR, Bool.not_not, Bool.and_true, Bool.true_and, Bool.and_false, Bool.false_and, Bool.or_true, Bool.true_or, Bool.or_false, Bool.false_or, parts] <;> rfl
end K77

set_option Elab.async false
set_option linter.all false
set_option maxRecDepth 100000
set_option maxHeartbeats 4000000
/-! M6: the levels of a formula, as the program counts them. -/
namespace K77
open PySem DL
open L2 (atI ixN)
def collect : List PyData → Option (List PyData)
  | [] => some []
  | f :: fs => (parts f).bind fun p => (collect fs).map fun q => p ++ q
def goS : Nat → Nat → List PyData → Option Str
  | 0, _, l => if l = [] then none else match collect l with
    | none => some "form"
    | some _ => some "large"
  | k + 1, c, l => if l = [] then none else match collect l with
    | none => some "form"
    | some d => if 60 < c + l.length then some "large" else goS k (c + l.length) d
theorem parts_fine {n : Nat} {f : PyData} {ps : List PyData} (hf : Fine n f) (h : parts f = some ps) : (∀ p ∈ ps, Fine n p) ∧ ps.length ≤ 100 := by
  cases f with
  | tuple cs =>
    obtain ⟨_, m, rfl, ha⟩ := fine_tl hf
    match cs, ha, h with
    | [a, b], ha, h =>
      have hb := ha b (by simp)
      simp only [parts] at h
      split at h
      · cases h
        refine ⟨fun p hp => ?_, by simp⟩
        rw [List.mem_singleton.mp hp]
        exact hb.mono (by omega)
      · split at h
        · cases b with
          | list l =>
            simp only at h
            split at h
            · cases h
              obtain ⟨h1, m', e, h2⟩ := fine_ll hb
              exact ⟨fun p hp => (h2 p hp).mono (by omega), h1⟩
            · cases h
          | _ => cases h
        · cases h
    | [a, b, c], ha, h =>
      simp only [parts] at h
      split at h
      · cases h
        exact ⟨fun p hp => (by simp at hp), by simp⟩
      · cases h
    | [], _, h => cases h
    | [a], _, h => cases h
    | a :: b :: c :: d :: r, _, h => cases h
  | _ => cases h
theorem collect_fine {n : Nat} : ∀ {l d : List PyData}, (∀ f ∈ l, Fine n f) → collect l = some d → (∀ p ∈ d, Fine n p) ∧ d.length ≤ 100 * l.length
  | [], d, _, h => by
    cases h
    exact ⟨fun p hp => (by simp at hp), by simp⟩
  | f :: fs, d, hf, h => by
    obtain ⟨ps, e1, h⟩ := bind_some h
    obtain ⟨qs, e2, e3⟩ := map_some h
    subst e3
    obtain ⟨a1, a2⟩ := parts_fine (hf f (List.mem_cons_self ..)) e1
    obtain ⟨b1, b2⟩ := collect_fine (fun x hx => hf x (List.mem_cons_of_mem _ hx)) e2
    refine ⟨fun p hp => (List.mem_append.mp hp).elim (a1 p) (b1 p), ?_⟩
    rw [List.length_append, List.length_cons]
    omega
def ffBody : DSt := (sSeq (sSet 6 (oC F_within (aCons (vD 5) aNil)))
      (sSeq (sIf (DL.tB (o2 fIsN (vD 6) (cD .none)))
        (sRet (cD (.str "form")))
        sNil)
      (sExt 4 (asL (vD 6)))))
theorem ff_for {n : Nat} (hn : n ≤ 64) (v l c d : Option Sl) : ∀ (fs acc : List PyData) (x5 x6 : Option Sl), (∀ f ∈ fs, Fine n f) → acc.length + 100 * fs.length ≤ 1000000 →
    (∀ p, collect fs = some p → ∃ y5 y6, forGo (gN 5) ffBody fs [v, l, c, d, some (.own acc), x5, x6] = some (.nx [v, l, c, d, some (.own (acc ++ p)), y5, y6])) ∧
    (collect fs = none → ∃ ρ, forGo (gN 5) ffBody fs [v, l, c, d, some (.own acc), x5, x6] = some (.rt (.str "form") ρ))
  | [], acc, x5, x6, _, _ => ⟨fun p h => by cases h; exact ⟨x5, x6, by rw [List.append_nil]; rfl⟩, fun h => by cases h⟩
  | f :: fs, acc, x5, x6, hf, hz => by
    have hw := within_eq f (hf f (List.mem_cons_self ..)) hn
    have hz' : acc.length + 100 * (fs.length + 1) ≤ 1000000 := hz
    cases hp : parts f with
    | none =>
      rw [hp] at hw
      have eb : ffBody [v, l, c, d, some (.own acc), some (.dat f), x6] = some (.rt (.str "form") [v, l, c, d, some (.own acc), some (.dat f), some (.dat .none)]) := by
        simp only [ffBody, runP, startR, sRet, sRetL, sSeq, sIf, sNil, sSet, oAnd, oOr, oNot, oIf, o1, o2, vD, cD, tB, tV, tNot, tAnd, tOr, aNil, aCons, oC, lD, iD, List.length_cons, List.length_nil, List.map_cons, List.map_nil, List.replicate, List.append_nil, List.cons_append, List.nil_append, List.getElem?_cons_zero, List.getElem?_cons_succ, List.set_cons_zero, List.set_cons_succ, List.set_nil, Option.bind_some, Option.bind_none, Option.map_some, Option.map_none, Nat.zero_add, Nat.reduceAdd, Nat.reduceSub, if_true, if_false, Bool.false_eq_true, reduceCtorEq, Bool.not_true, Bool.not_false, isi_tuple, isi_list, isi_str, isi_int, isi_bool, tyName, beq_self_eq_true, tr_b, tr_t, tr_l, fAdd_i, fSub_i, fLt_i, fLe_i, fGt_i, fGe_i, fNeg_i, fAbs_i, fLen_l, fLen_t, fIsN_n, fNotN_n, fInt_b, fIx_t, fIx_l, items_t, items_l, lLc, wipeR, Bool.not_not, Bool.and_true, Bool.true_and, Bool.and_false, Bool.false_and, Bool.or_true, Bool.true_or, Bool.or_false, Bool.false_or, hw, enc, isNon]
      refine ⟨fun p h => ?_, fun _ => ⟨_, by
        show Option.bind (ffBody [v, l, c, d, some (.own acc), some (.dat f), x6]) _ = _
        rw [eb]
        rfl⟩⟩
      simp only [collect, hp] at h
      cases h
    | some ps =>
      rw [hp] at hw
      obtain ⟨a1, a2⟩ := parts_fine (hf f (List.mem_cons_self ..)) hp
      have eb : ffBody [v, l, c, d, some (.own acc), some (.dat f), x6] = some (.nx [v, l, c, d, some (.own (acc ++ ps)), some (.dat f), some (.dat (.list ps))]) := by
        simp only [ffBody, runP, startR, sRet, sRetL, sSeq, sIf, sNil, sSet, oAnd, oOr, oNot, oIf, o1, o2, vD, cD, tB, tV, tNot, tAnd, tOr, aNil, aCons, oC, lD, iD, List.length_cons, List.length_nil, List.map_cons, List.map_nil, List.replicate, List.append_nil, List.cons_append, List.nil_append, List.getElem?_cons_zero, List.getElem?_cons_succ, List.set_cons_zero, List.set_cons_succ, List.set_nil, Option.bind_some, Option.bind_none, Option.map_some, Option.map_none, Nat.zero_add, Nat.reduceAdd, Nat.reduceSub, if_true, if_false, Bool.false_eq_true, reduceCtorEq, Bool.not_true, Bool.not_false, isi_tuple, isi_list, isi_str, isi_int, isi_bool, tyName, beq_self_eq_true, tr_b, tr_t, tr_l, fAdd_i, fSub_i, fLt_i, fLe_i, fGt_i, fGe_i, fNeg_i, fAbs_i, fLen_l, fLen_t, fIsN_n, fNotN_n, fInt_b, fIx_t, fIx_l, items_t, items_l, lLc, wipeR, Bool.not_not, Bool.and_true, Bool.true_and, Bool.and_false, Bool.false_and, Bool.or_true, Bool.true_or, Bool.or_false, Bool.false_or, hw, enc, isNon, sExt, vO, asL, if_pos (size_ok (show acc.length + ps.length ≤ 1000000 by omega))]
      have eg : forGo (gN 5) ffBody (f :: fs) [v, l, c, d, some (.own acc), x5, x6] = forGo (gN 5) ffBody fs [v, l, c, d, some (.own (acc ++ ps)), some (.dat f), some (.dat (.list ps))] := by
        show Option.bind (ffBody [v, l, c, d, some (.own acc), some (.dat f), x6]) _ = _
        rw [eb]
        rfl
      have ih := ff_for hn v l c d fs (acc ++ ps) (some (.dat f)) (some (.dat (.list ps))) (fun x hx => hf x (List.mem_cons_of_mem _ hx)) (by rw [List.length_append]; omega)
      rw [eg]
      refine ⟨fun p h => ?_, fun h => ?_⟩
      · obtain ⟨ps', e1, h⟩ := bind_some h
        obtain ⟨qs, e2, e3⟩ := map_some h
        subst e3
        rw [hp] at e1
        cases e1
        rw [← List.append_assoc]
        exact ih.1 qs e2
      · refine ih.2 ?_
        simp only [collect, hp, Option.bind_some] at h
        cases hc : collect fs with
        | none => rfl
        | some q => rw [hc] at h; cases h
def ffLoop : DSt := (sSeq (sOwn 4 (lLst aNil))
    (sSeq (sFor (iD (vD 1)) (gN 5) ffBody)
    (sSeq (sAug 2 (oC fLen (aCons (vD 1) aNil)))
    (sSeq (sAug 3 (cD (.int 1)))
    (sSeq (sIf (DL.tOr (DL.tB (o2 fGt (vD 2) (cD (.int 60)))) (DL.tB (o2 fGt (vD 3) (cD (.int 20)))))
      (sRet (cD (.str "large")))
      sNil)
    (sFrz 1 4))))))
theorem ff_split : d_formula_fault = (sSeq (sSet 1 (lD (lLst (aCons (vD 0) aNil))))
  (sSeq (sSet 2 (cD (.int 0)))
  (sSeq (sSet 3 (cD (.int 0)))
  (sSeq (whileGo (tV (vD 1)) ffLoop 30)
  (sRet (cD .none)))))) := rfl
theorem ff_step {n : Nat} (hn : n ≤ 64) (v : Option Sl) (l : List PyData) (c d : Nat) (x4 x5 x6 : Option Sl) (hf : ∀ f ∈ l, Fine n f) (hl : l.length ≤ 6000) (hd : d ≤ 20) :
    (collect l = none → ∃ ρ, ffLoop [v, some (.dat (.list l)), some (.dat (.int c)), some (.dat (.int d)), x4, x5, x6] = some (.rt (.str "form") ρ)) ∧
    (∀ p, collect l = some p → (60 < c + l.length ∨ d = 20) → ∃ ρ, ffLoop [v, some (.dat (.list l)), some (.dat (.int c)), some (.dat (.int d)), x4, x5, x6] = some (.rt (.str "large") ρ)) ∧
    (∀ p, collect l = some p → ¬ (60 < c + l.length ∨ d = 20) → ∃ y4 y5 y6, ffLoop [v, some (.dat (.list l)), some (.dat (.int c)), some (.dat (.int d)), x4, x5, x6] = some (.nx [v, some (.dat (.list p)), some (.dat (.int (c + l.length : Nat))), some (.dat (.int (d + 1 : Nat))), y4, y5, y6])) := by
  have ih := ff_for hn v (some (.dat (.list l))) (some (.dat (.int c))) (some (.dat (.int d))) l [] x5 x6 hf (by simp only [List.length_nil]; omega)
  refine ⟨fun h => ?_, fun p h hc => ?_, fun p h hc => ?_⟩
  · obtain ⟨ρ, e⟩ := ih.2 h
    refine ⟨ρ, ?_⟩
    simp only [ffLoop, runP, startR, sRet, sRetL, sSeq, sIf, sNil, sSet, oAnd, oOr, oNot, oIf, o1, o2, vD, cD, tB, tV, tNot, tAnd, tOr, aNil, aCons, oC, lD, iD, List.length_cons, List.length_nil, List.map_cons, List.map_nil, List.replicate, List.append_nil, List.cons_append, List.nil_append, List.getElem?_cons_zero, List.getElem?_cons_succ, List.set_cons_zero, List.set_cons_succ, List.set_nil, Option.bind_some, Option.bind_none, Option.map_some, Option.map_none, Nat.zero_add, Nat.reduceAdd, Nat.reduceSub, if_true, if_false, Bool.false_eq_true, reduceCtorEq, Bool.not_true, Bool.not_false, isi_tuple, isi_list, isi_str, isi_int, isi_bool, tyName, beq_self_eq_true, tr_b, tr_t, tr_l, fAdd_i, fSub_i, fLt_i, fLe_i, fGt_i, fGe_i, fNeg_i, fAbs_i, fLen_l, fLen_t, fIsN_n, fNotN_n, fInt_b, fIx_t, fIx_l, items_t, items_l, lLc, wipeR, Bool.not_not, Bool.and_true, Bool.true_and, Bool.and_false, Bool.false_and, Bool.or_true, Bool.true_or, Bool.or_false, Bool.false_or, sOwn, lst_nil, sFor, e]
  · obtain ⟨y5, y6, e⟩ := ih.1 p h
    rw [List.nil_append] at e
    by_cases h1 : 60 < c + l.length
    · refine ⟨?_, ?_⟩
      rotate_left
      · simp only [ffLoop, runP, startR, sRet, sRetL, sSeq, sIf, sNil, sSet, oAnd, oOr, oNot, oIf, o1, o2, vD, cD, tB, tV, tNot, tAnd, tOr, aNil, aCons, oC, lD, iD, List.length_cons, List.length_nil, List.map_cons, List.map_nil, List.replicate, List.append_nil, List.cons_append, List.nil_append, List.getElem?_cons_zero, List.getElem?_cons_succ, List.set_cons_zero, List.set_cons_succ, List.set_nil, Option.bind_some, Option.bind_none, Option.map_some, Option.map_none, Nat.zero_add, Nat.reduceAdd, Nat.reduceSub, if_true, if_false, Bool.false_eq_true, reduceCtorEq, Bool.not_true, Bool.not_false, isi_tuple, isi_list, isi_str, isi_int, isi_bool, tyName, beq_self_eq_true, tr_b, tr_t, tr_l, fAdd_i, fSub_i, fLt_i, fLe_i, fGt_i, fGe_i, fNeg_i, fAbs_i, fLen_l, fLen_t, fIsN_n, fNotN_n, fInt_b, fIx_t, fIx_l, items_t, items_l, lLc, wipeR, Bool.not_not, Bool.and_true, Bool.true_and, Bool.and_false, Bool.false_and, Bool.or_true, Bool.true_or, Bool.or_false, Bool.false_or, sOwn, lst_nil, sFor, e, sAug, decide_eq_true (show (60 : Int) < (c : Int) + (l.length : Int) by omega)]
        rfl
    · have h2 : d = 20 := hc.elim (fun z => absurd z h1) id
      subst h2
      refine ⟨?_, ?_⟩
      rotate_left
      · simp only [ffLoop, runP, startR, sRet, sRetL, sSeq, sIf, sNil, sSet, oAnd, oOr, oNot, oIf, o1, o2, vD, cD, tB, tV, tNot, tAnd, tOr, aNil, aCons, oC, lD, iD, List.length_cons, List.length_nil, List.map_cons, List.map_nil, List.replicate, List.append_nil, List.cons_append, List.nil_append, List.getElem?_cons_zero, List.getElem?_cons_succ, List.set_cons_zero, List.set_cons_succ, List.set_nil, Option.bind_some, Option.bind_none, Option.map_some, Option.map_none, Nat.zero_add, Nat.reduceAdd, Nat.reduceSub, if_true, if_false, Bool.false_eq_true, reduceCtorEq, Bool.not_true, Bool.not_false, isi_tuple, isi_list, isi_str, isi_int, isi_bool, tyName, beq_self_eq_true, tr_b, tr_t, tr_l, fAdd_i, fSub_i, fLt_i, fLe_i, fGt_i, fGe_i, fNeg_i, fAbs_i, fLen_l, fLen_t, fIsN_n, fNotN_n, fInt_b, fIx_t, fIx_l, items_t, items_l, lLc, wipeR, Bool.not_not, Bool.and_true, Bool.true_and, Bool.and_false, Bool.false_and, Bool.or_true, Bool.true_or, Bool.or_false, Bool.false_or, sOwn, lst_nil, sFor, e, sAug, decide_eq_false (show ¬ (60 : Int) < (c : Int) + (l.length : Int) by omega), decide_eq_true (show (20 : Int) < ((20 : Nat) : Int) + 1 by omega)]
        rfl
  · obtain ⟨y5, y6, e⟩ := ih.1 p h
    rw [List.nil_append] at e
    have h1 : ¬ 60 < c + l.length := fun z => hc (.inl z)
    have h2 : ¬ d = 20 := fun z => hc (.inr z)
    refine ⟨?_, ?_, ?_, ?_⟩
    rotate_left 3
    · simp only [ffLoop, runP, startR, sRet, sRetL, sSeq, sIf, sNil, sSet, oAnd, oOr, oNot, oIf, o1, o2, vD, cD, tB, tV, tNot, tAnd, tOr, aNil, aCons, oC, lD, iD, List.length_cons, List.length_nil, List.map_cons, List.map_nil, List.replicate, List.append_nil, List.cons_append, List.nil_append, List.getElem?_cons_zero, List.getElem?_cons_succ, List.set_cons_zero, List.set_cons_succ, List.set_nil, Option.bind_some, Option.bind_none, Option.map_some, Option.map_none, Nat.zero_add, Nat.reduceAdd, Nat.reduceSub, if_true, if_false, Bool.false_eq_true, reduceCtorEq, Bool.not_true, Bool.not_false, isi_tuple, isi_list, isi_str, isi_int, isi_bool, tyName, beq_self_eq_true, tr_b, tr_t, tr_l, fAdd_i, fSub_i, fLt_i, fLe_i, fGt_i, fGe_i, fNeg_i, fAbs_i, fLen_l, fLen_t, fIsN_n, fNotN_n, fInt_b, fIx_t, fIx_l, items_t, items_l, lLc, wipeR, Bool.not_not, Bool.and_true, Bool.true_and, Bool.and_false, Bool.false_and, Bool.or_true, Bool.true_or, Bool.or_false, Bool.false_or, sOwn, lst_nil, sFor, e, sAug, decide_eq_false (show ¬ (60 : Int) < (c : Int) + (l.length : Int) by omega), decide_eq_false (show ¬ (20 : Int) < (d : Int) + 1 by omega), sFrz, vO]
      rfl
theorem ff_while {n : Nat} (hn : n ≤ 64) (v : Option Sl) : ∀ (k m : Nat) (l : List PyData) (c : Nat) (x4 x5 x6 : Option Sl), (∀ f ∈ l, Fine n f) → l.length ≤ 6000 → k ≤ 20 → k + 1 < m →
    ∃ ρ, whileGo (tV (vD 1)) ffLoop m [v, some (.dat (.list l)), some (.dat (.int c)), some (.dat (.int (20 - k : Nat))), x4, x5, x6] = some (match goS k c l with
      | none => .nx ρ
      | some s => .rt (.str s) ρ) := by
  intro k
  induction k with
  | zero =>
    intro m l c x4 x5 x6 hf hl hk hm
    match m, hm with
    | m + 1, hm =>
      by_cases hnl : l = []
      · subst hnl
        exact ⟨_, rfl⟩
      · have st := ff_step hn v l c 20 x4 x5 x6 hf hl (by omega)
        cases hc : collect l with
        | none =>
          obtain ⟨ρ, e⟩ := st.1 hc
          refine ⟨ρ, ?_⟩
          simp only [whileGo, runP, startR, sRet, sRetL, sSeq, sIf, sNil, sSet, oAnd, oOr, oNot, oIf, o1, o2, vD, cD, tB, tV, tNot, tAnd, tOr, aNil, aCons, oC, lD, iD, List.length_cons, List.length_nil, List.map_cons, List.map_nil, List.replicate, List.append_nil, List.cons_append, List.nil_append, List.getElem?_cons_zero, List.getElem?_cons_succ, List.set_cons_zero, List.set_cons_succ, List.set_nil, Option.bind_some, Option.bind_none, Option.map_some, Option.map_none, Nat.zero_add, Nat.reduceAdd, Nat.reduceSub, if_true, if_false, Bool.false_eq_true, reduceCtorEq, Bool.not_true, Bool.not_false, isi_tuple, isi_list, isi_str, isi_int, isi_bool, tyName, beq_self_eq_true, tr_b, tr_t, tr_l, fAdd_i, fSub_i, fLt_i, fLe_i, fGt_i, fGe_i, fNeg_i, fAbs_i, fLen_l, fLen_t, fIsN_n, fNotN_n, fInt_b, fIx_t, fIx_l, items_t, items_l, lLc, wipeR, Bool.not_not, Bool.and_true, Bool.true_and, Bool.and_false, Bool.false_and, Bool.or_true, Bool.true_or, Bool.or_false, Bool.false_or, isEmpty_ne hnl, e, goS, if_neg hnl, hc]
        | some p =>
          obtain ⟨ρ, e⟩ := st.2.1 p hc (.inr rfl)
          refine ⟨ρ, ?_⟩
          simp only [whileGo, runP, startR, sRet, sRetL, sSeq, sIf, sNil, sSet, oAnd, oOr, oNot, oIf, o1, o2, vD, cD, tB, tV, tNot, tAnd, tOr, aNil, aCons, oC, lD, iD, List.length_cons, List.length_nil, List.map_cons, List.map_nil, List.replicate, List.append_nil, List.cons_append, List.nil_append, List.getElem?_cons_zero, List.getElem?_cons_succ, List.set_cons_zero, List.set_cons_succ, List.set_nil, Option.bind_some, Option.bind_none, Option.map_some, Option.map_none, Nat.zero_add, Nat.reduceAdd, Nat.reduceSub, if_true, if_false, Bool.false_eq_true, reduceCtorEq, Bool.not_true, Bool.not_false, isi_tuple, isi_list, isi_str, isi_int, isi_bool, tyName, beq_self_eq_true, tr_b, tr_t, tr_l, fAdd_i, fSub_i, fLt_i, fLe_i, fGt_i, fGe_i, fNeg_i, fAbs_i, fLen_l, fLen_t, fIsN_n, fNotN_n, fInt_b, fIx_t, fIx_l, items_t, items_l, lLc, wipeR, Bool.not_not, Bool.and_true, Bool.true_and, Bool.and_false, Bool.false_and, Bool.or_true, Bool.true_or, Bool.or_false, Bool.false_or, isEmpty_ne hnl, e, goS, if_neg hnl, hc]
  | succ k ih =>
    intro m l c x4 x5 x6 hf hl hk hm
    match m, hm with
    | m + 1, hm =>
      by_cases hnl : l = []
      · subst hnl
        exact ⟨_, rfl⟩
      · have st := ff_step hn v l c (20 - (k + 1)) x4 x5 x6 hf hl (by omega)
        cases hc : collect l with
        | none =>
          obtain ⟨ρ, e⟩ := st.1 hc
          refine ⟨ρ, ?_⟩
          simp only [whileGo, runP, startR, sRet, sRetL, sSeq, sIf, sNil, sSet, oAnd, oOr, oNot, oIf, o1, o2, vD, cD, tB, tV, tNot, tAnd, tOr, aNil, aCons, oC, lD, iD, List.length_cons, List.length_nil, List.map_cons, List.map_nil, List.replicate, List.append_nil, List.cons_append, List.nil_append, List.getElem?_cons_zero, List.getElem?_cons_succ, List.set_cons_zero, List.set_cons_succ, List.set_nil, Option.bind_some, Option.bind_none, Option.map_some, Option.map_none, Nat.zero_add, Nat.reduceAdd, Nat.reduceSub, if_true, if_false, Bool.false_eq_true, reduceCtorEq, Bool.not_true, Bool.not_false, isi_tuple, isi_list, isi_str, isi_int, isi_bool, tyName, beq_self_eq_true, tr_b, tr_t, tr_l, fAdd_i, fSub_i, fLt_i, fLe_i, fGt_i, fGe_i, fNeg_i, fAbs_i, fLen_l, fLen_t, fIsN_n, fNotN_n, fInt_b, fIx_t, fIx_l, items_t, items_l, lLc, wipeR, Bool.not_not, Bool.and_true, Bool.true_and, Bool.and_false, Bool.false_and, Bool.or_true, Bool.true_or, Bool.or_false, Bool.false_or, isEmpty_ne hnl, e, goS, if_neg hnl, hc]
        | some p =>
          by_cases h60 : 60 < c + l.length
          · obtain ⟨ρ, e⟩ := st.2.1 p hc (.inl h60)
            refine ⟨ρ, ?_⟩
            simp only [whileGo, runP, startR, sRet, sRetL, sSeq, sIf, sNil, sSet, oAnd, oOr, oNot, oIf, o1, o2, vD, cD, tB, tV, tNot, tAnd, tOr, aNil, aCons, oC, lD, iD, List.length_cons, List.length_nil, List.map_cons, List.map_nil, List.replicate, List.append_nil, List.cons_append, List.nil_append, List.getElem?_cons_zero, List.getElem?_cons_succ, List.set_cons_zero, List.set_cons_succ, List.set_nil, Option.bind_some, Option.bind_none, Option.map_some, Option.map_none, Nat.zero_add, Nat.reduceAdd, Nat.reduceSub, if_true, if_false, Bool.false_eq_true, reduceCtorEq, Bool.not_true, Bool.not_false, isi_tuple, isi_list, isi_str, isi_int, isi_bool, tyName, beq_self_eq_true, tr_b, tr_t, tr_l, fAdd_i, fSub_i, fLt_i, fLe_i, fGt_i, fGe_i, fNeg_i, fAbs_i, fLen_l, fLen_t, fIsN_n, fNotN_n, fInt_b, fIx_t, fIx_l, items_t, items_l, lLc, wipeR, Bool.not_not, Bool.and_true, Bool.true_and, Bool.and_false, Bool.false_and, Bool.or_true, Bool.true_or, Bool.or_false, Bool.false_or, isEmpty_ne hnl, e, goS, if_neg hnl, hc, if_pos h60]
          · obtain ⟨y4, y5, y6, e⟩ := st.2.2 p hc (fun z => z.elim h60 (by omega))
            obtain ⟨a1, a2⟩ := collect_fine hf hc
            obtain ⟨ρ, e2⟩ := ih m p (c + l.length) y4 y5 y6 a1 (by omega) (by omega) (by omega)
            refine ⟨ρ, ?_⟩
            have e3 : 20 - (k + 1) + 1 = 20 - k := by omega
            rw [e3] at e
            simp only [whileGo, runP, startR, sRet, sRetL, sSeq, sIf, sNil, sSet, oAnd, oOr, oNot, oIf, o1, o2, vD, cD, tB, tV, tNot, tAnd, tOr, aNil, aCons, oC, lD, iD, List.length_cons, List.length_nil, List.map_cons, List.map_nil, List.replicate, List.append_nil, List.cons_append, List.nil_append, List.getElem?_cons_zero, List.getElem?_cons_succ, List.set_cons_zero, List.set_cons_succ, List.set_nil, Option.bind_some, Option.bind_none, Option.map_some, Option.map_none, Nat.zero_add, Nat.reduceAdd, Nat.reduceSub, if_true, if_false, Bool.false_eq_true, reduceCtorEq, Bool.not_true, Bool.not_false, isi_tuple, isi_list, isi_str, isi_int, isi_bool, tyName, beq_self_eq_true, tr_b, tr_t, tr_l, fAdd_i, fSub_i, fLt_i, fLe_i, fGt_i, fGe_i, fNeg_i, fAbs_i, fLen_l, fLen_t, fIsN_n, fNotN_n, fInt_b, fIx_t, fIx_l, items_t, items_l, lLc, wipeR, Bool.not_not, Bool.and_true, Bool.true_and, Bool.and_false, Bool.false_and, Bool.or_true, Bool.true_or, Bool.or_false, Bool.false_or, isEmpty_ne hnl, e, e2, goS, if_neg hnl, hc, if_neg h60]
def encS : Option Str → PyData
  | none => .none
  | some s => .str s
theorem fault_eq {n : Nat} (f : PyData) (hf : Fine n f) (hn : n ≤ 64) : F_formula_fault [f] = some (encS (goS 20 0 [f])) := by
  obtain ⟨ρ, e⟩ := ff_while hn (some (.dat f)) 20 30 [f] 0 none none none (fun x hx => by rw [List.mem_singleton.mp hx]; exact hf) (by simp) (by omega) (by omega)
  have e' : whileGo (tV (vD 1)) ffLoop 30 [some (.dat f), some (.dat (.list [f])), some (.dat (.int 0)), some (.dat (.int 0)), none, none, none] = _ := e
  have hz : 1 ≤ sizeLine := size_ok (by decide)
  simp only [F_formula_fault, ff_split, runP, startR, sRet, sRetL, sSeq, sIf, sNil, sSet, oAnd, oOr, oNot, oIf, o1, o2, vD, cD, tB, tV, tNot, tAnd, tOr, aNil, aCons, oC, lD, iD, List.length_cons, List.length_nil, List.map_cons, List.map_nil, List.replicate, List.append_nil, List.cons_append, List.nil_append, List.getElem?_cons_zero, List.getElem?_cons_succ, List.set_cons_zero, List.set_cons_succ, List.set_nil, Option.bind_some, Option.bind_none, Option.map_some, Option.map_none, Nat.zero_add, Nat.reduceAdd, Nat.reduceSub, if_true, if_false, Bool.false_eq_true, reduceCtorEq, Bool.not_true, Bool.not_false, isi_tuple, isi_list, isi_str, isi_int, isi_bool, tyName, beq_self_eq_true, tr_b, tr_t, tr_l, fAdd_i, fSub_i, fLt_i, fLe_i, fGt_i, fGe_i, fNeg_i, fAbs_i, fLen_l, fLen_t, fIsN_n, fNotN_n, fInt_b, fIx_t, fIx_l, items_t, items_l, lLc, wipeR, Bool.not_not, Bool.and_true, Bool.true_and, Bool.and_false, Bool.false_and, Bool.or_true, Bool.true_or, Bool.or_false, Bool.false_or, lLst, hz, e']
  cases goS 20 0 [f] with
  | none => rfl
  | some s => rfl
end K77

set_option Elab.async false
set_option linter.all false
set_option maxRecDepth 100000
set_option maxHeartbeats 4000000
/-! M7: the levels of a formula, as the law counts them. -/
namespace K77
open PySem DL
open L2 (atI ixN)
def dlBody : DSt := (sSeq (sSet 8 (oC F__law_within (aCons (vD 7) aNil)))
      (sSeq (sIf (DL.tB (o2 fIsN (vD 8) (cD .none)))
        (sRet (cD (.str "form")))
        sNil)
      (sSet 6 (lD (lCat (asL (vD 6)) (asL (vD 8)))))))
theorem dl_for {n : Nat} (hn : n ≤ 64) (a0 a1 a2 a3 a4 a5 : Option Sl) (r : Rho) : ∀ (fs acc : List PyData) (x7 x8 : Option Sl), (∀ f ∈ fs, Fine n f) → acc.length + 100 * fs.length ≤ 1000000 →
    (∀ p, collect fs = some p → ∃ y7 y8, forGo (gN 7) dlBody fs (a0 :: a1 :: a2 :: a3 :: a4 :: a5 :: some (.dat (.list acc)) :: x7 :: x8 :: r) = some (.nx (a0 :: a1 :: a2 :: a3 :: a4 :: a5 :: some (.dat (.list (acc ++ p))) :: y7 :: y8 :: r))) ∧
    (collect fs = none → ∃ ρ, forGo (gN 7) dlBody fs (a0 :: a1 :: a2 :: a3 :: a4 :: a5 :: some (.dat (.list acc)) :: x7 :: x8 :: r) = some (.rt (.str "form") ρ))
  | [], acc, x7, x8, _, _ => ⟨fun p h => by cases h; exact ⟨x7, x8, by rw [List.append_nil]; rfl⟩, fun h => by cases h⟩
  | f :: fs, acc, x7, x8, hf, hz => by
    have hw := lwithin_eq f (hf f (List.mem_cons_self ..)) hn
    have hz' : acc.length + 100 * (fs.length + 1) ≤ 1000000 := hz
    cases hp : parts f with
    | none =>
      rw [hp] at hw
      have eb : dlBody (a0 :: a1 :: a2 :: a3 :: a4 :: a5 :: some (.dat (.list acc)) :: some (.dat f) :: x8 :: r) = some (.rt (.str "form") (a0 :: a1 :: a2 :: a3 :: a4 :: a5 :: some (.dat (.list acc)) :: some (.dat f) :: some (.dat .none) :: r)) := by
        simp only [dlBody, runP, startR, sRet, sRetL, sSeq, sIf, sNil, sSet, oAnd, oOr, oNot, oIf, o1, o2, vD, cD, tB, tV, tNot, tAnd, tOr, aNil, aCons, oC, lD, iD, List.length_cons, List.length_nil, List.map_cons, List.map_nil, List.replicate, List.append_nil, List.cons_append, List.nil_append, List.getElem?_cons_zero, List.getElem?_cons_succ, List.set_cons_zero, List.set_cons_succ, List.set_nil, Option.bind_some, Option.bind_none, Option.map_some, Option.map_none, Nat.zero_add, Nat.reduceAdd, Nat.reduceSub, if_true, if_false, Bool.false_eq_true, reduceCtorEq, Bool.not_true, Bool.not_false, isi_tuple, isi_list, isi_str, isi_int, isi_bool, tyName, beq_self_eq_true, tr_b, tr_t, tr_l, fAdd_i, fSub_i, fLt_i, fLe_i, fGt_i, fGe_i, fNeg_i, fAbs_i, fLen_l, fLen_t, fIsN_n, fNotN_n, fInt_b, fIx_t, fIx_l, items_t, items_l, lLc, wipeR, Bool.not_not, Bool.and_true, Bool.true_and, Bool.and_false, Bool.false_and, Bool.or_true, Bool.true_or, Bool.or_false, Bool.false_or, hw, enc, isNon]
      refine ⟨fun p h => ?_, fun _ => ⟨_, by
        show Option.bind (dlBody (a0 :: a1 :: a2 :: a3 :: a4 :: a5 :: some (.dat (.list acc)) :: some (.dat f) :: x8 :: r)) _ = _
        rw [eb]
        rfl⟩⟩
      simp only [collect, hp] at h
      cases h
    | some ps =>
      rw [hp] at hw
      obtain ⟨b1, b2⟩ := parts_fine (hf f (List.mem_cons_self ..)) hp
      have eb : dlBody (a0 :: a1 :: a2 :: a3 :: a4 :: a5 :: some (.dat (.list acc)) :: some (.dat f) :: x8 :: r) = some (.nx (a0 :: a1 :: a2 :: a3 :: a4 :: a5 :: some (.dat (.list (acc ++ ps))) :: some (.dat f) :: some (.dat (.list ps)) :: r)) := by
        simp only [dlBody, runP, startR, sRet, sRetL, sSeq, sIf, sNil, sSet, oAnd, oOr, oNot, oIf, o1, o2, vD, cD, tB, tV, tNot, tAnd, tOr, aNil, aCons, oC, lD, iD, List.length_cons, List.length_nil, List.map_cons, List.map_nil, List.replicate, List.append_nil, List.cons_append, List.nil_append, List.getElem?_cons_zero, List.getElem?_cons_succ, List.set_cons_zero, List.set_cons_succ, List.set_nil, Option.bind_some, Option.bind_none, Option.map_some, Option.map_none, Nat.zero_add, Nat.reduceAdd, Nat.reduceSub, if_true, if_false, Bool.false_eq_true, reduceCtorEq, Bool.not_true, Bool.not_false, isi_tuple, isi_list, isi_str, isi_int, isi_bool, tyName, beq_self_eq_true, tr_b, tr_t, tr_l, fAdd_i, fSub_i, fLt_i, fLe_i, fGt_i, fGe_i, fNeg_i, fAbs_i, fLen_l, fLen_t, fIsN_n, fNotN_n, fInt_b, fIx_t, fIx_l, items_t, items_l, lLc, wipeR, Bool.not_not, Bool.and_true, Bool.true_and, Bool.and_false, Bool.false_and, Bool.or_true, Bool.true_or, Bool.or_false, Bool.false_or, hw, enc, isNon, lCat, asL, if_pos (size_ok (show acc.length + ps.length ≤ 1000000 by omega))]
      have eg : forGo (gN 7) dlBody (f :: fs) (a0 :: a1 :: a2 :: a3 :: a4 :: a5 :: some (.dat (.list acc)) :: x7 :: x8 :: r) = forGo (gN 7) dlBody fs (a0 :: a1 :: a2 :: a3 :: a4 :: a5 :: some (.dat (.list (acc ++ ps))) :: some (.dat f) :: some (.dat (.list ps)) :: r) := by
        show Option.bind (dlBody (a0 :: a1 :: a2 :: a3 :: a4 :: a5 :: some (.dat (.list acc)) :: some (.dat f) :: x8 :: r)) _ = _
        rw [eb]
        rfl
      have ih := dl_for hn a0 a1 a2 a3 a4 a5 r fs (acc ++ ps) (some (.dat f)) (some (.dat (.list ps))) (fun x hx => hf x (List.mem_cons_of_mem _ hx)) (by rw [List.length_append]; omega)
      rw [eg]
      refine ⟨fun p h => ?_, fun h => ?_⟩
      · obtain ⟨ps', e1, h⟩ := bind_some h
        obtain ⟨qs, e2, e3⟩ := map_some h
        subst e3
        rw [hp] at e1
        cases e1
        rw [← List.append_assoc]
        exact ih.1 qs e2
      · refine ih.2 ?_
        simp only [collect, hp, Option.bind_some] at h
        cases hc : collect fs with
        | none => rfl
        | some q => rw [hc] at h; cases h
def lvBody : DSt := (sSeq (sSet 6 (lD (lLst aNil)))
    (sSeq (sFor (iD (vD 3)) (gN 7) dlBody)
    (sSeq (sSet 4 (o2 fAdd (vD 4) (oC fLen (aCons (vD 3) aNil))))
    (sSeq (sIf (DL.tAnd (DL.tB (o2 fNe (vD 3) (lD (lLst aNil)))) (DL.tOr (DL.tB (o2 fGt (vD 4) (cD (.int 60)))) (DL.tB (o2 fEq (vD 5) (cD (.int 20))))))
      (sRet (cD (.str "large")))
      sNil)
    (sSet 3 (vD 6))))))
theorem lv_step {n : Nat} (hn : n ≤ 63) (a0 a1 a2 : Option Sl) (r : Rho) (l : List PyData) (c d : Nat) (x6 x7 x8 : Option Sl) (hf : ∀ f ∈ l, Fine n f) (hl : l.length ≤ 6000) :
    (collect l = none → ∃ ρ, lvBody (a0 :: a1 :: a2 :: some (.dat (.list l)) :: some (.dat (.int c)) :: some (.dat (.int d)) :: x6 :: x7 :: x8 :: r) = some (.rt (.str "form") ρ)) ∧
    (∀ p, collect l = some p → l ≠ [] → (60 < c + l.length ∨ d = 20) → ∃ ρ, lvBody (a0 :: a1 :: a2 :: some (.dat (.list l)) :: some (.dat (.int c)) :: some (.dat (.int d)) :: x6 :: x7 :: x8 :: r) = some (.rt (.str "large") ρ)) ∧
    (∀ p, collect l = some p → (l ≠ [] → ¬ (60 < c + l.length ∨ d = 20)) → ∃ y6 y7 y8, lvBody (a0 :: a1 :: a2 :: some (.dat (.list l)) :: some (.dat (.int c)) :: some (.dat (.int d)) :: x6 :: x7 :: x8 :: r) =
      some (.nx (a0 :: a1 :: a2 :: some (.dat (.list p)) :: some (.dat (.int (c + l.length : Nat))) :: some (.dat (.int d)) :: y6 :: y7 :: y8 :: r))) := by
  have ih := dl_for (n := n) (by omega) a0 a1 a2 (some (.dat (.list l))) (some (.dat (.int c))) (some (.dat (.int d))) r l [] x7 x8 hf (by simp only [List.length_nil]; omega)
  have hs : SeqAt.shaped (.list l) = true := shapedL hf (by omega)
  have h3 : fNe (.list l) (.list []) = some (.bool (!l.isEmpty)) := by rw [fNe_of hs shaped_nil, eqv_ln]
  refine ⟨fun h => ?_, fun p h hnl hc => ?_, fun p h hc => ?_⟩
  · obtain ⟨ρ, e⟩ := ih.2 h
    refine ⟨ρ, ?_⟩
    simp only [lvBody, runP, startR, sRet, sRetL, sSeq, sIf, sNil, sSet, oAnd, oOr, oNot, oIf, o1, o2, vD, cD, tB, tV, tNot, tAnd, tOr, aNil, aCons, oC, lD, iD, List.length_cons, List.length_nil, List.map_cons, List.map_nil, List.replicate, List.append_nil, List.cons_append, List.nil_append, List.getElem?_cons_zero, List.getElem?_cons_succ, List.set_cons_zero, List.set_cons_succ, List.set_nil, Option.bind_some, Option.bind_none, Option.map_some, Option.map_none, Nat.zero_add, Nat.reduceAdd, Nat.reduceSub, if_true, if_false, Bool.false_eq_true, reduceCtorEq, Bool.not_true, Bool.not_false, isi_tuple, isi_list, isi_str, isi_int, isi_bool, tyName, beq_self_eq_true, tr_b, tr_t, tr_l, fAdd_i, fSub_i, fLt_i, fLe_i, fGt_i, fGe_i, fNeg_i, fAbs_i, fLen_l, fLen_t, fIsN_n, fNotN_n, fInt_b, fIx_t, fIx_l, items_t, items_l, lLc, wipeR, Bool.not_not, Bool.and_true, Bool.true_and, Bool.and_false, Bool.false_and, Bool.or_true, Bool.true_or, Bool.or_false, Bool.false_or, lst_nil, sFor, e]
  · obtain ⟨y7, y8, e⟩ := ih.1 p h
    rw [List.nil_append] at e
    by_cases h1 : 60 < c + l.length
    · refine ⟨?_, ?_⟩
      rotate_left
      · simp only [lvBody, runP, startR, sRet, sRetL, sSeq, sIf, sNil, sSet, oAnd, oOr, oNot, oIf, o1, o2, vD, cD, tB, tV, tNot, tAnd, tOr, aNil, aCons, oC, lD, iD, List.length_cons, List.length_nil, List.map_cons, List.map_nil, List.replicate, List.append_nil, List.cons_append, List.nil_append, List.getElem?_cons_zero, List.getElem?_cons_succ, List.set_cons_zero, List.set_cons_succ, List.set_nil, Option.bind_some, Option.bind_none, Option.map_some, Option.map_none, Nat.zero_add, Nat.reduceAdd, Nat.reduceSub, if_true, if_false, Bool.false_eq_true, reduceCtorEq, Bool.not_true, Bool.not_false, isi_tuple, isi_list, isi_str, isi_int, isi_bool, tyName, beq_self_eq_true, tr_b, tr_t, tr_l, fAdd_i, fSub_i, fLt_i, fLe_i, fGt_i, fGe_i, fNeg_i, fAbs_i, fLen_l, fLen_t, fIsN_n, fNotN_n, fInt_b, fIx_t, fIx_l, items_t, items_l, lLc, wipeR, Bool.not_not, Bool.and_true, Bool.true_and, Bool.and_false, Bool.false_and, Bool.or_true, Bool.true_or, Bool.or_false, Bool.false_or, lst_nil, sFor, e, h3, isEmpty_ne hnl, decide_eq_true (show (60 : Int) < (c : Int) + (l.length : Int) by omega)]
        rfl
    · have h2 : d = 20 := hc.elim (fun z => absurd z h1) id
      subst h2
      refine ⟨?_, ?_⟩
      rotate_left
      · simp only [lvBody, runP, startR, sRet, sRetL, sSeq, sIf, sNil, sSet, oAnd, oOr, oNot, oIf, o1, o2, vD, cD, tB, tV, tNot, tAnd, tOr, aNil, aCons, oC, lD, iD, List.length_cons, List.length_nil, List.map_cons, List.map_nil, List.replicate, List.append_nil, List.cons_append, List.nil_append, List.getElem?_cons_zero, List.getElem?_cons_succ, List.set_cons_zero, List.set_cons_succ, List.set_nil, Option.bind_some, Option.bind_none, Option.map_some, Option.map_none, Nat.zero_add, Nat.reduceAdd, Nat.reduceSub, if_true, if_false, Bool.false_eq_true, reduceCtorEq, Bool.not_true, Bool.not_false, isi_tuple, isi_list, isi_str, isi_int, isi_bool, tyName, beq_self_eq_true, tr_b, tr_t, tr_l, fAdd_i, fSub_i, fLt_i, fLe_i, fGt_i, fGe_i, fNeg_i, fAbs_i, fLen_l, fLen_t, fIsN_n, fNotN_n, fInt_b, fIx_t, fIx_l, items_t, items_l, lLc, wipeR, Bool.not_not, Bool.and_true, Bool.true_and, Bool.and_false, Bool.false_and, Bool.or_true, Bool.true_or, Bool.or_false, Bool.false_or, lst_nil, sFor, e, h3, isEmpty_ne hnl, decide_eq_false (show ¬ (60 : Int) < (c : Int) + (l.length : Int) by omega), fEq_ii, show (((20 : Nat) : Int) == (20 : Int)) = true by decide]
        rfl
  · obtain ⟨y7, y8, e⟩ := ih.1 p h
    rw [List.nil_append] at e
    by_cases hnl : l = []
    · subst hnl
      cases h
      refine ⟨?_, ?_, ?_, ?_⟩
      rotate_left 3
      · simp only [lvBody, runP, startR, sRet, sRetL, sSeq, sIf, sNil, sSet, oAnd, oOr, oNot, oIf, o1, o2, vD, cD, tB, tV, tNot, tAnd, tOr, aNil, aCons, oC, lD, iD, List.length_cons, List.length_nil, List.map_cons, List.map_nil, List.replicate, List.append_nil, List.cons_append, List.nil_append, List.getElem?_cons_zero, List.getElem?_cons_succ, List.set_cons_zero, List.set_cons_succ, List.set_nil, Option.bind_some, Option.bind_none, Option.map_some, Option.map_none, Nat.zero_add, Nat.reduceAdd, Nat.reduceSub, if_true, if_false, Bool.false_eq_true, reduceCtorEq, Bool.not_true, Bool.not_false, isi_tuple, isi_list, isi_str, isi_int, isi_bool, tyName, beq_self_eq_true, tr_b, tr_t, tr_l, fAdd_i, fSub_i, fLt_i, fLe_i, fGt_i, fGe_i, fNeg_i, fAbs_i, fLen_l, fLen_t, fIsN_n, fNotN_n, fInt_b, fIx_t, fIx_l, items_t, items_l, lLc, wipeR, Bool.not_not, Bool.and_true, Bool.true_and, Bool.and_false, Bool.false_and, Bool.or_true, Bool.true_or, Bool.or_false, Bool.false_or, lst_nil, sFor, e, h3, List.isEmpty_nil]
        rfl
    · have h1 : ¬ 60 < c + l.length := fun z => hc hnl (.inl z)
      have h2 : ¬ d = 20 := fun z => hc hnl (.inr z)
      have h4 : ((d : Int) == (20 : Int)) = false := by
        rw [beq_eq_false_iff_ne]
        omega
      refine ⟨?_, ?_, ?_, ?_⟩
      rotate_left 3
      · simp only [lvBody, runP, startR, sRet, sRetL, sSeq, sIf, sNil, sSet, oAnd, oOr, oNot, oIf, o1, o2, vD, cD, tB, tV, tNot, tAnd, tOr, aNil, aCons, oC, lD, iD, List.length_cons, List.length_nil, List.map_cons, List.map_nil, List.replicate, List.append_nil, List.cons_append, List.nil_append, List.getElem?_cons_zero, List.getElem?_cons_succ, List.set_cons_zero, List.set_cons_succ, List.set_nil, Option.bind_some, Option.bind_none, Option.map_some, Option.map_none, Nat.zero_add, Nat.reduceAdd, Nat.reduceSub, if_true, if_false, Bool.false_eq_true, reduceCtorEq, Bool.not_true, Bool.not_false, isi_tuple, isi_list, isi_str, isi_int, isi_bool, tyName, beq_self_eq_true, tr_b, tr_t, tr_l, fAdd_i, fSub_i, fLt_i, fLe_i, fGt_i, fGe_i, fNeg_i, fAbs_i, fLen_l, fLen_t, fIsN_n, fNotN_n, fInt_b, fIx_t, fIx_l, items_t, items_l, lLc, wipeR, Bool.not_not, Bool.and_true, Bool.true_and, Bool.and_false, Bool.false_and, Bool.or_true, Bool.true_or, Bool.or_false, Bool.false_or, lst_nil, sFor, e, h3, isEmpty_ne hnl, decide_eq_false (show ¬ (60 : Int) < (c : Int) + (l.length : Int) by omega), fEq_ii, h4]
        rfl
def rng : Nat → Nat → List PyData
  | _, 0 => []
  | i, m + 1 => .int (i : Int) :: rng (i + 1) m
theorem rng22 : intsD 0 22 = rng 0 22 := rfl
theorem lv_idle {n : Nat} (hn : n ≤ 63) (a0 a1 a2 : Option Sl) (r : Rho) : ∀ (m i c : Nat) (x5 x6 x7 x8 : Option Sl), ∃ y3 y4 y5 y6 y7 y8, forGo (gN 5) lvBody (rng i m) (a0 :: a1 :: a2 :: some (.dat (.list [])) :: some (.dat (.int c)) :: x5 :: x6 :: x7 :: x8 :: r) = some (.nx (a0 :: a1 :: a2 :: y3 :: y4 :: y5 :: y6 :: y7 :: y8 :: r))
  | 0, i, c, x5, x6, x7, x8 => ⟨_, _, _, _, _, _, rfl⟩
  | m + 1, i, c, x5, x6, x7, x8 => by
    obtain ⟨y6, y7, y8, e⟩ := (lv_step (n := n) hn a0 a1 a2 r [] c i x6 x7 x8 (fun f hf => (by simp at hf)) (by simp)).2.2 [] rfl (fun z => absurd rfl z)
    obtain ⟨z3, z4, z5, z6, z7, z8, e2⟩ := lv_idle hn a0 a1 a2 r m (i + 1) (c + 0) (some (.dat (.int i))) y6 y7 y8
    refine ⟨z3, z4, z5, z6, z7, z8, ?_⟩
    have eg : forGo (gN 5) lvBody (rng i (m + 1)) (a0 :: a1 :: a2 :: some (.dat (.list [])) :: some (.dat (.int c)) :: x5 :: x6 :: x7 :: x8 :: r) =
        Option.bind (lvBody (a0 :: a1 :: a2 :: some (.dat (.list [])) :: some (.dat (.int c)) :: some (.dat (.int i)) :: x6 :: x7 :: x8 :: r)) (fun o => match o with
          | .nx ρ2 => forGo (gN 5) lvBody (rng (i + 1) m) ρ2
          | .ct ρ2 => forGo (gN 5) lvBody (rng (i + 1) m) ρ2
          | .bk ρ2 => some (.nx ρ2)
          | .rt d r => some (.rt d r)
          | .rtL d => some (.rtL d)) := rfl
    rw [eg, e]
    exact e2
theorem lv_go {n : Nat} (hn : n ≤ 63) (a0 a1 a2 : Option Sl) (r : Rho) : ∀ (k : Nat) (l : List PyData) (c : Nat) (x5 x6 x7 x8 : Option Sl), (∀ f ∈ l, Fine n f) → l.length ≤ 6000 → k ≤ 20 →
    match goS k c l with
    | none => ∃ y3 y4 y5 y6 y7 y8, forGo (gN 5) lvBody (rng (20 - k) (k + 2)) (a0 :: a1 :: a2 :: some (.dat (.list l)) :: some (.dat (.int c)) :: x5 :: x6 :: x7 :: x8 :: r) = some (.nx (a0 :: a1 :: a2 :: y3 :: y4 :: y5 :: y6 :: y7 :: y8 :: r))
    | some s => ∃ ρ, forGo (gN 5) lvBody (rng (20 - k) (k + 2)) (a0 :: a1 :: a2 :: some (.dat (.list l)) :: some (.dat (.int c)) :: x5 :: x6 :: x7 :: x8 :: r) = some (.rt (.str s) ρ) := by
  intro k
  induction k with
  | zero =>
    intro l c x5 x6 x7 x8 hf hl hk
    by_cases hnl : l = []
    · subst hnl
      exact lv_idle hn a0 a1 a2 r 2 20 c x5 x6 x7 x8
    · have st := lv_step hn a0 a1 a2 r l c 20 x6 x7 x8 hf hl
      cases hc : collect l with
      | none =>
        obtain ⟨ρ, e⟩ := st.1 hc
        simp only [goS, if_neg hnl, hc]
        refine ⟨ρ, ?_⟩
        show Option.bind (lvBody (a0 :: a1 :: a2 :: some (.dat (.list l)) :: some (.dat (.int c)) :: some (.dat (.int (20 : Nat))) :: x6 :: x7 :: x8 :: r)) _ = _
        rw [e]
        rfl
      | some p =>
        obtain ⟨ρ, e⟩ := st.2.1 p hc hnl (.inr rfl)
        simp only [goS, if_neg hnl, hc]
        refine ⟨ρ, ?_⟩
        show Option.bind (lvBody (a0 :: a1 :: a2 :: some (.dat (.list l)) :: some (.dat (.int c)) :: some (.dat (.int (20 : Nat))) :: x6 :: x7 :: x8 :: r)) _ = _
        rw [e]
        rfl
  | succ k ih =>
    intro l c x5 x6 x7 x8 hf hl hk
    by_cases hnl : l = []
    · subst hnl
      exact lv_idle hn a0 a1 a2 r (k + 1 + 2) (20 - (k + 1)) c x5 x6 x7 x8
    · have st := lv_step hn a0 a1 a2 r l c (20 - (k + 1)) x6 x7 x8 hf hl
      have eg : forGo (gN 5) lvBody (rng (20 - (k + 1)) (k + 1 + 2)) (a0 :: a1 :: a2 :: some (.dat (.list l)) :: some (.dat (.int c)) :: x5 :: x6 :: x7 :: x8 :: r) =
        Option.bind (lvBody (a0 :: a1 :: a2 :: some (.dat (.list l)) :: some (.dat (.int c)) :: some (.dat (.int (20 - (k + 1) : Nat))) :: x6 :: x7 :: x8 :: r)) (fun o => match o with
          | .nx ρ2 => forGo (gN 5) lvBody (rng (20 - (k + 1) + 1) (k + 2)) ρ2
          | .ct ρ2 => forGo (gN 5) lvBody (rng (20 - (k + 1) + 1) (k + 2)) ρ2
          | .bk ρ2 => some (.nx ρ2)
          | .rt d r => some (.rt d r)
          | .rtL d => some (.rtL d)) := rfl
      rw [eg]
      cases hc : collect l with
      | none =>
        obtain ⟨ρ, e⟩ := st.1 hc
        simp only [goS, if_neg hnl, hc, e, Option.bind_some]
        exact ⟨ρ, rfl⟩
      | some p =>
        by_cases h60 : 60 < c + l.length
        · obtain ⟨ρ, e⟩ := st.2.1 p hc hnl (.inl h60)
          simp only [goS, if_neg hnl, hc, if_pos h60, e, Option.bind_some]
          exact ⟨ρ, rfl⟩
        · obtain ⟨y6, y7, y8, e⟩ := st.2.2 p hc (fun _ z => z.elim h60 (by omega))
          obtain ⟨b1, b2⟩ := collect_fine hf hc
          have e3 : 20 - (k + 1) + 1 = 20 - k := by omega
          rw [e3]
          have e2 := ih p (c + l.length) (some (.dat (.int (20 - (k + 1) : Nat)))) y6 y7 y8 b1 (by omega) (by omega)
          simp only [goS, if_neg hnl, hc, if_neg h60, e, Option.bind_some]
          exact e2
end K77

set_option Elab.async false
set_option linter.all false
set_option maxRecDepth 100000
set_option maxHeartbeats 4000000
/-! M8: a formula that passes: its atoms, on both sides. -/
namespace K77
open PySem DL
open L2 (atI ixN)
def OkF : Nat → PyData → Prop
  | 0, _ => False
  | k + 1, f => ∃ ps, parts f = some ps ∧ ∀ p ∈ ps, OkF k p
def partsD (f : PyData) : List PyData := (parts f).getD []
def nodes : Nat → PyData → Nat
  | 0, _ => 0
  | k + 1, f => 1 + ((partsD f).map (nodes k)).sum
def isAtom : PyData → Bool
  | .tuple (a :: _) => isS "is" a
  | _ => false
def flat : Nat → PyData → List PyData
  | 0, _ => []
  | k + 1, f => if isAtom f then [f] else (partsD f).flatMap (flat k)
theorem collect_mem : ∀ {l d : List PyData}, collect l = some d → ∀ f ∈ l, ∃ ps, parts f = some ps ∧ ∀ p ∈ ps, p ∈ d
  | [], d, h, f, hf => by simp at hf
  | g :: fs, d, h, f, hf => by
    obtain ⟨ps, e1, h⟩ := bind_some h
    obtain ⟨qs, e2, e3⟩ := map_some h
    subst e3
    rcases List.mem_cons.mp hf with rfl | hf
    · exact ⟨ps, e1, fun p hp => List.mem_append_left _ hp⟩
    · obtain ⟨rs, e4, h4⟩ := collect_mem e2 f hf
      exact ⟨rs, e4, fun p hp => List.mem_append_right _ (h4 p hp)⟩
theorem collect_sum (w : PyData → Nat) : ∀ {l d : List PyData}, collect l = some d → (l.map fun f => 1 + ((partsD f).map w).sum).sum = l.length + (d.map w).sum
  | [], d, h => by cases h; rfl
  | g :: fs, d, h => by
    obtain ⟨ps, e1, h⟩ := bind_some h
    obtain ⟨qs, e2, e3⟩ := map_some h
    subst e3
    have ih := collect_sum w e2
    have e4 : partsD g = ps := by
      unfold partsD
      rw [e1]
      rfl
    rw [List.map_cons, List.sum_cons, ih, e4, List.length_cons, List.map_append, List.sum_append]
    omega
theorem goS_ok : ∀ (k : Nat) (l : List PyData) (c : Nat), goS k c l = none → ∀ f ∈ l, OkF k f
  | 0, l, c, h, f, hf => by
    by_cases hn : l = []
    · subst hn; simp at hf
    · unfold goS at h
      rw [if_neg hn] at h
      split at h <;> cases h
  | k + 1, l, c, h, f, hf => by
    by_cases hn : l = []
    · subst hn; simp at hf
    · unfold goS at h
      rw [if_neg hn] at h
      split at h
      · cases h
      · rename_i d hd
        split at h
        · cases h
        · have ih := goS_ok k d _ h
          obtain ⟨ps, e1, h1⟩ := collect_mem hd f hf
          exact ⟨ps, e1, fun p hp => ih p (h1 p hp)⟩
theorem goS_sum : ∀ (k : Nat) (l : List PyData) (c : Nat), goS k c l = none → c ≤ 60 → c + (l.map (nodes k)).sum ≤ 60
  | 0, l, c, h, hc => by
    by_cases hn : l = []
    · subst hn; simpa using hc
    · unfold goS at h
      rw [if_neg hn] at h
      split at h <;> cases h
  | k + 1, l, c, h, hc => by
    by_cases hn : l = []
    · subst hn; simpa using hc
    · unfold goS at h
      rw [if_neg hn] at h
      split at h
      · cases h
      · rename_i d hd
        split at h
        · cases h
        · rename_i h60
          have ih := goS_sum k d _ h (by omega)
          have e := collect_sum (nodes k) hd
          show c + (l.map fun f => 1 + ((partsD f).map (nodes k)).sum).sum ≤ 60
          rw [e]
          omega
theorem okF_up : ∀ {k : Nat} {f : PyData}, OkF k f → OkF (k + 1) f
  | 0, f, h => h.elim
  | k + 1, f, ⟨ps, e, h⟩ => ⟨ps, e, fun p hp => okF_up (h p hp)⟩
theorem nodes_up : ∀ {k : Nat} {f : PyData}, OkF k f → nodes (k + 1) f = nodes k f
  | 0, f, h => h.elim
  | k + 1, f, ⟨ps, e, h⟩ => by
    have e4 : partsD f = ps := by
      unfold partsD
      rw [e]
      rfl
    show 1 + ((partsD f).map (nodes (k + 1))).sum = 1 + ((partsD f).map (nodes k)).sum
    rw [e4, List.map_congr_left fun p hp => nodes_up (h p hp)]
theorem flat_up : ∀ {k : Nat} {f : PyData}, OkF k f → flat (k + 1) f = flat k f
  | 0, f, h => h.elim
  | k + 1, f, ⟨ps, e, h⟩ => by
    have e4 : partsD f = ps := by
      unfold partsD
      rw [e]
      rfl
    show (if isAtom f then [f] else (partsD f).flatMap (flat (k + 1))) = (if isAtom f then [f] else (partsD f).flatMap (flat k))
    rw [e4]
    congr 1
    rw [List.flatMap_def, List.flatMap_def, List.map_congr_left fun p hp => flat_up (h p hp)]
theorem okF_le {k m : Nat} {f : PyData} (h : OkF k f) (hm : k ≤ m) : OkF m f := by
  induction hm with
  | refl => exact h
  | step _ ih => exact okF_up ih
theorem flat_le {k m : Nat} {f : PyData} (h : OkF k f) (hm : k ≤ m) : flat m f = flat k f := by
  induction hm with
  | refl => rfl
  | step hk ih => rw [flat_up (okF_le h hk), ih]
theorem nodes_le {k m : Nat} {f : PyData} (h : OkF k f) (hm : k ≤ m) : nodes m f = nodes k f := by
  induction hm with
  | refl => rfl
  | step hk ih => rw [nodes_up (okF_le h hk), ih]
/-- the parts of a formula of level k + 1, all at level k + 1 -/
theorem okF_parts {k : Nat} {f : PyData} (h : OkF (k + 1) f) : parts f = some (partsD f) ∧ (∀ p ∈ partsD f, OkF (k + 1) p) ∧ nodes (k + 1) f = 1 + ((partsD f).map (nodes (k + 1))).sum ∧ (isAtom f = false → flat (k + 1) f = (partsD f).flatMap (flat (k + 1))) := by
  obtain ⟨ps, e, h⟩ := h
  have e4 : partsD f = ps := by
    unfold partsD
    rw [e]
    rfl
  rw [e4]
  refine ⟨e, fun p hp => okF_up (h p hp), ?_, fun ha => ?_⟩
  · show 1 + ((partsD f).map (nodes k)).sum = _
    rw [e4, List.map_congr_left fun p hp => nodes_up (h p hp)]
  · show (if isAtom f then [f] else (partsD f).flatMap (flat k)) = _
    rw [ha, if_neg Bool.false_ne_true, e4, List.flatMap_def, List.flatMap_def, List.map_congr_left fun p hp => flat_up (h p hp)]
theorem flat_atom {k : Nat} {f : PyData} (ha : isAtom f = true) : flat (k + 1) f = [f] := by
  show (if isAtom f then [f] else _) = _
  rw [if_pos ha]
/-- an atom -/
theorem atom_is {f : PyData} {ps : List PyData} (h : parts f = some ps) (ha : isAtom f = true) : ps = [] ∧ ∃ b c, f = .tuple [.str "is", b, c] ∧ isForm b = true := by
  cases f with
  | tuple cs =>
    match cs, h, ha with
    | [a, b], h, ha =>
      have e := isS_iff.mp ha
      subst e
      have h' : (if isS "not" (.str "is") then some [b] else if isS "and" (.str "is") || isS "or" (.str "is") then (match b with
        | .list l => if 2 ≤ l.length then some l else none
        | _ => none) else none) = some ps := h
      rw [show isS "not" (.str "is") = false by decide +kernel, show isS "and" (.str "is") = false by decide +kernel, show isS "or" (.str "is") = false by decide +kernel] at h'
      cases h'
    | [a, b, c], h, ha =>
      have e := isS_iff.mp ha
      subst e
      simp only [parts] at h
      split at h
      · rename_i hb
        cases h
        rw [Bool.and_eq_true, Bool.and_eq_true] at hb
        exact ⟨rfl, b, c, rfl, hb.2.1⟩
      · cases h
  | _ => cases ha
/-- the head of a formula with parts -/
theorem parts_head {f : PyData} {ps : List PyData} (h : parts f = some ps) : ∃ a r, f = .tuple (a :: r) ∧ (isAtom f = isS "is" a) ∧ isStr a = true := by
  cases f with
  | tuple cs =>
    match cs, h with
    | [a, b], h =>
      refine ⟨a, [b], rfl, rfl, ?_⟩
      cases hs : isStr a with
      | true => rfl
      | false =>
        simp only [parts, isS_str hs] at h
        cases h
    | [a, b, c], h =>
      refine ⟨a, [b, c], rfl, rfl, ?_⟩
      cases hs : isStr a with
      | true => rfl
      | false =>
        simp only [parts, isS_str hs] at h
        cases h
  | _ => cases h
theorem nodes_pos {k : Nat} {f : PyData} : 1 ≤ nodes (k + 1) f := Nat.le_add_right 1 _
theorem sum_len {k : Nat} : ∀ l : List PyData, l.length ≤ (l.map (nodes (k + 1))).sum
  | [] => Nat.le_refl _
  | f :: l => by
    have := sum_len (k := k) l
    have h := nodes_pos (k := k) (f := f)
    rw [List.length_cons, List.map_cons, List.sum_cons]
    omega
theorem flat_len : ∀ {k : Nat} {f : PyData}, OkF k f → (flat k f).length ≤ nodes k f
  | 0, f, h => h.elim
  | k + 1, f, ⟨ps, e, h⟩ => by
    have e4 : partsD f = ps := by
      unfold partsD
      rw [e]
      rfl
    show (if isAtom f then [f] else (partsD f).flatMap (flat k)).length ≤ 1 + ((partsD f).map (nodes k)).sum
    split
    · simp
    · rw [e4, List.length_flatMap]
      have : ∀ l : List PyData, (∀ p ∈ l, OkF k p) → (l.map fun a => (flat k a).length).sum ≤ (l.map (nodes k)).sum := by
        intro l
        induction l with
        | nil => intro _; exact Nat.le_refl _
        | cons a l ih =>
          intro hl
          have h1 := flat_len (hl a (List.mem_cons_self ..))
          have h2 := ih fun p hp => hl p (List.mem_cons_of_mem _ hp)
          rw [List.map_cons, List.map_cons, List.sum_cons, List.sum_cons]
          omega
      have := this ps h
      omega
/-! ### the program's walk -/
def atBody : DSt := (sSeq (sPop 3 2)
    (sIf (DL.tB (o2 fEq (o2 fIx (vD 3) (cD (.int 0))) (cD (.str "is"))))
      (sApp 1 (vD 3))
      (sExt 2 (lRev (asL (oC F_within (aCons (vD 3) aNil)))))))
theorem at_split : d_atoms_of = (sSeq (sOwn 1 (lLst aNil)) (sSeq (sOwn 2 (lLst (aCons (vD 0) aNil))) (sSeq (whileGo (tV (lD (vO 2))) atBody 4000) (sRetL (vO 1))))) := rfl
theorem at_while {n k : Nat} (hn : n ≤ 64) (v : Option Sl) : ∀ (m : Nat) (w found : List PyData) (x3 : Option Sl), (∀ f ∈ w, Fine n f ∧ OkF (k + 1) f) → (w.map (nodes (k + 1))).sum + found.length ≤ 100 → (w.map (nodes (k + 1))).sum < m →
    ∃ y3, whileGo (tV (lD (vO 2))) atBody m [v, some (.own found), some (.own w), x3] = some (.nx [v, some (.own (found ++ w.reverse.flatMap (flat (k + 1)))), some (.own []), y3])
  | 0, w, found, x3, hf, hz, hm => by omega
  | m + 1, w, found, x3, hf, hz, hm => by
    by_cases hw : w = []
    · subst hw
      exact ⟨x3, by rw [List.reverse_nil, List.flatMap_nil, List.append_nil]; rfl⟩
    · obtain ⟨f, e1, hfm⟩ := last_of hw
      obtain ⟨w', rfl⟩ : ∃ w', w = w' ++ [f] := ⟨w.dropLast, by
        rw [List.getLast?_eq_some_getLast hw] at e1
        have e2 := Option.some.inj e1
        rw [← e2, List.dropLast_concat_getLast]⟩
      obtain ⟨h1, h2⟩ := hf f hfm
      obtain ⟨q1, q2, q3, q4⟩ := okF_parts h2
      obtain ⟨a, r, ef, ea, es⟩ := parts_head q1
      have ht : tV (lD (vO 2)) [v, some (.own found), some (.own (w' ++ [f])), x3] = some true := by
        simp only [tV, lD, vO, List.getElem?_cons_succ, List.getElem?_cons_zero, Option.map_some, Option.bind_some, tr_l, isEmpty_ne hw, Bool.not_false]
      have hs : sPop 3 2 [v, some (.own found), some (.own (w' ++ [f])), x3] = some (.nx [v, some (.own found), some (.own w'), some (.dat f)]) := by
        simp only [sPop, vO, List.getElem?_cons_succ, List.getElem?_cons_zero, Option.bind_some, e1, Option.map_some, List.dropLast_concat, List.set_cons_succ, List.set_cons_zero]
      have hsum : ((w' ++ [f]).map (nodes (k + 1))).sum = (w'.map (nodes (k + 1))).sum + nodes (k + 1) f := by
        rw [List.map_append, List.sum_append]
        simp
      have hp := nodes_pos (k := k) (f := f)
      have sa : SeqAt.shaped a = true := by
        obtain ⟨x, rfl⟩ := str_is es
        subst ef
        obtain ⟨_, m', rfl, hall⟩ := fine_tl h1
        exact (hall _ (List.mem_cons_self ..)).shaped (by omega)
      have hw1 : ∀ g ∈ w', Fine n g ∧ OkF (k + 1) g := fun g hg => hf g (List.mem_append_left _ hg)
      have hstep : whileGo (tV (lD (vO 2))) atBody (m + 1) [v, some (.own found), some (.own (w' ++ [f])), x3] = (atBody [v, some (.own found), some (.own (w' ++ [f])), x3]).bind fun o => match o with
          | .nx ρ2 => whileGo (tV (lD (vO 2))) atBody m ρ2
          | .ct ρ2 => whileGo (tV (lD (vO 2))) atBody m ρ2
          | .bk ρ2 => some (.nx ρ2)
          | .rt d r => some (.rt d r)
          | .rtL d => some (.rtL d) := by
        show (tV (lD (vO 2)) [v, some (.own found), some (.own (w' ++ [f])), x3]).bind _ = _
        rw [ht]
        rfl
      have hix : fIx f (.int 0) = some a := by rw [ef, fIx_t, atI_0]
      rw [hstep]
      cases hat : isAtom f with
      | true =>
        obtain ⟨e5, b, c, e6, _⟩ := atom_is q1 hat
        have e7 : nodes (k + 1) f = 1 := by rw [q3, e5]; rfl
        have eb : atBody [v, some (.own found), some (.own (w' ++ [f])), x3] = some (.nx [v, some (.own (found ++ [f])), some (.own w'), some (.dat f)]) := by
          simp only [atBody, sSeq, hs, Option.bind_some, sIf, runP, startR, sRet, sRetL, sSeq, sIf, sNil, sSet, oAnd, oOr, oNot, oIf, o1, o2, vD, cD, tB, tV, tNot, tAnd, tOr, aNil, aCons, oC, lD, iD, List.length_cons, List.length_nil, List.map_cons, List.map_nil, List.replicate, List.append_nil, List.cons_append, List.nil_append, List.getElem?_cons_zero, List.getElem?_cons_succ, List.set_cons_zero, List.set_cons_succ, List.set_nil, Option.bind_some, Option.bind_none, Option.map_some, Option.map_none, Nat.zero_add, Nat.reduceAdd, Nat.reduceSub, if_true, if_false, Bool.false_eq_true, reduceCtorEq, Bool.not_true, Bool.not_false, isi_tuple, isi_list, isi_str, isi_int, isi_bool, tyName, beq_self_eq_true, tr_b, tr_t, tr_l, fAdd_i, fSub_i, fLt_i, fLe_i, fGt_i, fGe_i, fNeg_i, fAbs_i, fLen_l, fLen_t, fIsN_n, fNotN_n, fInt_b, fIx_t, fIx_l, items_t, items_l, lLc, wipeR, Bool.not_not, Bool.and_true, Bool.true_and, Bool.and_false, Bool.false_and, Bool.or_true, Bool.true_or, Bool.or_false, Bool.false_or, hix, sb "is" (by decide +kernel) sa, ← ea, hat, sApp, vO]
          rw [if_pos (show found.length < sizeLine from Nat.lt_of_lt_of_le (by omega : found.length < 1000) (by unfold sizeLine; decide))]
        rw [eb]
        obtain ⟨y3, e8⟩ := at_while hn v m w' (found ++ [f]) (some (.dat f)) hw1 (by rw [List.length_append, List.length_singleton]; omega) (by omega)
        refine ⟨y3, ?_⟩
        rw [List.reverse_append, List.reverse_singleton, List.singleton_append, List.flatMap_cons, flat_atom hat, ← List.append_assoc]
        exact e8
      | false =>
        have hwi : F_within [f] = some (.list (partsD f)) := by rw [within_eq f h1 hn, q1] <;> rfl
        obtain ⟨g1, g2⟩ := parts_fine h1 q1
        have hl := sum_len (k := k) w'
        have eb : atBody [v, some (.own found), some (.own (w' ++ [f])), x3] = some (.nx [v, some (.own found), some (.own (w' ++ (partsD f).reverse)), some (.dat f)]) := by
          simp only [atBody, sSeq, hs, Option.bind_some, sIf, runP, startR, sRet, sRetL, sSeq, sIf, sNil, sSet, oAnd, oOr, oNot, oIf, o1, o2, vD, cD, tB, tV, tNot, tAnd, tOr, aNil, aCons, oC, lD, iD, List.length_cons, List.length_nil, List.map_cons, List.map_nil, List.replicate, List.append_nil, List.cons_append, List.nil_append, List.getElem?_cons_zero, List.getElem?_cons_succ, List.set_cons_zero, List.set_cons_succ, List.set_nil, Option.bind_some, Option.bind_none, Option.map_some, Option.map_none, Nat.zero_add, Nat.reduceAdd, Nat.reduceSub, if_true, if_false, Bool.false_eq_true, reduceCtorEq, Bool.not_true, Bool.not_false, isi_tuple, isi_list, isi_str, isi_int, isi_bool, tyName, beq_self_eq_true, tr_b, tr_t, tr_l, fAdd_i, fSub_i, fLt_i, fLe_i, fGt_i, fGe_i, fNeg_i, fAbs_i, fLen_l, fLen_t, fIsN_n, fNotN_n, fInt_b, fIx_t, fIx_l, items_t, items_l, lLc, wipeR, Bool.not_not, Bool.and_true, Bool.true_and, Bool.and_false, Bool.false_and, Bool.or_true, Bool.true_or, Bool.or_false, Bool.false_or, hix, sb "is" (by decide +kernel) sa, ← ea, hat, sExt, vO, hwi, lRev, asL]
          rw [if_pos (size_ok (show w'.length + (partsD f).reverse.length ≤ 1000000 by rw [List.length_reverse]; omega))]
        rw [eb]
        have hrs : ((partsD f).reverse.map (nodes (k + 1))).sum = ((partsD f).map (nodes (k + 1))).sum := by
          rw [List.map_reverse, List.sum_reverse]
        obtain ⟨y3, e8⟩ := at_while hn v m (w' ++ (partsD f).reverse) found (some (.dat f)) (fun g hg => (List.mem_append.mp hg).elim (hw1 g) fun hg => by
            have hg' := List.mem_reverse.mp hg
            exact ⟨g1 g hg', q2 g hg'⟩) (by rw [List.map_append, List.sum_append, hrs]; omega) (by rw [List.map_append, List.sum_append, hrs]; omega)
        refine ⟨y3, ?_⟩
        rw [List.reverse_append, List.reverse_reverse, List.flatMap_append, ← q4 hat] at e8
        rw [List.reverse_append, List.reverse_singleton, List.singleton_append, List.flatMap_cons]
        exact e8
theorem atoms_eq {n k : Nat} (f : PyData) (hf : Fine n f) (hn : n ≤ 64) (ho : OkF (k + 1) f) (hz : nodes (k + 1) f ≤ 60) : F_atoms_of [f] = some (.list (flat (k + 1) f)) := by
  obtain ⟨y3, e⟩ := at_while (k := k) hn (some (.dat f)) 4000 [f] [] none (fun g hg => by rw [List.mem_singleton.mp hg]; exact ⟨hf, ho⟩) (by simp; omega) (by simp; omega)
  simp only [List.reverse_singleton, List.flatMap_cons, List.flatMap_nil, List.append_nil, List.nil_append] at e
  have hz1 : 1 ≤ sizeLine := size_ok (by decide)
  have e' : whileGo (tV (lD (vO 2))) atBody 4000 [some (.dat f), some (.own []), some (.own [f]), none] = some (.nx [some (.dat f), some (.own (flat (k + 1) f)), some (.own []), y3]) := e
  have hl : lLst (aCons (vD 0) aNil) [some (.dat f), some (.own []), none, none] = some [f] := by simp only [lLst, runP, startR, sRet, sRetL, sSeq, sIf, sNil, sSet, oAnd, oOr, oNot, oIf, o1, o2, vD, cD, tB, tV, tNot, tAnd, tOr, aNil, aCons, oC, lD, iD, List.length_cons, List.length_nil, List.map_cons, List.map_nil, List.replicate, List.append_nil, List.cons_append, List.nil_append, List.getElem?_cons_zero, List.getElem?_cons_succ, List.set_cons_zero, List.set_cons_succ, List.set_nil, Option.bind_some, Option.bind_none, Option.map_some, Option.map_none, Nat.zero_add, Nat.reduceAdd, Nat.reduceSub, if_true, if_false, Bool.false_eq_true, reduceCtorEq, Bool.not_true, Bool.not_false, isi_tuple, isi_list, isi_str, isi_int, isi_bool, tyName, beq_self_eq_true, tr_b, tr_t, tr_l, fAdd_i, fSub_i, fLt_i, fLe_i, fGt_i, fGe_i, fNeg_i, fAbs_i, fLen_l, fLen_t, fIsN_n, fNotN_n, fInt_b, fIx_t, fIx_l, items_t, items_l, lLc, wipeR, Bool.not_not, Bool.and_true, Bool.true_and, Bool.and_false, Bool.false_and, Bool.or_true, Bool.true_or, Bool.or_false, Bool.false_or, hz1]
  simp only [F_atoms_of, at_split, sSeq, runP, startR, List.length_cons, List.length_nil, List.map_cons, List.map_nil, if_true, List.replicate, List.append_nil, List.cons_append, List.nil_append, Nat.zero_add, Nat.reduceAdd, Nat.reduceSub, sOwn, lst_nil, Option.map_some, Option.bind_some, List.set_cons_succ, List.set_cons_zero, hl, e', sRetL, vO, List.getElem?_cons_succ, List.getElem?_cons_zero]
end K77

set_option Elab.async false
set_option linter.all false
set_option maxRecDepth 100000
set_option maxHeartbeats 4000000
/-! M9: the forms of a formula that passes, on both sides. -/
namespace K77
open PySem DL
open L2 (atI ixN)
theorem mem_sum {x : Nat} : ∀ {l : List Nat}, x ∈ l → x ≤ l.sum
  | a :: l, h => by
    rw [List.sum_cons]
    rcases List.mem_cons.mp h with rfl | h
    · omega
    · have := mem_sum h
      omega
def row0 : PyData → Bool
  | .tuple cs => decide (1 < cs.length)
  | _ => false
def longB : PyData → Bool
  | .tuple (r :: r2 :: rs) => true
  | .tuple [r] => row0 r
  | _ => false
theorem form_tup {b : PyData} (h : isForm b = true) : ∃ rs, b = .tuple rs ∧ rs.length ≤ 3 ∧ (∀ r ∈ rs, isRow r = true) ∧ lastNot rs isT0 = true := by
  cases b with
  | tuple rs =>
    unfold isForm at h
    rw [Bool.and_eq_true, Bool.and_eq_true, decide_eq_true_eq] at h
    exact ⟨rs, rfl, h.1.1, List.all_eq_true.mp h.1.2, h.2⟩
  | _ => cases h
theorem row_tup {r : PyData} (h : isRow r = true) : ∃ cs, r = .tuple cs ∧ cs.length ≤ 3 := by
  cases r with
  | tuple cs =>
    unfold isRow at h
    rw [Bool.and_eq_true, Bool.and_eq_true, decide_eq_true_eq] at h
    exact ⟨cs, rfl, h.1.1⟩
  | _ => cases h
theorem plain_eq {b : PyData} (h : isForm b = true) : F_is_plain_number [b] = some (.bool (!longB b)) := by
  obtain ⟨rs, rfl, h3, hr, hl⟩ := form_tup h
  match rs, h3, hr, hl with
  | [], _, _, _ => rfl
  | [r], _, hr, hl =>
    obtain ⟨cs, rfl, hc⟩ := row_tup (hr r (by simp))
    have hne : cs ≠ [] := fun z => by subst z; cases hl
    have hp : 0 < cs.length := List.length_pos_iff.mpr hne
    have e : ((cs.length : Int) == (1 : Int)) = !decide (1 < cs.length) := by
      rw [Bool.eq_iff_iff, beq_iff_eq, Bool.not_eq_true', decide_eq_false_iff_not]
      omega
    simp only [F_is_plain_number, runP, startR, sRet, sRetL, sSeq, sIf, sNil, sSet, oAnd, oOr, oNot, oIf, o1, o2, vD, cD, tB, tV, tNot, tAnd, tOr, aNil, aCons, oC, lD, iD, List.length_cons, List.length_nil, List.map_cons, List.map_nil, List.replicate, List.append_nil, List.cons_append, List.nil_append, List.getElem?_cons_zero, List.getElem?_cons_succ, List.set_cons_zero, List.set_cons_succ, List.set_nil, Option.bind_some, Option.bind_none, Option.map_some, Option.map_none, Nat.zero_add, Nat.reduceAdd, Nat.reduceSub, if_true, if_false, Bool.false_eq_true, reduceCtorEq, Bool.not_true, Bool.not_false, isi_tuple, isi_list, isi_str, isi_int, isi_bool, tyName, beq_self_eq_true, tr_b, tr_t, tr_l, fAdd_i, fSub_i, fLt_i, fLe_i, fGt_i, fGe_i, fNeg_i, fAbs_i, fLen_l, fLen_t, fIsN_n, fNotN_n, fInt_b, fIx_t, fIx_l, items_t, items_l, lLc, wipeR, Bool.not_not, Bool.and_true, Bool.true_and, Bool.and_false, Bool.false_and, Bool.or_true, Bool.true_or, Bool.or_false, Bool.false_or, show decide (((1 : Nat) : Int) < (2 : Int)) = true by decide, List.isEmpty_cons, atI_0, fEq_ii, e, longB, row0]
  | r :: r2 :: rs, _, _, _ =>
    simp only [F_is_plain_number, runP, startR, sRet, sRetL, sSeq, sIf, sNil, sSet, oAnd, oOr, oNot, oIf, o1, o2, vD, cD, tB, tV, tNot, tAnd, tOr, aNil, aCons, oC, lD, iD, List.length_cons, List.length_nil, List.map_cons, List.map_nil, List.replicate, List.append_nil, List.cons_append, List.nil_append, List.getElem?_cons_zero, List.getElem?_cons_succ, List.set_cons_zero, List.set_cons_succ, List.set_nil, Option.bind_some, Option.bind_none, Option.map_some, Option.map_none, Nat.zero_add, Nat.reduceAdd, Nat.reduceSub, if_true, if_false, Bool.false_eq_true, reduceCtorEq, Bool.not_true, Bool.not_false, isi_tuple, isi_list, isi_str, isi_int, isi_bool, tyName, beq_self_eq_true, tr_b, tr_t, tr_l, fAdd_i, fSub_i, fLt_i, fLe_i, fGt_i, fGe_i, fNeg_i, fAbs_i, fLen_l, fLen_t, fIsN_n, fNotN_n, fInt_b, fIx_t, fIx_l, items_t, items_l, lLc, wipeR, Bool.not_not, Bool.and_true, Bool.true_and, Bool.and_false, Bool.false_and, Bool.or_true, Bool.true_or, Bool.or_false, Bool.false_or, decide_eq_false (show ¬ ((rs.length + 1 + 1 : Nat) : Int) < 2 by omega), longB]
def formsS : List PyData → List PyData → List PyData
  | acc, [] => acc
  | acc, b :: bs => if longB b && !isIn b acc then formsS (acc ++ [b]) bs else formsS acc bs
theorem formsS_mem : ∀ (bs acc : List PyData), ∀ x ∈ formsS acc bs, x ∈ acc ∨ x ∈ bs
  | [], acc, x, h => .inl h
  | b :: bs, acc, x, h => by
    unfold formsS at h
    split at h
    · rcases formsS_mem bs _ x h with h | h
      · rcases List.mem_append.mp h with h | h
        · exact .inl h
        · exact .inr (by rw [List.mem_singleton.mp h]; exact List.mem_cons_self ..)
      · exact .inr (List.mem_cons_of_mem _ h)
    · rcases formsS_mem bs _ x h with h | h
      · exact .inl h
      · exact .inr (List.mem_cons_of_mem _ h)
theorem formsS_len : ∀ (bs acc : List PyData), (formsS acc bs).length ≤ acc.length + bs.length
  | [], acc => Nat.le_refl _
  | b :: bs, acc => by
    unfold formsS
    split
    · have := formsS_len bs (acc ++ [b])
      rw [List.length_append, List.length_singleton] at this
      rw [List.length_cons]
      omega
    · have := formsS_len bs acc
      rw [List.length_cons]
      omega
def second : PyData → PyData
  | .tuple [_, b, _] => b
  | _ => .none
theorem small_lt {n : Nat} (h : n < 1000) : n < sizeLine := Nat.lt_of_lt_of_le h (by unfold sizeLine; decide)
/-! ### the program -/
def foBody : DSt := (sIf (DL.tAnd (DL.tNot (tV (oC F_is_plain_number (aCons (vD 3) aNil)))) (DL.tB (o2 (fIn true) (vD 3) (lD (vO 1)))))
      (sApp 1 (vD 3))
      sNil)
theorem fo_split : d_forms_of = (sSeq (sOwn 1 (lLst aNil)) (sSeq (sFor (iD (oC F_atoms_of (aCons (vD 0) aNil))) (gT [2, 3, 2]) foBody) (sRetL (vO 1)))) := rfl
def AtomF (n : Nat) (f : PyData) : Prop := ∃ a b c, f = .tuple [a, b, c] ∧ isForm b = true ∧ Fine n b
theorem fo_for {n : Nat} (hn : n ≤ 63) (v : Option Sl) : ∀ (fs found : List PyData) (x2 x3 : Option Sl), (∀ f ∈ fs, AtomF n f) → (∀ b ∈ found, Fine n b) → found.length + fs.length ≤ 100 →
    ∃ y2 y3, forGo (gT [2, 3, 2]) foBody fs [v, some (.own found), x2, x3] = some (.nx [v, some (.own (formsS found (fs.map second))), y2, y3])
  | [], found, x2, x3, _, _, _ => ⟨x2, x3, rfl⟩
  | f :: fs, found, x2, x3, hf, hb, hz => by
    obtain ⟨a, b, c, rfl, h1, h2⟩ := hf f (List.mem_cons_self ..)
    have hz' : found.length + (fs.length + 1) ≤ 100 := hz
    have hs : SeqAt.shaped (.list found) = true := shapedL hb (by omega)
    have eb : foBody [v, some (.own found), some (.dat c), some (.dat b)] = some (.nx [v, some (.own (if longB b && !isIn b found then found ++ [b] else found)), some (.dat c), some (.dat b)]) := by
      simp only [foBody, runP, startR, sRet, sRetL, sSeq, sIf, sNil, sSet, oAnd, oOr, oNot, oIf, o1, o2, vD, cD, tB, tV, tNot, tAnd, tOr, aNil, aCons, oC, lD, iD, List.length_cons, List.length_nil, List.map_cons, List.map_nil, List.replicate, List.append_nil, List.cons_append, List.nil_append, List.getElem?_cons_zero, List.getElem?_cons_succ, List.set_cons_zero, List.set_cons_succ, List.set_nil, Option.bind_some, Option.bind_none, Option.map_some, Option.map_none, Nat.zero_add, Nat.reduceAdd, Nat.reduceSub, if_true, if_false, Bool.false_eq_true, reduceCtorEq, Bool.not_true, Bool.not_false, isi_tuple, isi_list, isi_str, isi_int, isi_bool, tyName, beq_self_eq_true, tr_b, tr_t, tr_l, fAdd_i, fSub_i, fLt_i, fLe_i, fGt_i, fGe_i, fNeg_i, fAbs_i, fLen_l, fLen_t, fIsN_n, fNotN_n, fInt_b, fIx_t, fIx_l, items_t, items_l, lLc, wipeR, Bool.not_not, Bool.and_true, Bool.true_and, Bool.and_false, Bool.false_and, Bool.or_true, Bool.true_or, Bool.or_false, Bool.false_or, plain_eq h1, vO, fInL true (h2.shaped (by omega)) hs]
      cases longB b with
      | false => rfl
      | true =>
        simp only [runP, startR, sRet, sRetL, sSeq, sIf, sNil, sSet, oAnd, oOr, oNot, oIf, o1, o2, vD, cD, tB, tV, tNot, tAnd, tOr, aNil, aCons, oC, lD, iD, List.length_cons, List.length_nil, List.map_cons, List.map_nil, List.replicate, List.append_nil, List.cons_append, List.nil_append, List.getElem?_cons_zero, List.getElem?_cons_succ, List.set_cons_zero, List.set_cons_succ, List.set_nil, Option.bind_some, Option.bind_none, Option.map_some, Option.map_none, Nat.zero_add, Nat.reduceAdd, Nat.reduceSub, if_true, if_false, Bool.false_eq_true, reduceCtorEq, Bool.not_true, Bool.not_false, isi_tuple, isi_list, isi_str, isi_int, isi_bool, tyName, beq_self_eq_true, tr_b, tr_t, tr_l, fAdd_i, fSub_i, fLt_i, fLe_i, fGt_i, fGe_i, fNeg_i, fAbs_i, fLen_l, fLen_t, fIsN_n, fNotN_n, fInt_b, fIx_t, fIx_l, items_t, items_l, lLc, wipeR, Bool.not_not, Bool.and_true, Bool.true_and, Bool.and_false, Bool.false_and, Bool.or_true, Bool.true_or, Bool.or_false, Bool.false_or]
        cases isIn b found with
        | true => rfl
        | false =>
          simp only [runP, startR, sRet, sRetL, sSeq, sIf, sNil, sSet, oAnd, oOr, oNot, oIf, o1, o2, vD, cD, tB, tV, tNot, tAnd, tOr, aNil, aCons, oC, lD, iD, List.length_cons, List.length_nil, List.map_cons, List.map_nil, List.replicate, List.append_nil, List.cons_append, List.nil_append, List.getElem?_cons_zero, List.getElem?_cons_succ, List.set_cons_zero, List.set_cons_succ, List.set_nil, Option.bind_some, Option.bind_none, Option.map_some, Option.map_none, Nat.zero_add, Nat.reduceAdd, Nat.reduceSub, if_true, if_false, Bool.false_eq_true, reduceCtorEq, Bool.not_true, Bool.not_false, isi_tuple, isi_list, isi_str, isi_int, isi_bool, tyName, beq_self_eq_true, tr_b, tr_t, tr_l, fAdd_i, fSub_i, fLt_i, fLe_i, fGt_i, fGe_i, fNeg_i, fAbs_i, fLen_l, fLen_t, fIsN_n, fNotN_n, fInt_b, fIx_t, fIx_l, items_t, items_l, lLc, wipeR, Bool.not_not, Bool.and_true, Bool.true_and, Bool.and_false, Bool.false_and, Bool.or_true, Bool.true_or, Bool.or_false, Bool.false_or, sApp, vO, if_pos (small_lt (show found.length < 1000 by omega))]
    have ih := fo_for hn v fs (if longB b && !isIn b found then found ++ [b] else found) (some (.dat c)) (some (.dat b)) (fun x hx => hf x (List.mem_cons_of_mem _ hx)) (fun x hx => by
        split at hx
        · rcases List.mem_append.mp hx with hx | hx
          · exact hb x hx
          · rw [List.mem_singleton.mp hx]; exact h2
        · exact hb x hx) (by split <;> (try rw [List.length_append, List.length_singleton]) <;> omega)
    obtain ⟨y2, y3, e⟩ := ih
    refine ⟨y2, y3, ?_⟩
    show Option.bind (foBody [v, some (.own found), some (.dat c), some (.dat b)]) _ = _
    rw [eb]
    refine e.trans ?_
    rw [List.map_cons]
    have e2 : second (.tuple [a, b, c]) = b := rfl
    rw [e2]
    have e3 : formsS (if longB b && !isIn b found then found ++ [b] else found) (fs.map second) = formsS found (b :: fs.map second) := by
      show _ = (if longB b && !isIn b found then formsS (found ++ [b]) (fs.map second) else formsS found (fs.map second))
      split <;> rfl
    rw [e3]
theorem flat_atoms {n : Nat} : ∀ {k : Nat} {f : PyData}, Fine n f → OkF k f → ∀ x ∈ flat k f, AtomF n x
  | 0, f, hf, h => h.elim
  | k + 1, f, hf, ⟨ps, e, h⟩ => fun x hx => by
    have e4 : partsD f = ps := by
      unfold partsD
      rw [e]
      rfl
    have hx' : x ∈ (if isAtom f then [f] else (partsD f).flatMap (flat k)) := hx
    split at hx'
    · rename_i ha
      rw [List.mem_singleton.mp hx']
      obtain ⟨_, b, c, e5, e6⟩ := atom_is e ha
      subst e5
      obtain ⟨_, m, rfl, hall⟩ := fine_tl hf
      exact ⟨_, b, c, rfl, e6, (hall b (by simp)).mono (by omega)⟩
    · rw [e4] at hx'
      obtain ⟨p, hp, hxp⟩ := List.mem_flatMap.mp hx'
      exact flat_atoms ((parts_fine hf e).1 p hp) (h p hp) x hxp
/-- the forms of a formula -/
def formsOf (f : PyData) : List PyData := formsS [] ((flat 20 f).map second)
theorem forms_eq {n : Nat} (f : PyData) (hf : Fine n f) (hn : n ≤ 63) (ho : OkF 20 f) (hz : nodes 20 f ≤ 60) : F_forms_of [f] = some (formsOf f) := by
  have ha := atoms_eq (k := 19) f hf (by omega) ho hz
  have hl := flat_len ho
  obtain ⟨y2, y3, e⟩ := fo_for hn (some (.dat f)) (flat 20 f) [] none none (flat_atoms hf ho) (fun b hb => (by simp at hb)) (by rw [List.length_nil]; omega)
  have e' : sFor (iD (oC F_atoms_of (aCons (vD 0) aNil))) (gT [2, 3, 2]) foBody [some (.dat f), some (.own []), none, none] = some (.nx [some (.dat f), some (.own (formsOf f)), y2, y3]) := by
    simp only [sFor, iD, oC, aCons, vD, aNil, List.getElem?_cons_zero, Option.bind_some, Option.map_some, ha, items_l]
    exact e
  simp only [F_forms_of, runL, fo_split, sSeq, startR, List.length_cons, List.length_nil, List.map_cons, List.map_nil, if_true, List.replicate, List.append_nil, List.cons_append, List.nil_append, Nat.zero_add, Nat.reduceAdd, Nat.reduceSub, sOwn, lst_nil, Option.map_some, Option.bind_some, List.set_cons_succ, List.set_cons_zero, e', sRetL, vO, List.getElem?_cons_succ, List.getElem?_cons_zero]
/-! ### the law -/
def ltBody (F : List PyData → Option PyData) : DSt := (sSet 1 (lD (lCat (asL (vD 1)) (asL (oC F (aCons (vD 2) aNil))))))
theorem lt_split (F : List PyData → Option PyData) : d__law_listed F = (sSeq (sIf (DL.tB (o2 fEq (o2 fIx (vD 0) (cD (.int 0))) (cD (.str "is"))))
    (sRetL (lLst (aCons (o2 fIx (vD 0) (cD (.int 1))) aNil)))
    sNil)
  (sSeq (sSet 1 (lD (lLst aNil)))
  (sSeq (sFor (iD (oC F__law_within (aCons (vD 0) aNil))) (gN 2) (ltBody F))
  (sRet (vD 1))))) := rfl
theorem lt_for {k : Nat} {F : List PyData → Option PyData} (v : Option Sl) : ∀ (fs found : List PyData) (x2 : Option Sl), (∀ f ∈ fs, F [f] = some (.list ((flat k f).map second)) ∧ OkF k f) → found.length + (fs.map (nodes k)).sum ≤ 1000 →
    ∃ y2, forGo (gN 2) (ltBody F) fs [v, some (.dat (.list found)), x2] = some (.nx [v, some (.dat (.list (found ++ (fs.flatMap (flat k)).map second))), y2])
  | [], found, x2, _, _ => ⟨x2, by rw [List.flatMap_nil, List.map_nil, List.append_nil]; rfl⟩
  | f :: fs, found, x2, hf, hz => by
    obtain ⟨h1, h2⟩ := hf f (List.mem_cons_self ..)
    have hl := flat_len h2
    rw [List.map_cons, List.sum_cons] at hz
    have hlen : found.length + ((flat k f).map second).length ≤ sizeLine := size_ok (by rw [List.length_map]; omega)
    have eb : ltBody F [v, some (.dat (.list found)), some (.dat f)] = some (.nx [v, some (.dat (.list (found ++ (flat k f).map second))), some (.dat f)]) := by
      simp only [ltBody, runP, startR, sRet, sRetL, sSeq, sIf, sNil, sSet, oAnd, oOr, oNot, oIf, o1, o2, vD, cD, tB, tV, tNot, tAnd, tOr, aNil, aCons, oC, lD, iD, List.length_cons, List.length_nil, List.map_cons, List.map_nil, List.replicate, List.append_nil, List.cons_append, List.nil_append, List.getElem?_cons_zero, List.getElem?_cons_succ, List.set_cons_zero, List.set_cons_succ, List.set_nil, Option.bind_some, Option.bind_none, Option.map_some, Option.map_none, Nat.zero_add, Nat.reduceAdd, Nat.reduceSub, if_true, if_false, Bool.false_eq_true, reduceCtorEq, Bool.not_true, Bool.not_false, isi_tuple, isi_list, isi_str, isi_int, isi_bool, tyName, beq_self_eq_true, tr_b, tr_t, tr_l, fAdd_i, fSub_i, fLt_i, fLe_i, fGt_i, fGe_i, fNeg_i, fAbs_i, fLen_l, fLen_t, fIsN_n, fNotN_n, fInt_b, fIx_t, fIx_l, items_t, items_l, lLc, wipeR, Bool.not_not, Bool.and_true, Bool.true_and, Bool.and_false, Bool.false_and, Bool.or_true, Bool.true_or, Bool.or_false, Bool.false_or, lCat, asL, h1, hlen]
    obtain ⟨y2, e⟩ := lt_for v fs (found ++ (flat k f).map second) (some (.dat f)) (fun x hx => hf x (List.mem_cons_of_mem _ hx)) (by rw [List.length_append, List.length_map]; omega)
    refine ⟨y2, ?_⟩
    show Option.bind (ltBody F [v, some (.dat (.list found)), some (.dat f)]) _ = _
    rw [eb]
    refine e.trans ?_
    rw [List.flatMap_cons, List.map_append, List.append_assoc]
theorem listed_eq {n : Nat} (hn : n ≤ 64) : ∀ (k m : Nat) (f : PyData), Fine n f → OkF k f → nodes k f ≤ 60 → k ≤ m → F__law_listed m [f] = some (.list ((flat k f).map second))
  | 0, m, f, hf, ho, hz, hm => ho.elim
  | k + 1, m, f, hf, ho, hz, hm => by
    match m, hm with
    | m + 1, hm =>
      have ho0 := ho
      obtain ⟨ps, e, h⟩ := ho
      have e4 : partsD f = ps := by
        unfold partsD
        rw [e]
        rfl
      obtain ⟨a, r, ef, ea, es⟩ := parts_head e
      have sa : SeqAt.shaped a = true := by
        obtain ⟨x, rfl⟩ := str_is es
        subst ef
        obtain ⟨_, m', rfl, hall⟩ := fine_tl hf
        exact (hall _ (List.mem_cons_self ..)).shaped (by omega)
      have hix : fIx f (.int 0) = some a := by rw [ef, fIx_t, atI_0]
      cases hat : isAtom f with
      | true =>
        obtain ⟨e5, b, c, e6, _⟩ := atom_is e hat
        rw [flat_atom hat]
        have hs : second f = b := by rw [e6] <;> rfl
        have hix1 : fIx f (.int 1) = some b := by rw [e6, fIx_t, atI_1]
        have hz1 : 1 ≤ sizeLine := size_ok (by decide)
        simp only [F__law_listed, lt_split, runP, startR, sRet, sRetL, sSeq, sIf, sNil, sSet, oAnd, oOr, oNot, oIf, o1, o2, vD, cD, tB, tV, tNot, tAnd, tOr, aNil, aCons, oC, lD, iD, List.length_cons, List.length_nil, List.map_cons, List.map_nil, List.replicate, List.append_nil, List.cons_append, List.nil_append, List.getElem?_cons_zero, List.getElem?_cons_succ, List.set_cons_zero, List.set_cons_succ, List.set_nil, Option.bind_some, Option.bind_none, Option.map_some, Option.map_none, Nat.zero_add, Nat.reduceAdd, Nat.reduceSub, if_true, if_false, Bool.false_eq_true, reduceCtorEq, Bool.not_true, Bool.not_false, isi_tuple, isi_list, isi_str, isi_int, isi_bool, tyName, beq_self_eq_true, tr_b, tr_t, tr_l, fAdd_i, fSub_i, fLt_i, fLe_i, fGt_i, fGe_i, fNeg_i, fAbs_i, fLen_l, fLen_t, fIsN_n, fNotN_n, fInt_b, fIx_t, fIx_l, items_t, items_l, lLc, wipeR, Bool.not_not, Bool.and_true, Bool.true_and, Bool.and_false, Bool.false_and, Bool.or_true, Bool.true_or, Bool.or_false, Bool.false_or, hix, sb "is" (by decide +kernel) sa, ← ea, hat, lLst, hix1, hz1, hs]
      | false =>
        have hw : F__law_within [f] = some (.list ps) := by rw [lwithin_eq f hf hn, e] <;> rfl
        have hnod : nodes (k + 1) f = 1 + (ps.map (nodes k)).sum := by
          show 1 + ((partsD f).map (nodes k)).sum = _
          rw [e4]
        have hmem : ∀ p ∈ ps, nodes k p ≤ (ps.map (nodes k)).sum := fun p hp => mem_sum (List.mem_map_of_mem hp)
        obtain ⟨y2, e7⟩ := lt_for (k := k) (F := F__law_listed m) (some (.dat f)) ps [] none (fun p hp => ⟨listed_eq hn k m p ((parts_fine hf e).1 p hp) (h p hp) (by have := hmem p hp; omega) (by omega), h p hp⟩) (by rw [List.length_nil]; omega)
        have hfl : flat (k + 1) f = ps.flatMap (flat k) := by
          show (if isAtom f then [f] else (partsD f).flatMap (flat k)) = _
          rw [hat, if_neg Bool.false_ne_true, e4]
        rw [hfl]
        simp only [F__law_listed, lt_split, runP, startR, sRet, sRetL, sSeq, sIf, sNil, sSet, oAnd, oOr, oNot, oIf, o1, o2, vD, cD, tB, tV, tNot, tAnd, tOr, aNil, aCons, oC, lD, iD, List.length_cons, List.length_nil, List.map_cons, List.map_nil, List.replicate, List.append_nil, List.cons_append, List.nil_append, List.getElem?_cons_zero, List.getElem?_cons_succ, List.set_cons_zero, List.set_cons_succ, List.set_nil, Option.bind_some, Option.bind_none, Option.map_some, Option.map_none, Nat.zero_add, Nat.reduceAdd, Nat.reduceSub, if_true, if_false, Bool.false_eq_true, reduceCtorEq, Bool.not_true, Bool.not_false, isi_tuple, isi_list, isi_str, isi_int, isi_bool, tyName, beq_self_eq_true, tr_b, tr_t, tr_l, fAdd_i, fSub_i, fLt_i, fLe_i, fGt_i, fGe_i, fNeg_i, fAbs_i, fLen_l, fLen_t, fIsN_n, fNotN_n, fInt_b, fIx_t, fIx_l, items_t, items_l, lLc, wipeR, Bool.not_not, Bool.and_true, Bool.true_and, Bool.and_false, Bool.false_and, Bool.or_true, Bool.true_or, Bool.or_false, Bool.false_or, hix, sb "is" (by decide +kernel) sa, ← ea, hat, lst_nil, sFor, hw, e7]
end K77

set_option Elab.async false
set_option linter.all false
set_option maxRecDepth 100000
set_option maxHeartbeats 4000000
/-! M10: forms by the law's reading; quantifiers. -/
namespace K77
open PySem DL
open L2 (atI ixN)
def lfCond : Rho → Option Bool := (DL.tOr (DL.tB (o2 fGt (oC fLen (aCons (vD 2) aNil)) (cD (.int 1)))) (DL.tAnd (DL.tB (o2 fNe (vD 2) (oTup aNil))) (DL.tB (o2 fGt (oC fLen (aCons (o2 fIx (vD 2) (cD (.int 0))) aNil)) (cD (.int 1))))))
def lfBody : DSt := (sIf (DL.tAnd (DL.tB (o2 (fIn true) (vD 2) (lD (vO 1)))) lfCond) (sApp 1 (vD 2)) sNil)
theorem lf_split : d__law_forms = (sSeq (sOwn 1 (lLst aNil)) (sSeq (sFor (iD (oC (F__law_listed 40) (aCons (vD 0) aNil))) (gN 2) lfBody) (sRetL (vO 1)))) := rfl
theorem lf_cond {n : Nat} {b : PyData} (h : isForm b = true) (hf : Fine n b) (hn : n ≤ 64) (v x : Option Sl) : lfCond [v, x, some (.dat b)] = some (longB b) := by
  obtain ⟨rs, rfl, h3, hr, hl⟩ := form_tup h
  have hs : SeqAt.shaped (.tuple rs) = true := hf.shaped hn
  match rs, h3, hr, hl, hs with
  | [], _, _, _, _ => rfl
  | [r], _, hr, hl, hs =>
    obtain ⟨cs, rfl, hc⟩ := row_tup (hr r (by simp))
    have e : decide ((1 : Int) < (cs.length : Int)) = decide (1 < cs.length) := by
      rw [Bool.eq_iff_iff, decide_eq_true_eq, decide_eq_true_eq]
      omega
    simp only [lfCond, runP, startR, sRet, sRetL, sSeq, sIf, sNil, sSet, oAnd, oOr, oNot, oIf, o1, o2, vD, cD, tB, tV, tNot, tAnd, tOr, aNil, aCons, oC, lD, iD, List.length_cons, List.length_nil, List.map_cons, List.map_nil, List.replicate, List.append_nil, List.cons_append, List.nil_append, List.getElem?_cons_zero, List.getElem?_cons_succ, List.set_cons_zero, List.set_cons_succ, List.set_nil, Option.bind_some, Option.bind_none, Option.map_some, Option.map_none, Nat.zero_add, Nat.reduceAdd, Nat.reduceSub, if_true, if_false, Bool.false_eq_true, reduceCtorEq, Bool.not_true, Bool.not_false, isi_tuple, isi_list, isi_str, isi_int, isi_bool, tyName, beq_self_eq_true, tr_b, tr_t, tr_l, fAdd_i, fSub_i, fLt_i, fLe_i, fGt_i, fGe_i, fNeg_i, fAbs_i, fLen_l, fLen_t, fIsN_n, fNotN_n, fInt_b, fIx_t, fIx_l, items_t, items_l, lLc, wipeR, Bool.not_not, Bool.and_true, Bool.true_and, Bool.and_false, Bool.false_and, Bool.or_true, Bool.true_or, Bool.or_false, Bool.false_or, show decide ((1 : Int) < ((1 : Nat) : Int)) = false by decide, tup_nil, fNe_of hs shaped_tnil, eqv_tn, List.isEmpty_cons, atI_0, e, longB, row0]
  | r :: r2 :: rs, _, _, _, _ =>
    simp only [lfCond, runP, startR, sRet, sRetL, sSeq, sIf, sNil, sSet, oAnd, oOr, oNot, oIf, o1, o2, vD, cD, tB, tV, tNot, tAnd, tOr, aNil, aCons, oC, lD, iD, List.length_cons, List.length_nil, List.map_cons, List.map_nil, List.replicate, List.append_nil, List.cons_append, List.nil_append, List.getElem?_cons_zero, List.getElem?_cons_succ, List.set_cons_zero, List.set_cons_succ, List.set_nil, Option.bind_some, Option.bind_none, Option.map_some, Option.map_none, Nat.zero_add, Nat.reduceAdd, Nat.reduceSub, if_true, if_false, Bool.false_eq_true, reduceCtorEq, Bool.not_true, Bool.not_false, isi_tuple, isi_list, isi_str, isi_int, isi_bool, tyName, beq_self_eq_true, tr_b, tr_t, tr_l, fAdd_i, fSub_i, fLt_i, fLe_i, fGt_i, fGe_i, fNeg_i, fAbs_i, fLen_l, fLen_t, fIsN_n, fNotN_n, fInt_b, fIx_t, fIx_l, items_t, items_l, lLc, wipeR, Bool.not_not, Bool.and_true, Bool.true_and, Bool.and_false, Bool.false_and, Bool.or_true, Bool.true_or, Bool.or_false, Bool.false_or, decide_eq_true (show (1 : Int) < ((rs.length + 1 + 1 : Nat) : Int) by omega), longB]
theorem lf_for {n : Nat} (hn : n ≤ 63) (v : Option Sl) : ∀ (bs found : List PyData) (x2 : Option Sl), (∀ b ∈ bs, isForm b = true ∧ Fine n b) → (∀ b ∈ found, Fine n b) → found.length + bs.length ≤ 100 →
    ∃ y2, forGo (gN 2) lfBody bs [v, some (.own found), x2] = some (.nx [v, some (.own (formsS found bs)), y2])
  | [], found, x2, _, _, _ => ⟨x2, rfl⟩
  | b :: bs, found, x2, hf, hb, hz => by
    obtain ⟨h1, h2⟩ := hf b (List.mem_cons_self ..)
    have hz' : found.length + (bs.length + 1) ≤ 100 := hz
    have hs : SeqAt.shaped (.list found) = true := shapedL hb (by omega)
    have eb : lfBody [v, some (.own found), some (.dat b)] = some (.nx [v, some (.own (if longB b && !isIn b found then found ++ [b] else found)), some (.dat b)]) := by
      simp only [lfBody, runP, startR, sRet, sRetL, sSeq, sIf, sNil, sSet, oAnd, oOr, oNot, oIf, o1, o2, vD, cD, tB, tV, tNot, tAnd, tOr, aNil, aCons, oC, lD, iD, List.length_cons, List.length_nil, List.map_cons, List.map_nil, List.replicate, List.append_nil, List.cons_append, List.nil_append, List.getElem?_cons_zero, List.getElem?_cons_succ, List.set_cons_zero, List.set_cons_succ, List.set_nil, Option.bind_some, Option.bind_none, Option.map_some, Option.map_none, Nat.zero_add, Nat.reduceAdd, Nat.reduceSub, if_true, if_false, Bool.false_eq_true, reduceCtorEq, Bool.not_true, Bool.not_false, isi_tuple, isi_list, isi_str, isi_int, isi_bool, tyName, beq_self_eq_true, tr_b, tr_t, tr_l, fAdd_i, fSub_i, fLt_i, fLe_i, fGt_i, fGe_i, fNeg_i, fAbs_i, fLen_l, fLen_t, fIsN_n, fNotN_n, fInt_b, fIx_t, fIx_l, items_t, items_l, lLc, wipeR, Bool.not_not, Bool.and_true, Bool.true_and, Bool.and_false, Bool.false_and, Bool.or_true, Bool.true_or, Bool.or_false, Bool.false_or, vO, fInL true (h2.shaped (by omega)) hs]
      cases isIn b found with
      | true => simp only [runP, startR, sRet, sRetL, sSeq, sIf, sNil, sSet, oAnd, oOr, oNot, oIf, o1, o2, vD, cD, tB, tV, tNot, tAnd, tOr, aNil, aCons, oC, lD, iD, List.length_cons, List.length_nil, List.map_cons, List.map_nil, List.replicate, List.append_nil, List.cons_append, List.nil_append, List.getElem?_cons_zero, List.getElem?_cons_succ, List.set_cons_zero, List.set_cons_succ, List.set_nil, Option.bind_some, Option.bind_none, Option.map_some, Option.map_none, Nat.zero_add, Nat.reduceAdd, Nat.reduceSub, if_true, if_false, Bool.false_eq_true, reduceCtorEq, Bool.not_true, Bool.not_false, isi_tuple, isi_list, isi_str, isi_int, isi_bool, tyName, beq_self_eq_true, tr_b, tr_t, tr_l, fAdd_i, fSub_i, fLt_i, fLe_i, fGt_i, fGe_i, fNeg_i, fAbs_i, fLen_l, fLen_t, fIsN_n, fNotN_n, fInt_b, fIx_t, fIx_l, items_t, items_l, lLc, wipeR, Bool.not_not, Bool.and_true, Bool.true_and, Bool.and_false, Bool.false_and, Bool.or_true, Bool.true_or, Bool.or_false, Bool.false_or, Bool.and_false]
      | false =>
        simp only [runP, startR, sRet, sRetL, sSeq, sIf, sNil, sSet, oAnd, oOr, oNot, oIf, o1, o2, vD, cD, tB, tV, tNot, tAnd, tOr, aNil, aCons, oC, lD, iD, List.length_cons, List.length_nil, List.map_cons, List.map_nil, List.replicate, List.append_nil, List.cons_append, List.nil_append, List.getElem?_cons_zero, List.getElem?_cons_succ, List.set_cons_zero, List.set_cons_succ, List.set_nil, Option.bind_some, Option.bind_none, Option.map_some, Option.map_none, Nat.zero_add, Nat.reduceAdd, Nat.reduceSub, if_true, if_false, Bool.false_eq_true, reduceCtorEq, Bool.not_true, Bool.not_false, isi_tuple, isi_list, isi_str, isi_int, isi_bool, tyName, beq_self_eq_true, tr_b, tr_t, tr_l, fAdd_i, fSub_i, fLt_i, fLe_i, fGt_i, fGe_i, fNeg_i, fAbs_i, fLen_l, fLen_t, fIsN_n, fNotN_n, fInt_b, fIx_t, fIx_l, items_t, items_l, lLc, wipeR, Bool.not_not, Bool.and_true, Bool.true_and, Bool.and_false, Bool.false_and, Bool.or_true, Bool.true_or, Bool.or_false, Bool.false_or, lf_cond h1 h2 (show n ≤ 64 by omega)]
        cases longB b with
        | false => rfl
        | true => simp only [runP, startR, sRet, sRetL, sSeq, sIf, sNil, sSet, oAnd, oOr, oNot, oIf, o1, o2, vD, cD, tB, tV, tNot, tAnd, tOr, aNil, aCons, oC, lD, iD, List.length_cons, List.length_nil, List.map_cons, List.map_nil, List.replicate, List.append_nil, List.cons_append, List.nil_append, List.getElem?_cons_zero, List.getElem?_cons_succ, List.set_cons_zero, List.set_cons_succ, List.set_nil, Option.bind_some, Option.bind_none, Option.map_some, Option.map_none, Nat.zero_add, Nat.reduceAdd, Nat.reduceSub, if_true, if_false, Bool.false_eq_true, reduceCtorEq, Bool.not_true, Bool.not_false, isi_tuple, isi_list, isi_str, isi_int, isi_bool, tyName, beq_self_eq_true, tr_b, tr_t, tr_l, fAdd_i, fSub_i, fLt_i, fLe_i, fGt_i, fGe_i, fNeg_i, fAbs_i, fLen_l, fLen_t, fIsN_n, fNotN_n, fInt_b, fIx_t, fIx_l, items_t, items_l, lLc, wipeR, Bool.not_not, Bool.and_true, Bool.true_and, Bool.and_false, Bool.false_and, Bool.or_true, Bool.true_or, Bool.or_false, Bool.false_or, sApp, vO, if_pos (small_lt (show found.length < 1000 by omega))]
    obtain ⟨y2, e⟩ := lf_for hn v bs (if longB b && !isIn b found then found ++ [b] else found) (some (.dat b)) (fun x hx => hf x (List.mem_cons_of_mem _ hx)) (fun x hx => by
        split at hx
        · rcases List.mem_append.mp hx with hx | hx
          · exact hb x hx
          · rw [List.mem_singleton.mp hx]; exact h2
        · exact hb x hx) (by split <;> (try rw [List.length_append, List.length_singleton]) <;> omega)
    refine ⟨y2, ?_⟩
    show Option.bind (lfBody [v, some (.own found), some (.dat b)]) _ = _
    rw [eb]
    refine e.trans ?_
    have e3 : formsS (if longB b && !isIn b found then found ++ [b] else found) bs = formsS found (b :: bs) := by
      show _ = (if longB b && !isIn b found then formsS (found ++ [b]) bs else formsS found bs)
      split <;> rfl
    rw [e3]
theorem seconds {n k : Nat} {f : PyData} (hf : Fine n f) (ho : OkF k f) : ∀ b ∈ (flat k f).map second, isForm b = true ∧ Fine n b := fun b hb => by
  obtain ⟨x, hx, e⟩ := List.mem_map.mp hb
  obtain ⟨a, b', c, e2, h1, h2⟩ := flat_atoms hf ho x hx
  subst e2
  subst e
  exact ⟨h1, h2⟩
theorem lforms_eq {n : Nat} (f : PyData) (hf : Fine n f) (hn : n ≤ 63) (ho : OkF 20 f) (hz : nodes 20 f ≤ 60) : F__law_forms [f] = some (.list (formsOf f)) := by
  have ha := listed_eq (n := n) (by omega) 20 40 f hf ho hz (by omega)
  have hl := flat_len ho
  obtain ⟨y2, e⟩ := lf_for hn (some (.dat f)) ((flat 20 f).map second) [] none (seconds hf ho) (fun b hb => (by simp at hb)) (by rw [List.length_nil, List.length_map]; omega)
  have e' : sFor (iD (oC (F__law_listed 40) (aCons (vD 0) aNil))) (gN 2) lfBody [some (.dat f), some (.own []), none] = some (.nx [some (.dat f), some (.own (formsOf f)), y2]) := by
    simp only [sFor, iD, oC, aCons, vD, aNil, List.getElem?_cons_zero, Option.bind_some, Option.map_some, ha, items_l]
    exact e
  simp only [F__law_forms, runP, lf_split, sSeq, startR, List.length_cons, List.length_nil, List.map_cons, List.map_nil, if_true, List.replicate, List.append_nil, List.cons_append, List.nil_append, Nat.zero_add, Nat.reduceAdd, Nat.reduceSub, sOwn, lst_nil, Option.map_some, Option.bind_some, List.set_cons_succ, List.set_cons_zero, e', sRetL, vO, List.getElem?_cons_succ, List.getElem?_cons_zero]
theorem formsOf_ok {n : Nat} {f : PyData} (hf : Fine n f) (ho : OkF 20 f) : ∀ b ∈ formsOf f, isForm b = true ∧ Fine n b := fun b hb => by
  rcases formsS_mem _ _ b hb with h | h
  · simp at h
  · exact seconds hf ho b h
theorem formsOf_len {f : PyData} (ho : OkF 20 f) (hz : nodes 20 f ≤ 60) : (formsOf f).length ≤ 60 := by
  have h := formsS_len ((flat 20 f).map second) []
  have h2 := flat_len ho
  rw [List.length_map, List.length_nil] at h
  unfold formsOf
  omega

/-! ### quantifiers -/
def Exact (z : PyData) : Prop := ∀ x, PyData.eqv z x = true → x = z
theorem ex_str (s : Str) : Exact (.str s) := fun x h => (eqv_str' x s).mp h
theorem ex_all : ∀ {zs : List PyData}, (∀ z ∈ zs, Exact z) → ∀ xs, PyData.eqvAll zs xs = true → xs = zs
  | [], _, xs, h => by
    cases xs with
    | nil => rfl
    | cons a b => simp [PyData.eqvAll] at h
  | z :: zs, hz, xs, h => by
    cases xs with
    | nil => simp [PyData.eqvAll] at h
    | cons a b =>
      rw [PyData.eqvAll, Bool.and_eq_true] at h
      rw [hz z (List.mem_cons_self ..) a h.1, ex_all (fun y hy => hz y (List.mem_cons_of_mem _ hy)) b h.2]
theorem ex_tup {zs : List PyData} (hz : ∀ z ∈ zs, Exact z) : Exact (.tuple zs) := fun x h => by
  cases x with
  | tuple xs => rw [PyData.eqv] at h; rw [ex_all hz xs h]
  | _ => simp [PyData.eqv] at h
theorem ex_list {zs : List PyData} (hz : ∀ z ∈ zs, Exact z) : Exact (.list zs) := fun x h => by
  cases x with
  | list xs => rw [PyData.eqv] at h; rw [ex_all hz xs h]
  | _ => simp [PyData.eqv] at h
def qt (a b : Str) : PyData := .tuple [.str a, .str b]
theorem ex_qt (a b : Str) : Exact (qt a b) := ex_tup fun z hz => by
  rcases List.mem_cons.mp hz with rfl | hz
  · exact ex_str _
  · rw [List.mem_singleton.mp hz]; exact ex_str _
def whole1 (a : Str) : List PyData := [.list [qt a "x"], .list [qt a "y"], .list [qt a "x", qt "some" "y"], .list [qt a "x", qt "all" "y"]]
def wholeL : List PyData := whole1 "some" ++ whole1 "all"
theorem ex_whole : ∀ z ∈ wholeL, Exact z := fun z hz => by
  have h : ∃ a b c d, z = .list [qt a b] ∨ z = .list [qt a b, qt c d] := by
    simp only [wholeL, whole1, List.cons_append, List.nil_append, List.mem_cons, List.not_mem_nil, or_false] at hz
    rcases hz with rfl | rfl | rfl | rfl | rfl | rfl | rfl | rfl
    · exact ⟨_, _, "", "", .inl rfl⟩
    · exact ⟨_, _, "", "", .inl rfl⟩
    · exact ⟨_, _, _, _, .inr rfl⟩
    · exact ⟨_, _, _, _, .inr rfl⟩
    · exact ⟨_, _, "", "", .inl rfl⟩
    · exact ⟨_, _, "", "", .inl rfl⟩
    · exact ⟨_, _, _, _, .inr rfl⟩
    · exact ⟨_, _, _, _, .inr rfl⟩
  obtain ⟨a, b, c, d, rfl | rfl⟩ := h
  · exact ex_list fun y hy => by rw [List.mem_singleton.mp hy]; exact ex_qt a b
  · exact ex_list fun y hy => by
      rcases List.mem_cons.mp hy with rfl | hy
      · exact ex_qt a b
      · rw [List.mem_singleton.mp hy]; exact ex_qt c d
theorem in_exact {zs : List PyData} (hz : ∀ z ∈ zs, Exact z) (hc : ∀ z ∈ zs, PyData.eqv z z = true) (x : PyData) : isIn x zs = true ↔ x ∈ zs := by
  unfold isIn
  rw [List.any_eq_true]
  constructor
  · rintro ⟨z, h1, h2⟩
    rw [hz z h1 x h2]
    exact h1
  · intro h
    exact ⟨x, h, hc x h⟩
theorem whole_self : ∀ z ∈ wholeL, PyData.eqv z z = true := by decide +kernel
theorem in_whole (q : PyData) : isIn q wholeL = true ↔ q ∈ wholeL := in_exact ex_whole whole_self q
def sa : List PyData := [.str "some", .str "all"]
def xy : List PyData := [.str "x", .str "y"]
def isQ : PyData → Bool
  | .tuple [a, b] => (isStr a && isStr b) && ((isS "some" a || isS "all" a) && (isS "x" b || isS "y" b))
  | _ => false
theorem in_sa (d : PyData) : isIn d sa = (isS "some" d || isS "all" d) := by
  unfold isIn sa
  simp only [List.any_cons, List.any_nil, eqv_s', Bool.or_false]
theorem in_xy (d : PyData) : isIn d xy = (isS "x" d || isS "y" d) := by
  unfold isIn xy
  simp only [List.any_cons, List.any_nil, eqv_s', Bool.or_false]
theorem sh_sa : SeqAt.shaped (.tuple sa) = true := by decide +kernel
theorem sh_xy : SeqAt.shaped (.tuple xy) = true := by decide +kernel
def saT : DE := oTup (aCons (cD (.str "some")) (aCons (cD (.str "all")) aNil))
def xyT : DE := oTup (aCons (cD (.str "x")) (aCons (cD (.str "y")) aNil))
theorem saT_eq (ρ : Rho) : saT ρ = some (.tuple sa) := rfl
theorem xyT_eq (ρ : Rho) : xyT ρ = some (.tuple xy) := rfl
theorem iq_split : d_is_quantifier = (sSeq (sIf (DL.tOr (DL.tNot (tV (o1 (fIsi "tuple") (vD 0)))) (DL.tOr (DL.tB (o2 fNe (oC fLen (aCons (vD 0) aNil)) (cD (.int 2)))) (DL.tNot (tV (oC fAll (aCons (lD (lLc (iD (vD 0)) (gN 1) tYesD (o1 (fIsi "str") (vD 1)) [1])) aNil))))))
    (sRet (cD (.bool false))) sNil)
  (sRet (oAnd (o2 (fIn false) (o2 fIx (vD 0) (cD (.int 0))) saT) (o2 (fIn false) (o2 fIx (vD 0) (cD (.int 1))) xyT)))) := rfl
theorem quant_eq {n : Nat} (d : PyData) (hf : Fine n d) (hn : n ≤ 64) : F_is_quantifier [d] = some (.bool (isQ d)) := by
  cases d with
  | tuple cs =>
    obtain ⟨_, m, rfl, ha⟩ := fine_tl hf
    match cs, ha with
    | [], _ => rfl
    | [a], _ => rfl
    | [a, b], ha =>
      have hgo : lcGo (gN 1) tYesD (o1 (fIsi "str") (vD 1)) [some (.dat (.tuple [a, b])), none] [a, b] = some ([a, b].map fun d => .bool (isStr d)) := lcGo_map fun d hd => by
        simp only [o1, vD, List.set_cons_succ, List.set_cons_zero, List.getElem?_cons_succ, List.getElem?_cons_zero, Option.bind_some, isi_str']
      have hz : ([a, b] : List PyData).length ≤ sizeLine := size_ok (by simp)
      have hal := fAll_map (f := isStr) [a, b]
      have hz2 : (0 + 1 + 1 : Nat) ≤ sizeLine := hz
      have s1 := (ha a (by simp)).shaped (by omega)
      have s2 := (ha b (by simp)).shaped (by omega)
      have h1 : (oC fAll (aCons (lD (lLc (iD (vD 0)) (gN 1) tYesD (o1 (fIsi "str") (vD 1)) [1])) aNil)) [some (.dat (.tuple [a, b])), none] = some (.bool (isStr a && isStr b)) := by
        simp only [oC, aCons, lD, lLc, iD, vD, List.getElem?_cons_zero, Option.bind_some, items_t, hz, if_true, wipeR, List.set_cons_succ, List.set_cons_zero, hgo, Option.map_some, aNil, hal, List.all_cons, List.all_nil, Bool.and_true]
      have h2 : (oC fLen (aCons (vD 0) aNil)) [some (.dat (.tuple [a, b])), none] = some (.int 2) := rfl
      simp only [F_is_quantifier, iq_split, sSeq, sIf, runP, startR, List.length_cons, List.length_nil, List.map_cons, List.map_nil, if_true, List.replicate, List.append_nil, List.cons_append, List.nil_append, Nat.zero_add, Nat.reduceAdd, Nat.reduceSub, DL.tOr, DL.tNot, DL.tB, tV, o1, o2, vD, cD, List.getElem?_cons_zero, Option.bind_some, Option.map_some, isi_tuple, tyName, beq_self_eq_true, tr_b, Bool.not_true, Bool.false_eq_true, if_false, h1, h2, fNe_ii, isQ]
      cases hs : (isStr a && isStr b) with
      | false => rfl
      | true => 
        simp only [Bool.not_true, Bool.true_and, sNil, sRet, oAnd, o2, vD, cD, runP, startR, sRet, sRetL, sSeq, sIf, sNil, sSet, oAnd, oOr, oNot, oIf, o1, o2, vD, cD, tB, tV, tNot, tAnd, tOr, aNil, aCons, oC, lD, iD, List.length_cons, List.length_nil, List.map_cons, List.map_nil, List.replicate, List.append_nil, List.cons_append, List.nil_append, List.getElem?_cons_zero, List.getElem?_cons_succ, List.set_cons_zero, List.set_cons_succ, List.set_nil, Option.bind_some, Option.bind_none, Option.map_some, Option.map_none, Nat.zero_add, Nat.reduceAdd, Nat.reduceSub, if_true, if_false, Bool.false_eq_true, reduceCtorEq, Bool.not_true, Bool.not_false, isi_tuple, isi_list, isi_str, isi_int, isi_bool, tyName, beq_self_eq_true, tr_b, tr_t, tr_l, fAdd_i, fSub_i, fLt_i, fLe_i, fGt_i, fGe_i, fNeg_i, fAbs_i, fLen_l, fLen_t, fIsN_n, fNotN_n, fInt_b, fIx_t, fIx_l, items_t, items_l, lLc, wipeR, Bool.not_not, Bool.and_true, Bool.true_and, Bool.and_false, Bool.false_and, Bool.or_true, Bool.true_or, Bool.or_false, Bool.false_or, atI_0, atI_1, saT_eq, xyT_eq, fInT false s1 sh_sa, fInT false s2 sh_xy, in_sa, in_xy]
        cases (isS "some" a || isS "all" a) <;> rfl
    | a :: b :: c :: r, _ =>
      have h6 : (((r.length + 1 + 1 + 1 : Nat) : Int) == (2 : Int)) = false := by
        rw [beq_eq_false_iff_ne]
        omega
      simp only [F_is_quantifier, iq_split, runP, startR, sRet, sRetL, sSeq, sIf, sNil, sSet, oAnd, oOr, oNot, oIf, o1, o2, vD, cD, tB, tV, tNot, tAnd, tOr, aNil, aCons, oC, lD, iD, List.length_cons, List.length_nil, List.map_cons, List.map_nil, List.replicate, List.append_nil, List.cons_append, List.nil_append, List.getElem?_cons_zero, List.getElem?_cons_succ, List.set_cons_zero, List.set_cons_succ, List.set_nil, Option.bind_some, Option.bind_none, Option.map_some, Option.map_none, Nat.zero_add, Nat.reduceAdd, Nat.reduceSub, if_true, if_false, Bool.false_eq_true, reduceCtorEq, Bool.not_true, Bool.not_false, isi_tuple, isi_list, isi_str, isi_int, isi_bool, tyName, beq_self_eq_true, tr_b, tr_t, tr_l, fAdd_i, fSub_i, fLt_i, fLe_i, fGt_i, fGe_i, fNeg_i, fAbs_i, fLen_l, fLen_t, fIsN_n, fNotN_n, fInt_b, fIx_t, fIx_l, items_t, items_l, lLc, wipeR, Bool.not_not, Bool.and_true, Bool.true_and, Bool.and_false, Bool.false_and, Bool.or_true, Bool.true_or, Bool.or_false, Bool.false_or, fNe_ii, h6, isQ]
  | _ => simp only [F_is_quantifier, iq_split, runP, startR, sRet, sRetL, sSeq, sIf, sNil, sSet, oAnd, oOr, oNot, oIf, o1, o2, vD, cD, tB, tV, tNot, tAnd, tOr, aNil, aCons, oC, lD, iD, List.length_cons, List.length_nil, List.map_cons, List.map_nil, List.replicate, List.append_nil, List.cons_append, List.nil_append, List.getElem?_cons_zero, List.getElem?_cons_succ, List.set_cons_zero, List.set_cons_succ, List.set_nil, Option.bind_some, Option.bind_none, Option.map_some, Option.map_none, Nat.zero_add, Nat.reduceAdd, Nat.reduceSub, if_true, if_false, Bool.false_eq_true, reduceCtorEq, Bool.not_true, Bool.not_false, isi_tuple, isi_list, isi_str, isi_int, isi_bool, tyName, beq_self_eq_true, tr_b, tr_t, tr_l, fAdd_i, fSub_i, fLt_i, fLe_i, fGt_i, fGe_i, fNeg_i, fAbs_i, fLen_l, fLen_t, fIsN_n, fNotN_n, fInt_b, fIx_t, fIx_l, items_t, items_l, lLc, wipeR, Bool.not_not, Bool.and_true, Bool.true_and, Bool.and_false, Bool.false_and, Bool.or_true, Bool.true_or, Bool.or_false, Bool.false_or, isQ] <;> rfl
end K77

set_option Elab.async false
set_option linter.all false
set_option maxRecDepth 100000
set_option maxHeartbeats 4000000
/-! M11: lists of quantifiers; free unknowns. -/
namespace K77
open PySem DL
open L2 (atI ixN)
def snd2 : PyData → PyData
  | .tuple [_, b] => b
  | _ => .none
theorem lcGo_pair {i j : Nat} {p : DE} {ρ : Rho} (hp : ∀ a b, p ((ρ.set i (some (.dat a))).set j (some (.dat b))) = some b) : ∀ {ds : List PyData}, (∀ d ∈ ds, ∃ a b, d = .tuple [a, b]) → lcGo (gT [i, j]) tYesD p ρ ds = some (ds.map snd2)
  | [], _ => rfl
  | d :: ds, h => by
    obtain ⟨a, b, rfl⟩ := h d (List.mem_cons_self ..)
    have e := hp a b
    have ih := lcGo_pair hp fun x hx => h x (List.mem_cons_of_mem _ hx)
    show (p ((ρ.set i (some (.dat a))).set j (some (.dat b)))).bind _ = _
    rw [e, ih]
    rfl
theorem isQ_pair {d : PyData} (h : isQ d = true) : ∃ a b, d = qt a b ∧ (a = "some" ∨ a = "all") ∧ (b = "x" ∨ b = "y") := by
  cases d with
  | tuple cs =>
    match cs, h with
    | [a, b], h =>
      simp only [isQ, Bool.and_eq_true, Bool.or_eq_true, isS_iff] at h
      obtain ⟨_, h1, h2⟩ := h
      rcases h1 with rfl | rfl <;> rcases h2 with rfl | rfl
      · exact ⟨_, _, rfl, .inl rfl, .inl rfl⟩
      · exact ⟨_, _, rfl, .inl rfl, .inr rfl⟩
      · exact ⟨_, _, rfl, .inr rfl, .inl rfl⟩
      · exact ⟨_, _, rfl, .inr rfl, .inr rfl⟩
  | _ => cases h
def unks : List PyData := [.list [.str "x"], .list [.str "y"], .list [.str "x", .str "y"]]
theorem ex_unks : ∀ z ∈ unks, Exact z := fun z hz => by
  simp only [unks, List.mem_cons, List.not_mem_nil, or_false] at hz
  rcases hz with rfl | rfl | rfl
  · exact ex_list fun y hy => by rw [List.mem_singleton.mp hy]; exact ex_str _
  · exact ex_list fun y hy => by rw [List.mem_singleton.mp hy]; exact ex_str _
  · exact ex_list fun y hy => by
      rcases List.mem_cons.mp hy with rfl | hy
      · exact ex_str _
      · rw [List.mem_singleton.mp hy]; exact ex_str _
theorem unks_self : ∀ z ∈ unks, PyData.eqv z z = true := by decide +kernel
theorem sh_unks : SeqAt.shaped (.tuple unks) = true := by decide +kernel
theorem whole_of {ds : List PyData} (hq : ∀ d ∈ ds, isQ d = true) (hu : PyData.list (ds.map snd2) ∈ unks) : PyData.list ds ∈ wholeL := by
  have hlen : ds.length = 1 ∨ ds.length = 2 := by
    simp only [unks, List.mem_cons, List.not_mem_nil, or_false, PyData.list.injEq] at hu
    rcases hu with h | h | h
    · have := congrArg List.length h; simp at this; exact .inl this
    · have := congrArg List.length h; simp at this; exact .inl this
    · have := congrArg List.length h; simp at this; exact .inr this
  rcases hlen with hl | hl
  · match ds, hl with
    | [d], _ =>
      obtain ⟨a, b, rfl, ha, hb⟩ := isQ_pair (hq d (by simp))
      rcases ha with rfl | rfl <;> rcases hb with rfl | rfl <;> simp [wholeL, whole1]
  · match ds, hl with
    | [d, e], _ =>
      obtain ⟨a, b, rfl, ha, hb⟩ := isQ_pair (hq d (by simp))
      obtain ⟨a', b', rfl, ha', hb'⟩ := isQ_pair (hq e (by simp))
      have hxy : b = "x" ∧ b' = "y" := by
        simp only [unks, qt, snd2, List.map_cons, List.map_nil, List.mem_cons, List.not_mem_nil, or_false, PyData.list.injEq, List.cons.injEq, reduceCtorEq, and_false, false_or, PyData.str.injEq, and_true] at hu
        exact hu
      obtain ⟨rfl, rfl⟩ := hxy
      rcases ha with rfl | rfl <;> rcases ha' with rfl | rfl <;> simp [wholeL, whole1]
theorem whole_unk : ∀ z ∈ wholeL, ∃ ds, z = .list ds ∧ ds.all isQ = true ∧ isIn (.list (ds.map snd2)) unks = true ∧ ds.length ≤ 2 := by
  intro z hz
  simp only [wholeL, whole1, List.cons_append, List.nil_append, List.mem_cons, List.not_mem_nil, or_false] at hz
  rcases hz with rfl | rfl | rfl | rfl | rfl | rfl | rfl | rfl <;> exact ⟨_, rfl, by decide +kernel, by decide +kernel, by decide +kernel⟩
def unT : DE := (oTup (aCons (lD (lLst (aCons (cD (.str "x")) aNil))) (aCons (lD (lLst (aCons (cD (.str "y")) aNil))) (aCons (lD (lLst (aCons (cD (.str "x")) (aCons (cD (.str "y")) aNil)))) aNil))))
theorem unT_eq (ρ : Rho) : unT ρ = some (.tuple unks) := rfl
theorem aq_split : d_are_quantifiers = (sSeq (sIf (DL.tOr (DL.tNot (tV (o1 (fIsi "list") (vD 0)))) (DL.tNot (tV (oC fAll (aCons (lD (lLc (iD (vD 0)) (gN 3) tYesD (oC F_is_quantifier (aCons (vD 3) aNil)) [3])) aNil)))))
    (sRet (cD (.bool false))) sNil)
  (sRet (o2 (fIn false) (lD (lLc (iD (vD 0)) (gT [1, 2]) tYesD (vD 2) [1, 2])) unT))) := rfl
theorem quants_eq {n : Nat} (q : PyData) (hf : Fine n q) (hn : n ≤ 63) : F_are_quantifiers [q] = some (.bool (isIn q wholeL)) := by
  cases q with
  | list ds =>
    obtain ⟨hz, m, rfl, ha⟩ := fine_ll hf
    have hz1 : ds.length ≤ sizeLine := size_ok (by omega)
    have hgo : lcGo (gN 3) tYesD (oC F_is_quantifier (aCons (vD 3) aNil)) [some (.dat (.list ds)), none, none, none] ds = some (ds.map fun d => .bool (isQ d)) := lcGo_map fun d hd => by
      simp only [oC, aCons, aNil, vD, List.set_cons_succ, List.set_cons_zero, List.getElem?_cons_succ, List.getElem?_cons_zero, Option.bind_some, Option.map_some]
      exact quant_eq d (ha d hd) (by omega)
    have h1 : (oC fAll (aCons (lD (lLc (iD (vD 0)) (gN 3) tYesD (oC F_is_quantifier (aCons (vD 3) aNil)) [3])) aNil)) [some (.dat (.list ds)), none, none, none] = some (.bool (ds.all isQ)) := by
      simp only [oC, aCons, lD, lLc, iD, vD, List.getElem?_cons_zero, Option.bind_some, items_l, hz1, if_true, wipeR, List.set_cons_succ, List.set_cons_zero, hgo, Option.map_some, aNil, fAll_map]
    cases hq : ds.all isQ with
    | false =>
      have hw : isIn (.list ds) wholeL = false := by
        cases h : isIn (.list ds) wholeL with
        | false => rfl
        | true =>
          obtain ⟨ds', e, h2, _⟩ := whole_unk _ ((in_whole _).mp h)
          cases e
          rw [hq] at h2
          cases h2
      simp only [F_are_quantifiers, aq_split, runP, sSeq, sIf, startR, List.length_cons, List.length_nil, List.map_cons, List.map_nil, if_true, List.replicate, List.append_nil, List.cons_append, List.nil_append, Nat.zero_add, Nat.reduceAdd, Nat.reduceSub, DL.tOr, DL.tNot, tV, o1, vD, List.getElem?_cons_zero, Option.bind_some, Option.map_some, isi_list, tyName, beq_self_eq_true, tr_b, Bool.not_true, Bool.false_eq_true, if_false, h1, hq, Bool.not_false, sRet, cD, hw]
    | true =>
      have hall := List.all_eq_true.mp hq
      have hgo2 : lcGo (gT [1, 2]) tYesD (vD 2) [some (.dat (.list ds)), none, none, none] ds = some (ds.map snd2) := lcGo_pair (fun a b => rfl) fun d hd => by
        obtain ⟨a, b, e, _⟩ := isQ_pair (hall d hd)
        exact ⟨_, _, e⟩
      have hs : SeqAt.shaped (.list (ds.map snd2)) = true := shapedL (n := 0) (fun d hd => by
        obtain ⟨x, hx, e⟩ := List.mem_map.mp hd
        obtain ⟨a, b, e2, _, hb⟩ := isQ_pair (hall x hx)
        subst e2
        subst e
        show Fine 0 (.str b)
        rcases hb with rfl | rfl <;> exact .str (by decide +kernel) (by decide +kernel)) (by omega)
      have hw : isIn (.list (ds.map snd2)) unks = isIn (.list ds) wholeL := by
        rw [Bool.eq_iff_iff, in_exact ex_unks unks_self, in_whole]
        constructor
        · exact whole_of hall
        · intro h
          obtain ⟨ds', e, _, h3, _⟩ := whole_unk _ h
          cases e
          exact (in_exact ex_unks unks_self _).mp h3
      simp only [F_are_quantifiers, aq_split, runP, sSeq, sIf, startR, List.length_cons, List.length_nil, List.map_cons, List.map_nil, if_true, List.replicate, List.append_nil, List.cons_append, List.nil_append, Nat.zero_add, Nat.reduceAdd, Nat.reduceSub, DL.tOr, DL.tNot, tV, o1, vD, List.getElem?_cons_zero, Option.bind_some, Option.map_some, isi_list, tyName, beq_self_eq_true, tr_b, Bool.not_true, Bool.false_eq_true, if_false, h1, hq, sNil, sRet, o2, lD, lLc, iD, items_l, hz1, wipeR, List.set_cons_succ, List.set_cons_zero, hgo2, unT_eq, fInT false hs sh_unks, hw]
  | tuple ds =>
    have hw : isIn (.tuple ds) wholeL = false := by
      cases h : isIn (.tuple ds) wholeL with
      | false => rfl
      | true =>
        obtain ⟨ds', e, _⟩ := whole_unk _ ((in_whole _).mp h)
        cases e
    rw [hw]
    simp only [F_are_quantifiers, aq_split, runP, startR, sRet, sRetL, sSeq, sIf, sNil, sSet, oAnd, oOr, oNot, oIf, o1, o2, vD, cD, tB, tV, tNot, tAnd, tOr, aNil, aCons, oC, lD, iD, List.length_cons, List.length_nil, List.map_cons, List.map_nil, List.replicate, List.append_nil, List.cons_append, List.nil_append, List.getElem?_cons_zero, List.getElem?_cons_succ, List.set_cons_zero, List.set_cons_succ, List.set_nil, Option.bind_some, Option.bind_none, Option.map_some, Option.map_none, Nat.zero_add, Nat.reduceAdd, Nat.reduceSub, if_true, if_false, Bool.false_eq_true, reduceCtorEq, Bool.not_true, Bool.not_false, isi_tuple, isi_list, isi_str, isi_int, isi_bool, tyName, beq_self_eq_true, tr_b, tr_t, tr_l, fAdd_i, fSub_i, fLt_i, fLe_i, fGt_i, fGe_i, fNeg_i, fAbs_i, fLen_l, fLen_t, fIsN_n, fNotN_n, fInt_b, fIx_t, fIx_l, items_t, items_l, lLc, wipeR, Bool.not_not, Bool.and_true, Bool.true_and, Bool.and_false, Bool.false_and, Bool.or_true, Bool.true_or, Bool.or_false, Bool.false_or] <;> rfl
  | str x =>
    have hw : isIn (.str x) wholeL = false := by
      cases h : isIn (.str x) wholeL with
      | false => rfl
      | true =>
        obtain ⟨ds', e, _⟩ := whole_unk _ ((in_whole _).mp h)
        cases e
    rw [hw]
    simp only [F_are_quantifiers, aq_split, runP, startR, sRet, sRetL, sSeq, sIf, sNil, sSet, oAnd, oOr, oNot, oIf, o1, o2, vD, cD, tB, tV, tNot, tAnd, tOr, aNil, aCons, oC, lD, iD, List.length_cons, List.length_nil, List.map_cons, List.map_nil, List.replicate, List.append_nil, List.cons_append, List.nil_append, List.getElem?_cons_zero, List.getElem?_cons_succ, List.set_cons_zero, List.set_cons_succ, List.set_nil, Option.bind_some, Option.bind_none, Option.map_some, Option.map_none, Nat.zero_add, Nat.reduceAdd, Nat.reduceSub, if_true, if_false, Bool.false_eq_true, reduceCtorEq, Bool.not_true, Bool.not_false, isi_tuple, isi_list, isi_str, isi_int, isi_bool, tyName, beq_self_eq_true, tr_b, tr_t, tr_l, fAdd_i, fSub_i, fLt_i, fLe_i, fGt_i, fGe_i, fNeg_i, fAbs_i, fLen_l, fLen_t, fIsN_n, fNotN_n, fInt_b, fIx_t, fIx_l, items_t, items_l, lLc, wipeR, Bool.not_not, Bool.and_true, Bool.true_and, Bool.and_false, Bool.false_and, Bool.or_true, Bool.true_or, Bool.or_false, Bool.false_or] <;> rfl
  | none => rfl
  | bool b =>
    have hw : isIn (.bool b) wholeL = false := by
      cases h : isIn (.bool b) wholeL with
      | false => rfl
      | true =>
        obtain ⟨ds', e, _⟩ := whole_unk _ ((in_whole _).mp h)
        cases e
    rw [hw]
    simp only [F_are_quantifiers, aq_split, runP, startR, sRet, sRetL, sSeq, sIf, sNil, sSet, oAnd, oOr, oNot, oIf, o1, o2, vD, cD, tB, tV, tNot, tAnd, tOr, aNil, aCons, oC, lD, iD, List.length_cons, List.length_nil, List.map_cons, List.map_nil, List.replicate, List.append_nil, List.cons_append, List.nil_append, List.getElem?_cons_zero, List.getElem?_cons_succ, List.set_cons_zero, List.set_cons_succ, List.set_nil, Option.bind_some, Option.bind_none, Option.map_some, Option.map_none, Nat.zero_add, Nat.reduceAdd, Nat.reduceSub, if_true, if_false, Bool.false_eq_true, reduceCtorEq, Bool.not_true, Bool.not_false, isi_tuple, isi_list, isi_str, isi_int, isi_bool, tyName, beq_self_eq_true, tr_b, tr_t, tr_l, fAdd_i, fSub_i, fLt_i, fLe_i, fGt_i, fGe_i, fNeg_i, fAbs_i, fLen_l, fLen_t, fIsN_n, fNotN_n, fInt_b, fIx_t, fIx_l, items_t, items_l, lLc, wipeR, Bool.not_not, Bool.and_true, Bool.true_and, Bool.and_false, Bool.false_and, Bool.or_true, Bool.true_or, Bool.or_false, Bool.false_or] <;> rfl
  | int i =>
    have hw : isIn (.int i) wholeL = false := by
      cases h : isIn (.int i) wholeL with
      | false => rfl
      | true =>
        obtain ⟨ds', e, _⟩ := whole_unk _ ((in_whole _).mp h)
        cases e
    rw [hw]
    simp only [F_are_quantifiers, aq_split, runP, startR, sRet, sRetL, sSeq, sIf, sNil, sSet, oAnd, oOr, oNot, oIf, o1, o2, vD, cD, tB, tV, tNot, tAnd, tOr, aNil, aCons, oC, lD, iD, List.length_cons, List.length_nil, List.map_cons, List.map_nil, List.replicate, List.append_nil, List.cons_append, List.nil_append, List.getElem?_cons_zero, List.getElem?_cons_succ, List.set_cons_zero, List.set_cons_succ, List.set_nil, Option.bind_some, Option.bind_none, Option.map_some, Option.map_none, Nat.zero_add, Nat.reduceAdd, Nat.reduceSub, if_true, if_false, Bool.false_eq_true, reduceCtorEq, Bool.not_true, Bool.not_false, isi_tuple, isi_list, isi_str, isi_int, isi_bool, tyName, beq_self_eq_true, tr_b, tr_t, tr_l, fAdd_i, fSub_i, fLt_i, fLe_i, fGt_i, fGe_i, fNeg_i, fAbs_i, fLen_l, fLen_t, fIsN_n, fNotN_n, fInt_b, fIx_t, fIx_l, items_t, items_l, lLc, wipeR, Bool.not_not, Bool.and_true, Bool.true_and, Bool.and_false, Bool.false_and, Bool.or_true, Bool.true_or, Bool.or_false, Bool.false_or] <;> rfl
  | dict d => cases hf
/-! ### free unknowns -/
def rowsL : PyData → List PyData
  | .tuple rs => rs
  | _ => []
def usesX (b : PyData) : Bool := (rowsL b).any row0
def usesY (b : PyData) : Bool := decide (1 < (rowsL b).length)
theorem usesX_eq {b : PyData} (h : isForm b = true) : F_uses_x [b] = some (.bool (usesX b)) := by
  obtain ⟨rs, rfl, h3, hr, hl⟩ := form_tup h
  have hz : rs.length ≤ sizeLine := size_ok (by omega)
  have hgo : lcGo (gN 1) tYesD (o2 fGt (oC fLen (aCons (vD 1) aNil)) (cD (.int 1))) [some (.dat (.tuple rs)), none] rs = some (rs.map fun d => .bool (row0 d)) := lcGo_map fun d hd => by
    obtain ⟨cs, rfl, hc⟩ := row_tup (hr d hd)
    simp only [runP, startR, sRet, sRetL, sSeq, sIf, sNil, sSet, oAnd, oOr, oNot, oIf, o1, o2, vD, cD, tB, tV, tNot, tAnd, tOr, aNil, aCons, oC, lD, iD, List.length_cons, List.length_nil, List.map_cons, List.map_nil, List.replicate, List.append_nil, List.cons_append, List.nil_append, List.getElem?_cons_zero, List.getElem?_cons_succ, List.set_cons_zero, List.set_cons_succ, List.set_nil, Option.bind_some, Option.bind_none, Option.map_some, Option.map_none, Nat.zero_add, Nat.reduceAdd, Nat.reduceSub, if_true, if_false, Bool.false_eq_true, reduceCtorEq, Bool.not_true, Bool.not_false, isi_tuple, isi_list, isi_str, isi_int, isi_bool, tyName, beq_self_eq_true, tr_b, tr_t, tr_l, fAdd_i, fSub_i, fLt_i, fLe_i, fGt_i, fGe_i, fNeg_i, fAbs_i, fLen_l, fLen_t, fIsN_n, fNotN_n, fInt_b, fIx_t, fIx_l, items_t, items_l, lLc, wipeR, Bool.not_not, Bool.and_true, Bool.true_and, Bool.and_false, Bool.false_and, Bool.or_true, Bool.true_or, Bool.or_false, Bool.false_or, row0]
    congr 2
    rw [Bool.eq_iff_iff, decide_eq_true_eq, decide_eq_true_eq]
    omega
  simp only [F_uses_x, runP, startR, sRet, sRetL, sSeq, sIf, sNil, sSet, oAnd, oOr, oNot, oIf, o1, o2, vD, cD, tB, tV, tNot, tAnd, tOr, aNil, aCons, oC, lD, iD, List.length_cons, List.length_nil, List.map_cons, List.map_nil, List.replicate, List.append_nil, List.cons_append, List.nil_append, List.getElem?_cons_zero, List.getElem?_cons_succ, List.set_cons_zero, List.set_cons_succ, List.set_nil, Option.bind_some, Option.bind_none, Option.map_some, Option.map_none, Nat.zero_add, Nat.reduceAdd, Nat.reduceSub, if_true, if_false, Bool.false_eq_true, reduceCtorEq, Bool.not_true, Bool.not_false, isi_tuple, isi_list, isi_str, isi_int, isi_bool, tyName, beq_self_eq_true, tr_b, tr_t, tr_l, fAdd_i, fSub_i, fLt_i, fLe_i, fGt_i, fGe_i, fNeg_i, fAbs_i, fLen_l, fLen_t, fIsN_n, fNotN_n, fInt_b, fIx_t, fIx_l, items_t, items_l, lLc, wipeR, Bool.not_not, Bool.and_true, Bool.true_and, Bool.and_false, Bool.false_and, Bool.or_true, Bool.true_or, Bool.or_false, Bool.false_or, hz, hgo, fAny_map, usesX, rowsL]
theorem usesY_eq {b : PyData} (h : isForm b = true) : F_uses_y [b] = some (.bool (usesY b)) := by
  obtain ⟨rs, rfl, h3, hr, hl⟩ := form_tup h
  have e : decide ((1 : Int) < (rs.length : Int)) = decide (1 < rs.length) := by
    rw [Bool.eq_iff_iff, decide_eq_true_eq, decide_eq_true_eq]
    omega
  simp only [F_uses_y, runP, startR, sRet, sRetL, sSeq, sIf, sNil, sSet, oAnd, oOr, oNot, oIf, o1, o2, vD, cD, tB, tV, tNot, tAnd, tOr, aNil, aCons, oC, lD, iD, List.length_cons, List.length_nil, List.map_cons, List.map_nil, List.replicate, List.append_nil, List.cons_append, List.nil_append, List.getElem?_cons_zero, List.getElem?_cons_succ, List.set_cons_zero, List.set_cons_succ, List.set_nil, Option.bind_some, Option.bind_none, Option.map_some, Option.map_none, Nat.zero_add, Nat.reduceAdd, Nat.reduceSub, if_true, if_false, Bool.false_eq_true, reduceCtorEq, Bool.not_true, Bool.not_false, isi_tuple, isi_list, isi_str, isi_int, isi_bool, tyName, beq_self_eq_true, tr_b, tr_t, tr_l, fAdd_i, fSub_i, fLt_i, fLe_i, fGt_i, fGe_i, fNeg_i, fAbs_i, fLen_l, fLen_t, fIsN_n, fNotN_n, fInt_b, fIx_t, fIx_l, items_t, items_l, lLc, wipeR, Bool.not_not, Bool.and_true, Bool.true_and, Bool.and_false, Bool.false_and, Bool.or_true, Bool.true_or, Bool.or_false, Bool.false_or, e, usesY, rowsL]
  rfl
def freeB (known : List PyData) (b : PyData) : Bool := (usesX b && !isIn (.str "x") known) || (usesY b && !isIn (.str "y") known)
theorem hf_split : d_has_free = (sSeq (sSet 2 (lD (lLc (iD (vD 0)) (gT [3, 4]) tYesD (vD 4) [3, 4])))
  (sRet (oC fAny (aCons (lD (lLc (iD (vD 1)) (gN 5) tYesD (oOr (oAnd (oC F_uses_x (aCons (vD 5) aNil)) (o2 (fIn true) (cD (.str "x")) (vD 2))) (oAnd (oC F_uses_y (aCons (vD 5) aNil)) (o2 (fIn true) (cD (.str "y")) (vD 2)))) [5])) aNil)))) := rfl
theorem free_eq {ds bs : List PyData} (hq : ∀ d ∈ ds, isQ d = true) (hd2 : ds.length ≤ 2) (hb : ∀ b ∈ bs, isForm b = true) (hl : bs.length ≤ 60) : F_has_free [.list ds, .list bs] = some (.bool (bs.any (freeB (ds.map snd2)))) := by
  have hz1 : ds.length ≤ sizeLine := size_ok (by omega)
  have hz2 : bs.length ≤ sizeLine := size_ok (by omega)
  have hgo2 : lcGo (gT [3, 4]) tYesD (vD 4) [some (.dat (.list ds)), some (.dat (.list bs)), none, none, none, none] ds = some (ds.map snd2) := lcGo_pair (fun a b => rfl) fun d hd => by
    obtain ⟨a, b, e, _⟩ := isQ_pair (hq d hd)
    exact ⟨_, _, e⟩
  have hs : SeqAt.shaped (.list (ds.map snd2)) = true := shapedL (n := 0) (fun d hd => by
    obtain ⟨x, hx, e⟩ := List.mem_map.mp hd
    obtain ⟨a, b, e2, _, hb⟩ := isQ_pair (hq x hx)
    subst e2
    subst e
    show Fine 0 (.str b)
    rcases hb with rfl | rfl <;> exact .str (by decide +kernel) (by decide +kernel)) (by omega)
  have hx : fIn true (.str "x") (.list (ds.map snd2)) = some (.bool (!isIn (.str "x") (ds.map snd2))) := fInL true (by decide +kernel) hs
  have hy : fIn true (.str "y") (.list (ds.map snd2)) = some (.bool (!isIn (.str "y") (ds.map snd2))) := fInL true (by decide +kernel) hs
  have hgo : lcGo (gN 5) tYesD (oOr (oAnd (oC F_uses_x (aCons (vD 5) aNil)) (o2 (fIn true) (cD (.str "x")) (vD 2))) (oAnd (oC F_uses_y (aCons (vD 5) aNil)) (o2 (fIn true) (cD (.str "y")) (vD 2)))) [some (.dat (.list ds)), some (.dat (.list bs)), some (.dat (.list (ds.map snd2))), none, none, none] bs = some (bs.map fun d => .bool (freeB (ds.map snd2) d)) := lcGo_map fun d hd => by
    simp only [runP, startR, sRet, sRetL, sSeq, sIf, sNil, sSet, oAnd, oOr, oNot, oIf, o1, o2, vD, cD, tB, tV, tNot, tAnd, tOr, aNil, aCons, oC, lD, iD, List.length_cons, List.length_nil, List.map_cons, List.map_nil, List.replicate, List.append_nil, List.cons_append, List.nil_append, List.getElem?_cons_zero, List.getElem?_cons_succ, List.set_cons_zero, List.set_cons_succ, List.set_nil, Option.bind_some, Option.bind_none, Option.map_some, Option.map_none, Nat.zero_add, Nat.reduceAdd, Nat.reduceSub, if_true, if_false, Bool.false_eq_true, reduceCtorEq, Bool.not_true, Bool.not_false, isi_tuple, isi_list, isi_str, isi_int, isi_bool, tyName, beq_self_eq_true, tr_b, tr_t, tr_l, fAdd_i, fSub_i, fLt_i, fLe_i, fGt_i, fGe_i, fNeg_i, fAbs_i, fLen_l, fLen_t, fIsN_n, fNotN_n, fInt_b, fIx_t, fIx_l, items_t, items_l, lLc, wipeR, Bool.not_not, Bool.and_true, Bool.true_and, Bool.and_false, Bool.false_and, Bool.or_true, Bool.true_or, Bool.or_false, Bool.false_or, usesX_eq (hb d hd), usesY_eq (hb d hd), hx, hy, freeB]
    cases usesX d with
    | false =>
      simp only [runP, startR, sRet, sRetL, sSeq, sIf, sNil, sSet, oAnd, oOr, oNot, oIf, o1, o2, vD, cD, tB, tV, tNot, tAnd, tOr, aNil, aCons, oC, lD, iD, List.length_cons, List.length_nil, List.map_cons, List.map_nil, List.replicate, List.append_nil, List.cons_append, List.nil_append, List.getElem?_cons_zero, List.getElem?_cons_succ, List.set_cons_zero, List.set_cons_succ, List.set_nil, Option.bind_some, Option.bind_none, Option.map_some, Option.map_none, Nat.zero_add, Nat.reduceAdd, Nat.reduceSub, if_true, if_false, Bool.false_eq_true, reduceCtorEq, Bool.not_true, Bool.not_false, isi_tuple, isi_list, isi_str, isi_int, isi_bool, tyName, beq_self_eq_true, tr_b, tr_t, tr_l, fAdd_i, fSub_i, fLt_i, fLe_i, fGt_i, fGe_i, fNeg_i, fAbs_i, fLen_l, fLen_t, fIsN_n, fNotN_n, fInt_b, fIx_t, fIx_l, items_t, items_l, lLc, wipeR, Bool.not_not, Bool.and_true, Bool.true_and, Bool.and_false, Bool.false_and, Bool.or_true, Bool.true_or, Bool.or_false, Bool.false_or]
      cases usesY d <;> rfl
    | true =>
      simp only [runP, startR, sRet, sRetL, sSeq, sIf, sNil, sSet, oAnd, oOr, oNot, oIf, o1, o2, vD, cD, tB, tV, tNot, tAnd, tOr, aNil, aCons, oC, lD, iD, List.length_cons, List.length_nil, List.map_cons, List.map_nil, List.replicate, List.append_nil, List.cons_append, List.nil_append, List.getElem?_cons_zero, List.getElem?_cons_succ, List.set_cons_zero, List.set_cons_succ, List.set_nil, Option.bind_some, Option.bind_none, Option.map_some, Option.map_none, Nat.zero_add, Nat.reduceAdd, Nat.reduceSub, if_true, if_false, Bool.false_eq_true, reduceCtorEq, Bool.not_true, Bool.not_false, isi_tuple, isi_list, isi_str, isi_int, isi_bool, tyName, beq_self_eq_true, tr_b, tr_t, tr_l, fAdd_i, fSub_i, fLt_i, fLe_i, fGt_i, fGe_i, fNeg_i, fAbs_i, fLen_l, fLen_t, fIsN_n, fNotN_n, fInt_b, fIx_t, fIx_l, items_t, items_l, lLc, wipeR, Bool.not_not, Bool.and_true, Bool.true_and, Bool.and_false, Bool.false_and, Bool.or_true, Bool.true_or, Bool.or_false, Bool.false_or]
      cases isIn (.str "x") (ds.map snd2) with
      | false => rfl
      | true =>
        simp only [runP, startR, sRet, sRetL, sSeq, sIf, sNil, sSet, oAnd, oOr, oNot, oIf, o1, o2, vD, cD, tB, tV, tNot, tAnd, tOr, aNil, aCons, oC, lD, iD, List.length_cons, List.length_nil, List.map_cons, List.map_nil, List.replicate, List.append_nil, List.cons_append, List.nil_append, List.getElem?_cons_zero, List.getElem?_cons_succ, List.set_cons_zero, List.set_cons_succ, List.set_nil, Option.bind_some, Option.bind_none, Option.map_some, Option.map_none, Nat.zero_add, Nat.reduceAdd, Nat.reduceSub, if_true, if_false, Bool.false_eq_true, reduceCtorEq, Bool.not_true, Bool.not_false, isi_tuple, isi_list, isi_str, isi_int, isi_bool, tyName, beq_self_eq_true, tr_b, tr_t, tr_l, fAdd_i, fSub_i, fLt_i, fLe_i, fGt_i, fGe_i, fNeg_i, fAbs_i, fLen_l, fLen_t, fIsN_n, fNotN_n, fInt_b, fIx_t, fIx_l, items_t, items_l, lLc, wipeR, Bool.not_not, Bool.and_true, Bool.true_and, Bool.and_false, Bool.false_and, Bool.or_true, Bool.true_or, Bool.or_false, Bool.false_or]
        cases usesY d <;> rfl
  simp only [F_has_free, hf_split, runP, startR, sRet, sRetL, sSeq, sIf, sNil, sSet, oAnd, oOr, oNot, oIf, o1, o2, vD, cD, tB, tV, tNot, tAnd, tOr, aNil, aCons, oC, lD, iD, List.length_cons, List.length_nil, List.map_cons, List.map_nil, List.replicate, List.append_nil, List.cons_append, List.nil_append, List.getElem?_cons_zero, List.getElem?_cons_succ, List.set_cons_zero, List.set_cons_succ, List.set_nil, Option.bind_some, Option.bind_none, Option.map_some, Option.map_none, Nat.zero_add, Nat.reduceAdd, Nat.reduceSub, if_true, if_false, Bool.false_eq_true, reduceCtorEq, Bool.not_true, Bool.not_false, isi_tuple, isi_list, isi_str, isi_int, isi_bool, tyName, beq_self_eq_true, tr_b, tr_t, tr_l, fAdd_i, fSub_i, fLt_i, fLe_i, fGt_i, fGe_i, fNeg_i, fAbs_i, fLen_l, fLen_t, fIsN_n, fNotN_n, fInt_b, fIx_t, fIx_l, items_t, items_l, lLc, wipeR, Bool.not_not, Bool.and_true, Bool.true_and, Bool.and_false, Bool.false_and, Bool.or_true, Bool.true_or, Bool.or_false, Bool.false_or, hz1, hz2, hgo2, hgo, fAny_map]
end K77

set_option Elab.async false
set_option linter.all false
set_option maxRecDepth 100000
set_option maxHeartbeats 4000000
/-! M12: the fault of a sentence, by the program and by the law. -/
namespace K77
open PySem DL
open L2 (atI ixN)
def unk : PyData → List PyData
  | .list ds => ds.map snd2
  | _ => []
def faultS : PyData → Option Str
  | .tuple [q, f] => if isIn q wholeL then (match goS 20 0 [f] with
      | some s => some s
      | none => if (formsOf f).any (freeB (unk q)) then some "free" else if 2 < (formsOf f).length then some "large" else none) else some "form"
  | _ => some "form"
theorem fs_form {q f : PyData} (h : isIn q wholeL = false) : faultS (.tuple [q, f]) = some ("form" : Str) := by
  simp only [faultS, h, Bool.false_eq_true, if_false]
theorem fs_lv {q f : PyData} {s : Str} (h : isIn q wholeL = true) (h2 : goS 20 0 [f] = some s) : faultS (.tuple [q, f]) = some s := by
  simp only [faultS, h, if_true, h2]
theorem fs_free {q f : PyData} (h : isIn q wholeL = true) (h2 : goS 20 0 [f] = none) (h3 : (formsOf f).any (freeB (unk q)) = true) : faultS (.tuple [q, f]) = some ("free" : Str) := by
  simp only [faultS, h, if_true, h2, h3]
theorem fs_large {q f : PyData} (h : isIn q wholeL = true) (h2 : goS 20 0 [f] = none) (h3 : (formsOf f).any (freeB (unk q)) = false) (h4 : 2 < (formsOf f).length) : faultS (.tuple [q, f]) = some ("large" : Str) := by
  simp only [faultS, h, if_true, h2, h3, Bool.false_eq_true, if_false, if_pos h4]
theorem fs_ok {q f : PyData} (h : isIn q wholeL = true) (h2 : goS 20 0 [f] = none) (h3 : (formsOf f).any (freeB (unk q)) = false) (h4 : ¬ 2 < (formsOf f).length) : faultS (.tuple [q, f]) = none := by
  simp only [faultS, h, if_true, h2, h3, Bool.false_eq_true, if_false, if_neg h4]
theorem goS_ne : ∀ (k : Nat) (l : List PyData) (c : Nat) (s : Str), goS k c l = some s → s = "form" ∨ s = "large"
  | 0, l, c, s, h => by
    unfold goS at h
    split at h
    · cases h
    · split at h <;> cases h
      · exact .inl rfl
      · exact .inr rfl
  | k + 1, l, c, s, h => by
    unfold goS at h
    split at h
    · cases h
    · split at h
      · cases h; exact .inl rfl
      · split at h
        · cases h; exact .inr rfl
        · exact goS_ne k _ _ s h
theorem fault_ne {v : PyData} {s : Str} (h : faultS v = some s) : s = "form" ∨ s = "large" ∨ s = "free" := by
  unfold faultS at h
  split at h
  · split at h
    · split at h
      · rename_i q f _ t ht
        cases h
        rcases goS_ne _ _ _ _ ht with e | e
        · exact .inl e
        · exact .inr (.inl e)
      · split at h
        · cases h; exact .inr (.inr rfl)
        · split at h
          · cases h; exact .inr (.inl rfl)
          · cases h
    · cases h; exact .inl rfl
  · cases h; exact .inl rfl
/-- what the levels tell of a formula that passes -/
theorem pass_ok {f : PyData} (h : goS 20 0 [f] = none) : OkF 20 f ∧ nodes 20 f ≤ 60 := by
  have h1 := goS_ok 20 [f] 0 h f (List.mem_singleton.mpr rfl)
  have h2 := goS_sum 20 [f] 0 h (by omega)
  simp only [List.map_cons, List.map_nil, List.sum_cons, List.sum_nil] at h2
  exact ⟨h1, by omega⟩
theorem fo2_split : d_fault_of = (sSeq (sIf (DL.tOr (DL.tNot (tV (o1 (fIsi "tuple") (vD 0)))) (DL.tOr (DL.tB (o2 fNe (oC fLen (aCons (vD 0) aNil)) (cD (.int 2)))) (DL.tNot (tV (oC F_are_quantifiers (aCons (o2 fIx (vD 0) (cD (.int 0))) aNil))))))
    (sRet (cD (.str "form"))) sNil)
  (sSeq (sSet 1 (oC F_formula_fault (aCons (o2 fIx (vD 0) (cD (.int 1))) aNil)))
  (sSeq (sIf (DL.tB (o2 fNotN (vD 1) (cD .none))) (sRet (vD 1)) sNil)
  (sSeq (sSet 2 (lD (lC F_forms_of (aCons (o2 fIx (vD 0) (cD (.int 1))) aNil))))
  (sSeq (sIf (tV (oC F_has_free (aCons (o2 fIx (vD 0) (cD (.int 0))) (aCons (vD 2) aNil)))) (sRet (cD (.str "free"))) sNil)
  (sRet (oIf (DL.tB (o2 fGt (oC fLen (aCons (vD 2) aNil)) (cD (.int 2)))) (cD (.str "large")) (cD .none)))))))) := rfl
theorem gt2 (n : Nat) : decide ((2 : Int) < (n : Int)) = decide (2 < n) := by
  rw [Bool.eq_iff_iff, decide_eq_true_eq, decide_eq_true_eq]
  omega
theorem fault_of_eq (v : PyData) (hf : Fine 64 v) : F_fault_of [v] = some (encS (faultS v)) := by
  cases v with
  | tuple cs =>
    obtain ⟨_, m, hm, ha⟩ := fine_tl hf
    match cs, ha with
    | [], _ => rfl
    | [a], _ => rfl
    | [q, f], ha =>
      have hm63 : m = 63 := by omega
      subst hm63
      have hq := ha q (by simp)
      have hff := ha f (by simp)
      have e1 := quants_eq q hq (by omega)
      have e2 := fault_eq f hff (by omega)
      simp only [F_fault_of, fo2_split, runP, startR, sRet, sRetL, sSeq, sIf, sNil, sSet, oAnd, oOr, oNot, oIf, o1, o2, vD, cD, tB, tV, tNot, tAnd, tOr, aNil, aCons, oC, lD, iD, List.length_cons, List.length_nil, List.map_cons, List.map_nil, List.replicate, List.append_nil, List.cons_append, List.nil_append, List.getElem?_cons_zero, List.getElem?_cons_succ, List.set_cons_zero, List.set_cons_succ, List.set_nil, Option.bind_some, Option.bind_none, Option.map_some, Option.map_none, Nat.zero_add, Nat.reduceAdd, Nat.reduceSub, if_true, if_false, Bool.false_eq_true, reduceCtorEq, Bool.not_true, Bool.not_false, isi_tuple, isi_list, isi_str, isi_int, isi_bool, tyName, beq_self_eq_true, tr_b, tr_t, tr_l, fAdd_i, fSub_i, fLt_i, fLe_i, fGt_i, fGe_i, fNeg_i, fAbs_i, fLen_l, fLen_t, fIsN_n, fNotN_n, fInt_b, fIx_t, fIx_l, items_t, items_l, lLc, wipeR, Bool.not_not, Bool.and_true, Bool.true_and, Bool.and_false, Bool.false_and, Bool.or_true, Bool.true_or, Bool.or_false, Bool.false_or, show (((2 : Nat) : Int) == (2 : Int)) = true by decide, fNe_ii, atI_0, atI_1, e1]
      cases hw : isIn q wholeL with
      | false => rw [fs_form hw]; rfl
      | true =>
        simp only [runP, startR, sRet, sRetL, sSeq, sIf, sNil, sSet, oAnd, oOr, oNot, oIf, o1, o2, vD, cD, tB, tV, tNot, tAnd, tOr, aNil, aCons, oC, lD, iD, List.length_cons, List.length_nil, List.map_cons, List.map_nil, List.replicate, List.append_nil, List.cons_append, List.nil_append, List.getElem?_cons_zero, List.getElem?_cons_succ, List.set_cons_zero, List.set_cons_succ, List.set_nil, Option.bind_some, Option.bind_none, Option.map_some, Option.map_none, Nat.zero_add, Nat.reduceAdd, Nat.reduceSub, if_true, if_false, Bool.false_eq_true, reduceCtorEq, Bool.not_true, Bool.not_false, isi_tuple, isi_list, isi_str, isi_int, isi_bool, tyName, beq_self_eq_true, tr_b, tr_t, tr_l, fAdd_i, fSub_i, fLt_i, fLe_i, fGt_i, fGe_i, fNeg_i, fAbs_i, fLen_l, fLen_t, fIsN_n, fNotN_n, fInt_b, fIx_t, fIx_l, items_t, items_l, lLc, wipeR, Bool.not_not, Bool.and_true, Bool.true_and, Bool.and_false, Bool.false_and, Bool.or_true, Bool.true_or, Bool.or_false, Bool.false_or, e2, atI_1]
        cases hg : goS 20 0 [f] with
        | some s => rw [fs_lv hw hg]; rfl
        | none =>
          obtain ⟨ds, rfl, hd1, _, hd2⟩ := whole_unk _ ((in_whole q).mp hw)
          obtain ⟨ho, hz⟩ := pass_ok hg
          have e3 := forms_eq f hff (by omega) ho hz
          have hok := formsOf_ok hff ho
          have hl := formsOf_len ho hz
          have e4 := free_eq (bs := formsOf f) (List.all_eq_true.mp hd1) hd2 (fun b hb => (hok b hb).1) hl
          simp only [encS, isNon, lC, runP, startR, sRet, sRetL, sSeq, sIf, sNil, sSet, oAnd, oOr, oNot, oIf, o1, o2, vD, cD, tB, tV, tNot, tAnd, tOr, aNil, aCons, oC, lD, iD, List.length_cons, List.length_nil, List.map_cons, List.map_nil, List.replicate, List.append_nil, List.cons_append, List.nil_append, List.getElem?_cons_zero, List.getElem?_cons_succ, List.set_cons_zero, List.set_cons_succ, List.set_nil, Option.bind_some, Option.bind_none, Option.map_some, Option.map_none, Nat.zero_add, Nat.reduceAdd, Nat.reduceSub, if_true, if_false, Bool.false_eq_true, reduceCtorEq, Bool.not_true, Bool.not_false, isi_tuple, isi_list, isi_str, isi_int, isi_bool, tyName, beq_self_eq_true, tr_b, tr_t, tr_l, fAdd_i, fSub_i, fLt_i, fLe_i, fGt_i, fGe_i, fNeg_i, fAbs_i, fLen_l, fLen_t, fIsN_n, fNotN_n, fInt_b, fIx_t, fIx_l, items_t, items_l, lLc, wipeR, Bool.not_not, Bool.and_true, Bool.true_and, Bool.and_false, Bool.false_and, Bool.or_true, Bool.true_or, Bool.or_false, Bool.false_or, atI_0, atI_1, e3, e4]
          cases hfr : (formsOf f).any (freeB (ds.map snd2)) with
          | true => rw [fs_free hw hg hfr]; rfl
          | false =>
            simp only [runP, startR, sRet, sRetL, sSeq, sIf, sNil, sSet, oAnd, oOr, oNot, oIf, o1, o2, vD, cD, tB, tV, tNot, tAnd, tOr, aNil, aCons, oC, lD, iD, List.length_cons, List.length_nil, List.map_cons, List.map_nil, List.replicate, List.append_nil, List.cons_append, List.nil_append, List.getElem?_cons_zero, List.getElem?_cons_succ, List.set_cons_zero, List.set_cons_succ, List.set_nil, Option.bind_some, Option.bind_none, Option.map_some, Option.map_none, Nat.zero_add, Nat.reduceAdd, Nat.reduceSub, if_true, if_false, Bool.false_eq_true, reduceCtorEq, Bool.not_true, Bool.not_false, isi_tuple, isi_list, isi_str, isi_int, isi_bool, tyName, beq_self_eq_true, tr_b, tr_t, tr_l, fAdd_i, fSub_i, fLt_i, fLe_i, fGt_i, fGe_i, fNeg_i, fAbs_i, fLen_l, fLen_t, fIsN_n, fNotN_n, fInt_b, fIx_t, fIx_l, items_t, items_l, lLc, wipeR, Bool.not_not, Bool.and_true, Bool.true_and, Bool.and_false, Bool.false_and, Bool.or_true, Bool.true_or, Bool.or_false, Bool.false_or, gt2]
            by_cases h2 : 2 < (formsOf f).length
            · rw [fs_large hw hg hfr h2]
              simp only [decide_eq_true h2, runP, startR, sRet, sRetL, sSeq, sIf, sNil, sSet, oAnd, oOr, oNot, oIf, o1, o2, vD, cD, tB, tV, tNot, tAnd, tOr, aNil, aCons, oC, lD, iD, List.length_cons, List.length_nil, List.map_cons, List.map_nil, List.replicate, List.append_nil, List.cons_append, List.nil_append, List.getElem?_cons_zero, List.getElem?_cons_succ, List.set_cons_zero, List.set_cons_succ, List.set_nil, Option.bind_some, Option.bind_none, Option.map_some, Option.map_none, Nat.zero_add, Nat.reduceAdd, Nat.reduceSub, if_true, if_false, Bool.false_eq_true, reduceCtorEq, Bool.not_true, Bool.not_false, isi_tuple, isi_list, isi_str, isi_int, isi_bool, tyName, beq_self_eq_true, tr_b, tr_t, tr_l, fAdd_i, fSub_i, fLt_i, fLe_i, fGt_i, fGe_i, fNeg_i, fAbs_i, fLen_l, fLen_t, fIsN_n, fNotN_n, fInt_b, fIx_t, fIx_l, items_t, items_l, lLc, wipeR, Bool.not_not, Bool.and_true, Bool.true_and, Bool.and_false, Bool.false_and, Bool.or_true, Bool.true_or, Bool.or_false, Bool.false_or, encS]
            · rw [fs_ok hw hg hfr h2]
              simp only [decide_eq_false h2, runP, startR, sRet, sRetL, sSeq, sIf, sNil, sSet, oAnd, oOr, oNot, oIf, o1, o2, vD, cD, tB, tV, tNot, tAnd, tOr, aNil, aCons, oC, lD, iD, List.length_cons, List.length_nil, List.map_cons, List.map_nil, List.replicate, List.append_nil, List.cons_append, List.nil_append, List.getElem?_cons_zero, List.getElem?_cons_succ, List.set_cons_zero, List.set_cons_succ, List.set_nil, Option.bind_some, Option.bind_none, Option.map_some, Option.map_none, Nat.zero_add, Nat.reduceAdd, Nat.reduceSub, if_true, if_false, Bool.false_eq_true, reduceCtorEq, Bool.not_true, Bool.not_false, isi_tuple, isi_list, isi_str, isi_int, isi_bool, tyName, beq_self_eq_true, tr_b, tr_t, tr_l, fAdd_i, fSub_i, fLt_i, fLe_i, fGt_i, fGe_i, fNeg_i, fAbs_i, fLen_l, fLen_t, fIsN_n, fNotN_n, fInt_b, fIx_t, fIx_l, items_t, items_l, lLc, wipeR, Bool.not_not, Bool.and_true, Bool.true_and, Bool.and_false, Bool.false_and, Bool.or_true, Bool.true_or, Bool.or_false, Bool.false_or, encS]
    | a :: b :: c :: r, _ =>
      have h6 : (((r.length + 1 + 1 + 1 : Nat) : Int) == (2 : Int)) = false := by
        rw [beq_eq_false_iff_ne]
        omega
      simp only [F_fault_of, fo2_split, runP, startR, sRet, sRetL, sSeq, sIf, sNil, sSet, oAnd, oOr, oNot, oIf, o1, o2, vD, cD, tB, tV, tNot, tAnd, tOr, aNil, aCons, oC, lD, iD, List.length_cons, List.length_nil, List.map_cons, List.map_nil, List.replicate, List.append_nil, List.cons_append, List.nil_append, List.getElem?_cons_zero, List.getElem?_cons_succ, List.set_cons_zero, List.set_cons_succ, List.set_nil, Option.bind_some, Option.bind_none, Option.map_some, Option.map_none, Nat.zero_add, Nat.reduceAdd, Nat.reduceSub, if_true, if_false, Bool.false_eq_true, reduceCtorEq, Bool.not_true, Bool.not_false, isi_tuple, isi_list, isi_str, isi_int, isi_bool, tyName, beq_self_eq_true, tr_b, tr_t, tr_l, fAdd_i, fSub_i, fLt_i, fLe_i, fGt_i, fGe_i, fNeg_i, fAbs_i, fLen_l, fLen_t, fIsN_n, fNotN_n, fInt_b, fIx_t, fIx_l, items_t, items_l, lLc, wipeR, Bool.not_not, Bool.and_true, Bool.true_and, Bool.and_false, Bool.false_and, Bool.or_true, Bool.true_or, Bool.or_false, Bool.false_or, fNe_ii, h6, faultS, encS]
  | _ => simp only [F_fault_of, fo2_split, runP, startR, sRet, sRetL, sSeq, sIf, sNil, sSet, oAnd, oOr, oNot, oIf, o1, o2, vD, cD, tB, tV, tNot, tAnd, tOr, aNil, aCons, oC, lD, iD, List.length_cons, List.length_nil, List.map_cons, List.map_nil, List.replicate, List.append_nil, List.cons_append, List.nil_append, List.getElem?_cons_zero, List.getElem?_cons_succ, List.set_cons_zero, List.set_cons_succ, List.set_nil, Option.bind_some, Option.bind_none, Option.map_some, Option.map_none, Nat.zero_add, Nat.reduceAdd, Nat.reduceSub, if_true, if_false, Bool.false_eq_true, reduceCtorEq, Bool.not_true, Bool.not_false, isi_tuple, isi_list, isi_str, isi_int, isi_bool, tyName, beq_self_eq_true, tr_b, tr_t, tr_l, fAdd_i, fSub_i, fLt_i, fLe_i, fGt_i, fGe_i, fNeg_i, fAbs_i, fLen_l, fLen_t, fIsN_n, fNotN_n, fInt_b, fIx_t, fIx_l, items_t, items_l, lLc, wipeR, Bool.not_not, Bool.and_true, Bool.true_and, Bool.and_false, Bool.false_and, Bool.or_true, Bool.true_or, Bool.or_false, Bool.false_or, faultS] <;> rfl
theorem sentence_eq (v : PyData) (hf : Fine 64 v) : F_is_sentence [v] = some (.bool (faultS v).isNone) := by
  simp only [F_is_sentence, runP, startR, sRet, sRetL, sSeq, sIf, sNil, sSet, oAnd, oOr, oNot, oIf, o1, o2, vD, cD, tB, tV, tNot, tAnd, tOr, aNil, aCons, oC, lD, iD, List.length_cons, List.length_nil, List.map_cons, List.map_nil, List.replicate, List.append_nil, List.cons_append, List.nil_append, List.getElem?_cons_zero, List.getElem?_cons_succ, List.set_cons_zero, List.set_cons_succ, List.set_nil, Option.bind_some, Option.bind_none, Option.map_some, Option.map_none, Nat.zero_add, Nat.reduceAdd, Nat.reduceSub, if_true, if_false, Bool.false_eq_true, reduceCtorEq, Bool.not_true, Bool.not_false, isi_tuple, isi_list, isi_str, isi_int, isi_bool, tyName, beq_self_eq_true, tr_b, tr_t, tr_l, fAdd_i, fSub_i, fLt_i, fLe_i, fGt_i, fGe_i, fNeg_i, fAbs_i, fLen_l, fLen_t, fIsN_n, fNotN_n, fInt_b, fIx_t, fIx_l, items_t, items_l, lLc, wipeR, Bool.not_not, Bool.and_true, Bool.true_and, Bool.and_false, Bool.false_and, Bool.or_true, Bool.true_or, Bool.or_false, Bool.false_or, fault_of_eq v hf]
  cases faultS v <;> rfl
theorem refusal_eq (v : PyData) (hf : Fine 64 v) : F__law_refusal [v] = some (.str ((faultS v).getD "")) := by
  simp only [F__law_refusal, fault_of_eq v hf]
  cases faultS v <;> rfl
theorem forms_in_eq {q f : PyData} (hf : Fine 64 (.tuple [q, f])) (ho : OkF 20 f) (hz : nodes 20 f ≤ 60) : F_forms_in [.tuple [q, f]] = some (formsOf f) := by
  obtain ⟨_, m, hm, ha⟩ := fine_tl hf
  have e := forms_eq f (ha f (by simp)) (by omega) ho hz
  simp only [F_forms_in, runL, lC, sRetL, startR, List.length_cons, List.length_nil, List.map_cons, List.map_nil, if_true, List.replicate, List.append_nil, List.cons_append, List.nil_append, Nat.zero_add, Nat.reduceAdd, Nat.reduceSub, aCons, aNil, o2, vD, cD, List.getElem?_cons_zero, Option.bind_some, Option.map_some, fIx_t, atI_1, e]
/-! ### the law -/
def whBody : DSt := (sSet 1 (lD (lCat (asL (vD 1)) (lLst (aCons (lD (lLst (aCons (oTup (aCons (vD 2) (aCons (cD (.str "x")) aNil))) aNil))) (aCons (lD (lLst (aCons (oTup (aCons (vD 2) (aCons (cD (.str "y")) aNil))) aNil))) (aCons (lD (lLst (aCons (oTup (aCons (vD 2) (aCons (cD (.str "x")) aNil))) (aCons (oTup (aCons (cD (.str "some")) (aCons (cD (.str "y")) aNil))) aNil)))) (aCons (lD (lLst (aCons (oTup (aCons (vD 2) (aCons (cD (.str "x")) aNil))) (aCons (oTup (aCons (cD (.str "all")) (aCons (cD (.str "y")) aNil))) aNil)))) aNil))))))))
def whFor : DSt := (sFor (iD (lD (lLst (aCons (cD (.str "some")) (aCons (cD (.str "all")) aNil))))) (gN 2) whBody)
def frBody : DSt := (sIf (DL.tOr (DL.tAnd (DL.tB (o2 fGt (oC fLen (aCons (vD 11) aNil)) (cD (.int 1)))) (DL.tB (o2 (fIn true) (cD (.str "y")) (vD 10)))) (DL.tAnd (DL.tB (o2 fNe (lD (lLc (iD (vD 11)) (gN 13) (DL.tB (o2 fGt (oC fLen (aCons (vD 13) aNil)) (cD (.int 1)))) (vD 13) [13])) (lD (lLst aNil)))) (DL.tB (o2 (fIn true) (cD (.str "x")) (vD 10)))))
      (sRet (cD (.str "free")))
      sNil)
theorem du_split : d__law_due = (sSeq (sIf (DL.tOr (DL.tNot (tV (o1 (fIsi "tuple") (vD 0)))) (DL.tOr (DL.tB (o2 fNe (oC fLen (aCons (vD 0) aNil)) (cD (.int 2)))) (DL.tNot (tV (o1 (fIsi "list") (o2 fIx (vD 0) (cD (.int 0))))))))
    (sRet (cD (.str "form")))
    sNil)
  (sSeq (sSet 1 (lD (lLst aNil)))
  (sSeq whFor
  (sSeq (sIf (DL.tB (o2 (fIn true) (o2 fIx (vD 0) (cD (.int 0))) (vD 1)))
    (sRet (cD (.str "form")))
    sNil)
  (sSeq (sSet 3 (lD (lLst (aCons (o2 fIx (vD 0) (cD (.int 1))) aNil))))
  (sSeq (sSet 4 (cD (.int 0)))
  (sSeq (sFor (iR1 (aCons (cD (.int 22)) aNil)) (gN 5) lvBody)
  (sSeq (sSet 9 (oC F__law_forms (aCons (o2 fIx (vD 0) (cD (.int 1))) aNil)))
  (sSeq (sSet 10 (lD (lLc (iD (o2 fIx (vD 0) (cD (.int 0)))) (gN 12) tYesD (o2 fIx (vD 12) (cD (.int 1))) [12])))
  (sSeq (sFor (iD (vD 9)) (gN 11) frBody)
  (sRet (o2 fIx (lD (lLst (aCons (cD (.str "")) (aCons (cD (.str "large")) aNil)))) (oC fInt (aCons (o2 fGt (oC fLen (aCons (vD 9) aNil)) (cD (.int 2))) aNil)))))))))))))) := rfl
theorem wh_eq (v : Option Sl) (r : Rho) : whFor (v :: some (.dat (.list [])) :: none :: r) = some (.nx (v :: some (.dat (.list wholeL)) :: some (.dat (.str "all")) :: r)) := rfl
theorem sh_whole : SeqAt.shaped (.list wholeL) = true := by decide +kernel
theorem fr_go (known : List PyData) (hs : SeqAt.shaped (.list known) = true) {n : Nat} (hn : n ≤ 63) (a0 a1 a2 a3 a4 a5 a6 a7 a8 a9 : Option Sl) : ∀ (bs : List PyData) (x11 : Option Sl), (∀ b ∈ bs, isForm b = true ∧ Fine n b) →
    ∃ ρ, forGo (gN 11) frBody bs [a0, a1, a2, a3, a4, a5, a6, a7, a8, a9, some (.dat (.list known)), x11, none, none] = some (if bs.any (freeB known) then .rt (.str "free") ρ else .nx [a0, a1, a2, a3, a4, a5, a6, a7, a8, a9, some (.dat (.list known)), (match bs.getLast? with
      | some b => some (.dat b)
      | none => x11), none, none])
  | [], x11, _ => ⟨[], rfl⟩
  | b :: bs, x11, h => by
    obtain ⟨hb, hfb⟩ := h b (List.mem_cons_self ..)
    obtain ⟨rs, rfl, h3, hr, hl⟩ := form_tup hb
    obtain ⟨_, m, rfl, ha⟩ := fine_tl hfb
    obtain ⟨ρ, e⟩ := fr_go known hs hn a0 a1 a2 a3 a4 a5 a6 a7 a8 a9 bs (some (.dat (.tuple rs))) fun x hx => h x (List.mem_cons_of_mem _ hx)
    have hz : rs.length ≤ sizeLine := size_ok (by omega)
    have hx : fIn true (.str "x") (.list known) = some (.bool (!isIn (.str "x") known)) := fInL true (by decide +kernel) hs
    have hy : fIn true (.str "y") (.list known) = some (.bool (!isIn (.str "y") known)) := fInL true (by decide +kernel) hs
    have hgo : lcGo (gN 13) (DL.tB (o2 fGt (oC fLen (aCons (vD 13) aNil)) (cD (.int 1)))) (vD 13) [a0, a1, a2, a3, a4, a5, a6, a7, a8, a9, some (.dat (.list known)), some (.dat (.tuple rs)), none, none] rs = some ((rs.filter row0).map fun d => d) := lcGo_filter (fun d hd => by
        obtain ⟨cs, rfl, hc⟩ := row_tup (hr d hd)
        simp only [runP, startR, sRet, sRetL, sSeq, sIf, sNil, sSet, oAnd, oOr, oNot, oIf, o1, o2, vD, cD, tB, tV, tNot, tAnd, tOr, aNil, aCons, oC, lD, iD, List.length_cons, List.length_nil, List.map_cons, List.map_nil, List.replicate, List.append_nil, List.cons_append, List.nil_append, List.getElem?_cons_zero, List.getElem?_cons_succ, List.set_cons_zero, List.set_cons_succ, List.set_nil, Option.bind_some, Option.bind_none, Option.map_some, Option.map_none, Nat.zero_add, Nat.reduceAdd, Nat.reduceSub, if_true, if_false, Bool.false_eq_true, reduceCtorEq, Bool.not_true, Bool.not_false, isi_tuple, isi_list, isi_str, isi_int, isi_bool, tyName, beq_self_eq_true, tr_b, tr_t, tr_l, fAdd_i, fSub_i, fLt_i, fLe_i, fGt_i, fGe_i, fNeg_i, fAbs_i, fLen_l, fLen_t, fIsN_n, fNotN_n, fInt_b, fIx_t, fIx_l, items_t, items_l, lLc, wipeR, Bool.not_not, Bool.and_true, Bool.true_and, Bool.and_false, Bool.false_and, Bool.or_true, Bool.true_or, Bool.or_false, Bool.false_or, row0]
        congr 1
        rw [Bool.eq_iff_iff, decide_eq_true_eq, decide_eq_true_eq]
        omega) (fun d hd _ => rfl)
    rw [List.map_id'] at hgo
    have hs2 : SeqAt.shaped (.list (rs.filter row0)) = true := shapedL (fun d hd => ha d (List.mem_filter.mp hd).1) (by omega)
    have hne : (!(rs.filter row0).isEmpty) = rs.any row0 := by
      rw [Bool.eq_iff_iff, List.any_eq_true, Bool.not_eq_true', List.isEmpty_eq_false_iff_exists_mem]
      exact ⟨fun ⟨x, hx⟩ => ⟨x, (List.mem_filter.mp hx).1, (List.mem_filter.mp hx).2⟩, fun ⟨x, h1, h2⟩ => ⟨x, List.mem_filter.mpr ⟨h1, h2⟩⟩⟩
    have e1 : decide ((1 : Int) < (rs.length : Int)) = decide (1 < rs.length) := by
      rw [Bool.eq_iff_iff, decide_eq_true_eq, decide_eq_true_eq]
      omega
    have eb : frBody [a0, a1, a2, a3, a4, a5, a6, a7, a8, a9, some (.dat (.list known)), some (.dat (.tuple rs)), none, none] = some (if freeB known (.tuple rs) then .rt (.str "free") [a0, a1, a2, a3, a4, a5, a6, a7, a8, a9, some (.dat (.list known)), some (.dat (.tuple rs)), none, none] else .nx [a0, a1, a2, a3, a4, a5, a6, a7, a8, a9, some (.dat (.list known)), some (.dat (.tuple rs)), none, none]) := by
      have t2 : DL.tAnd (DL.tB (o2 fNe (lD (lLc (iD (vD 11)) (gN 13) (DL.tB (o2 fGt (oC fLen (aCons (vD 13) aNil)) (cD (.int 1)))) (vD 13) [13])) (lD (lLst aNil)))) (DL.tB (o2 (fIn true) (cD (.str "x")) (vD 10))) [a0, a1, a2, a3, a4, a5, a6, a7, a8, a9, some (.dat (.list known)), some (.dat (.tuple rs)), none, none] = some (rs.any row0 && !isIn (.str "x") known) := by
        simp only [runP, startR, sRet, sRetL, sSeq, sIf, sNil, sSet, oAnd, oOr, oNot, oIf, o1, o2, vD, cD, tB, tV, tNot, tAnd, tOr, aNil, aCons, oC, lD, iD, List.length_cons, List.length_nil, List.map_cons, List.map_nil, List.replicate, List.append_nil, List.cons_append, List.nil_append, List.getElem?_cons_zero, List.getElem?_cons_succ, List.set_cons_zero, List.set_cons_succ, List.set_nil, Option.bind_some, Option.bind_none, Option.map_some, Option.map_none, Nat.zero_add, Nat.reduceAdd, Nat.reduceSub, if_true, if_false, Bool.false_eq_true, reduceCtorEq, Bool.not_true, Bool.not_false, isi_tuple, isi_list, isi_str, isi_int, isi_bool, tyName, beq_self_eq_true, tr_b, tr_t, tr_l, fAdd_i, fSub_i, fLt_i, fLe_i, fGt_i, fGe_i, fNeg_i, fAbs_i, fLen_l, fLen_t, fIsN_n, fNotN_n, fInt_b, fIx_t, fIx_l, items_t, items_l, lLc, wipeR, Bool.not_not, Bool.and_true, Bool.true_and, Bool.and_false, Bool.false_and, Bool.or_true, Bool.true_or, Bool.or_false, Bool.false_or, hz, hgo, lst_nil, fNe_of hs2 shaped_nil, eqv_ln, hne]
        cases rs.any row0 with
        | false => rfl
        | true => simp only [runP, startR, sRet, sRetL, sSeq, sIf, sNil, sSet, oAnd, oOr, oNot, oIf, o1, o2, vD, cD, tB, tV, tNot, tAnd, tOr, aNil, aCons, oC, lD, iD, List.length_cons, List.length_nil, List.map_cons, List.map_nil, List.replicate, List.append_nil, List.cons_append, List.nil_append, List.getElem?_cons_zero, List.getElem?_cons_succ, List.set_cons_zero, List.set_cons_succ, List.set_nil, Option.bind_some, Option.bind_none, Option.map_some, Option.map_none, Nat.zero_add, Nat.reduceAdd, Nat.reduceSub, if_true, if_false, Bool.false_eq_true, reduceCtorEq, Bool.not_true, Bool.not_false, isi_tuple, isi_list, isi_str, isi_int, isi_bool, tyName, beq_self_eq_true, tr_b, tr_t, tr_l, fAdd_i, fSub_i, fLt_i, fLe_i, fGt_i, fGe_i, fNeg_i, fAbs_i, fLen_l, fLen_t, fIsN_n, fNotN_n, fInt_b, fIx_t, fIx_l, items_t, items_l, lLc, wipeR, Bool.not_not, Bool.and_true, Bool.true_and, Bool.and_false, Bool.false_and, Bool.or_true, Bool.true_or, Bool.or_false, Bool.false_or, hx]
      have t1 : DL.tAnd (DL.tB (o2 fGt (oC fLen (aCons (vD 11) aNil)) (cD (.int 1)))) (DL.tB (o2 (fIn true) (cD (.str "y")) (vD 10))) [a0, a1, a2, a3, a4, a5, a6, a7, a8, a9, some (.dat (.list known)), some (.dat (.tuple rs)), none, none] = some (decide (1 < rs.length) && !isIn (.str "y") known) := by
        simp only [runP, startR, sRet, sRetL, sSeq, sIf, sNil, sSet, oAnd, oOr, oNot, oIf, o1, o2, vD, cD, tB, tV, tNot, tAnd, tOr, aNil, aCons, oC, lD, iD, List.length_cons, List.length_nil, List.map_cons, List.map_nil, List.replicate, List.append_nil, List.cons_append, List.nil_append, List.getElem?_cons_zero, List.getElem?_cons_succ, List.set_cons_zero, List.set_cons_succ, List.set_nil, Option.bind_some, Option.bind_none, Option.map_some, Option.map_none, Nat.zero_add, Nat.reduceAdd, Nat.reduceSub, if_true, if_false, Bool.false_eq_true, reduceCtorEq, Bool.not_true, Bool.not_false, isi_tuple, isi_list, isi_str, isi_int, isi_bool, tyName, beq_self_eq_true, tr_b, tr_t, tr_l, fAdd_i, fSub_i, fLt_i, fLe_i, fGt_i, fGe_i, fNeg_i, fAbs_i, fLen_l, fLen_t, fIsN_n, fNotN_n, fInt_b, fIx_t, fIx_l, items_t, items_l, lLc, wipeR, Bool.not_not, Bool.and_true, Bool.true_and, Bool.and_false, Bool.false_and, Bool.or_true, Bool.true_or, Bool.or_false, Bool.false_or, e1]
        cases decide (1 < rs.length) with
        | false => rfl
        | true => simp only [runP, startR, sRet, sRetL, sSeq, sIf, sNil, sSet, oAnd, oOr, oNot, oIf, o1, o2, vD, cD, tB, tV, tNot, tAnd, tOr, aNil, aCons, oC, lD, iD, List.length_cons, List.length_nil, List.map_cons, List.map_nil, List.replicate, List.append_nil, List.cons_append, List.nil_append, List.getElem?_cons_zero, List.getElem?_cons_succ, List.set_cons_zero, List.set_cons_succ, List.set_nil, Option.bind_some, Option.bind_none, Option.map_some, Option.map_none, Nat.zero_add, Nat.reduceAdd, Nat.reduceSub, if_true, if_false, Bool.false_eq_true, reduceCtorEq, Bool.not_true, Bool.not_false, isi_tuple, isi_list, isi_str, isi_int, isi_bool, tyName, beq_self_eq_true, tr_b, tr_t, tr_l, fAdd_i, fSub_i, fLt_i, fLe_i, fGt_i, fGe_i, fNeg_i, fAbs_i, fLen_l, fLen_t, fIsN_n, fNotN_n, fInt_b, fIx_t, fIx_l, items_t, items_l, lLc, wipeR, Bool.not_not, Bool.and_true, Bool.true_and, Bool.and_false, Bool.false_and, Bool.or_true, Bool.true_or, Bool.or_false, Bool.false_or, hy]
      have t : freeB known (.tuple rs) = ((decide (1 < rs.length) && !isIn (.str "y") known) || (rs.any row0 && !isIn (.str "x") known)) := by
        show ((rs.any row0 && !isIn (.str "x") known) || (decide (1 < rs.length) && !isIn (.str "y") known)) = _
        exact Bool.or_comm _ _
      rw [t]
      show (DL.tOr _ _ _).bind _ = _
      show Option.bind (Option.bind (DL.tAnd (DL.tB (o2 fGt (oC fLen (aCons (vD 11) aNil)) (cD (.int 1)))) (DL.tB (o2 (fIn true) (cD (.str "y")) (vD 10))) [a0, a1, a2, a3, a4, a5, a6, a7, a8, a9, some (.dat (.list known)), some (.dat (.tuple rs)), none, none]) _) _ = _
      rw [t1]
      cases (decide (1 < rs.length) && !isIn (.str "y") known) with
      | true => rfl
      | false =>
        show Option.bind (DL.tAnd (DL.tB (o2 fNe (lD (lLc (iD (vD 11)) (gN 13) (DL.tB (o2 fGt (oC fLen (aCons (vD 13) aNil)) (cD (.int 1)))) (vD 13) [13])) (lD (lLst aNil)))) (DL.tB (o2 (fIn true) (cD (.str "x")) (vD 10))) [a0, a1, a2, a3, a4, a5, a6, a7, a8, a9, some (.dat (.list known)), some (.dat (.tuple rs)), none, none]) _ = _
        rw [t2]
        cases (rs.any row0 && !isIn (.str "x") known) <;> rfl
    show ∃ ρ, Option.bind (frBody [a0, a1, a2, a3, a4, a5, a6, a7, a8, a9, some (.dat (.list known)), some (.dat (.tuple rs)), none, none]) _ = _
    rw [eb, List.any_cons]
    cases freeB known (.tuple rs) with
    | true => exact ⟨_, rfl⟩
    | false =>
      refine ⟨ρ, e.trans ?_⟩
      rw [Bool.false_or]
      cases bs with
      | nil => rfl
      | cons b' bs' => rfl
theorem due_eq (v : PyData) (hf : Fine 64 v) : F__law_due [v] = some (.str ((faultS v).getD "")) := by
  cases v with
  | tuple cs =>
    obtain ⟨_, m, hm, ha⟩ := fine_tl hf
    match cs, ha with
    | [], _ => rfl
    | [a], _ => rfl
    | [q, f], ha =>
      have hm63 : m = 63 := by omega
      subst hm63
      have hq := ha q (by simp)
      have hff := ha f (by simp)
      have sq := hq.shaped (by omega)
      have hwn : ∀ {d : PyData}, (∀ ds, d ≠ .list ds) → isIn d wholeL = false := fun {d} hd => by
        cases h : isIn d wholeL with
        | false => rfl
        | true =>
          obtain ⟨ds', e, _⟩ := whole_unk _ ((in_whole d).mp h)
          exact absurd e (hd ds')
      cases q with
      | list ds =>
        simp only [F__law_due, du_split, sSeq, sIf, runP, startR, List.length_cons, List.length_nil, List.map_cons, List.map_nil, if_true, List.replicate, List.append_nil, List.cons_append, List.nil_append, Nat.zero_add, Nat.reduceAdd, Nat.reduceSub, DL.tOr, DL.tNot, DL.tB, tV, o1, o2, oC, aCons, aNil, vD, cD, List.getElem?_cons_zero, Option.bind_some, Option.map_some, isi_tuple, tyName, beq_self_eq_true, tr_b, Bool.not_true, Bool.false_eq_true, if_false, fLen_t, show (((2 : Nat) : Int) == (2 : Int)) = true by decide, fNe_ii, fIx_t, atI_0, isi_list, sNil, sSet, lD, lst_nil, List.set_cons_succ, List.set_cons_zero, wh_eq, List.getElem?_cons_succ, fInL true sq sh_whole]
        cases hw : isIn (.list ds) wholeL with
        | false => rw [fs_form hw]; rfl
        | true =>
          have hz1 : 1 ≤ sizeLine := size_ok (by decide)
          obtain ⟨ds', e0, hd1, _, hd2⟩ := whole_unk _ ((in_whole _).mp hw)
          cases e0
          have hlv := lv_go (n := 63) (by omega) (some (.dat (.tuple [.list ds, f]))) (some (.dat (.list wholeL))) (some (.dat (.str "all"))) [none, none, none, none, none] 20 [f] 0 none none none none (fun x hx => by rw [List.mem_singleton.mp hx]; exact hff) (by simp) (by omega)
          have hr : iR1 (aCons (cD (.int 22)) aNil) = fun _ => some (rng 0 22) := by
            funext ρ
            have h22 : iR1 (aCons (cD (.int 22)) aNil) ρ = some (intsD 0 22) := rfl
            rw [h22, rng22]
          simp only [Bool.not_true, if_true, Bool.false_eq_true, if_false, Option.bind_some, atI_1, lLst, hz1, List.length_singleton, Option.map_some, sFor, hr, aNil, aCons, fIx_t, o2, vD, cD, List.getElem?_cons_zero, List.set_cons_succ, List.set_cons_zero, List.length_nil, List.length_cons, Nat.zero_add]
          cases hg : goS 20 0 [f] with
          | some s =>
            rw [hg] at hlv
            obtain ⟨ρ, e⟩ := hlv
            have e' : forGo (gN 5) lvBody (rng 0 22) [some (.dat (.tuple [.list ds, f])), some (.dat (.list wholeL)), some (.dat (.str "all")), some (.dat (.list [f])), some (.dat (.int 0)), none, none, none, none, none, none, none, none, none] = some (.rt (.str s) ρ) := e
            simp only [e']
            rw [fs_lv hw hg]
            rfl
          | none =>
            rw [hg] at hlv
            obtain ⟨y3, y4, y5, y6, y7, y8, e⟩ := hlv
            have e' : forGo (gN 5) lvBody (rng 0 22) [some (.dat (.tuple [.list ds, f])), some (.dat (.list wholeL)), some (.dat (.str "all")), some (.dat (.list [f])), some (.dat (.int 0)), none, none, none, none, none, none, none, none, none] = some (.nx [some (.dat (.tuple [.list ds, f])), some (.dat (.list wholeL)), some (.dat (.str "all")), y3, y4, y5, y6, y7, y8, none, none, none, none, none]) := e
            obtain ⟨ho, hz⟩ := pass_ok hg
            have e3 := lforms_eq f hff (by omega) ho hz
            have hok := formsOf_ok hff ho
            have hl := formsOf_len ho hz
            have hall := List.all_eq_true.mp hd1
            have hz2 : ds.length ≤ sizeLine := size_ok (by omega)
            have hgo : lcGo (gN 12) tYesD (o2 fIx (vD 12) (cD (.int 1))) [some (.dat (.tuple [.list ds, f])), some (.dat (.list wholeL)), some (.dat (.str "all")), y3, y4, y5, y6, y7, y8, some (.dat (.list (formsOf f))), none, none, none, none] ds = some (ds.map snd2) := lcGo_map fun d hd => by
              obtain ⟨a, b, e2, _⟩ := isQ_pair (hall d hd)
              subst e2
              simp only [runP, startR, sRet, sRetL, sSeq, sIf, sNil, sSet, oAnd, oOr, oNot, oIf, o1, o2, vD, cD, tB, tV, tNot, tAnd, tOr, aNil, aCons, oC, lD, iD, List.length_cons, List.length_nil, List.map_cons, List.map_nil, List.replicate, List.append_nil, List.cons_append, List.nil_append, List.getElem?_cons_zero, List.getElem?_cons_succ, List.set_cons_zero, List.set_cons_succ, List.set_nil, Option.bind_some, Option.bind_none, Option.map_some, Option.map_none, Nat.zero_add, Nat.reduceAdd, Nat.reduceSub, if_true, if_false, Bool.false_eq_true, reduceCtorEq, Bool.not_true, Bool.not_false, isi_tuple, isi_list, isi_str, isi_int, isi_bool, tyName, beq_self_eq_true, tr_b, tr_t, tr_l, fAdd_i, fSub_i, fLt_i, fLe_i, fGt_i, fGe_i, fNeg_i, fAbs_i, fLen_l, fLen_t, fIsN_n, fNotN_n, fInt_b, fIx_t, fIx_l, items_t, items_l, lLc, wipeR, Bool.not_not, Bool.and_true, Bool.true_and, Bool.and_false, Bool.false_and, Bool.or_true, Bool.true_or, Bool.or_false, Bool.false_or, qt, snd2, atI_1]
            have hs : SeqAt.shaped (.list (ds.map snd2)) = true := shapedL (n := 0) (fun d hd => by
              obtain ⟨x, hx, e⟩ := List.mem_map.mp hd
              obtain ⟨a, b, e2, _, hb⟩ := isQ_pair (hall x hx)
              subst e2
              subst e
              show Fine 0 (.str b)
              rcases hb with rfl | rfl <;> exact .str (by decide +kernel) (by decide +kernel)) (by omega)
            obtain ⟨ρ, e4⟩ := fr_go (ds.map snd2) hs (n := 63) (by omega) (some (.dat (.tuple [.list ds, f]))) (some (.dat (.list wholeL))) (some (.dat (.str "all"))) y3 y4 y5 y6 y7 y8 (some (.dat (.list (formsOf f)))) (formsOf f) none hok
            simp only [e', Option.bind_some, sSet, oC, aCons, aNil, o2, vD, cD, List.getElem?_cons_zero, fIx_t, atI_0, atI_1, e3, Option.map_some, List.set_cons_succ, List.set_cons_zero, lD, lLc, iD, items_l, hz2, if_true, wipeR, sFor, List.getElem?_cons_succ]
            simp only [hgo, Option.map_some, Option.bind_some, List.getElem?_cons_succ, List.getElem?_cons_zero, items_l, e4]
            cases hfr : (formsOf f).any (freeB (ds.map snd2)) with
            | true => rw [fs_free hw hg hfr]; rfl
            | false =>
              simp only [Bool.false_eq_true, if_false, Option.bind_some, sRet, o2, lD, oC, aCons, aNil, vD, cD, List.getElem?_cons_succ, List.getElem?_cons_zero, Option.map_some, fLen_l, fGt_i, fInt_b, gt2]
              by_cases h2 : 2 < (formsOf f).length
              · rw [fs_large hw hg hfr h2]
                simp only [decide_eq_true h2]
                rfl
              · rw [fs_ok hw hg hfr h2]
                simp only [decide_eq_false h2]
                rfl
      | tuple z => rw [fs_form (hwn fun ds e => by cases e)]; rfl
      | none => rw [fs_form (hwn fun ds e => by cases e)]; rfl
      | bool z => rw [fs_form (hwn fun ds e => by cases e)]; rfl
      | int z => rw [fs_form (hwn fun ds e => by cases e)]; rfl
      | str z => rw [fs_form (hwn fun ds e => by cases e)]; rfl
      | dict z => cases hq
    | a :: b :: c :: r, _ =>
      have h6 : (((r.length + 1 + 1 + 1 : Nat) : Int) == (2 : Int)) = false := by
        rw [beq_eq_false_iff_ne]
        omega
      simp only [F__law_due, du_split, runP, startR, sRet, sRetL, sSeq, sIf, sNil, sSet, oAnd, oOr, oNot, oIf, o1, o2, vD, cD, tB, tV, tNot, tAnd, tOr, aNil, aCons, oC, lD, iD, List.length_cons, List.length_nil, List.map_cons, List.map_nil, List.replicate, List.append_nil, List.cons_append, List.nil_append, List.getElem?_cons_zero, List.getElem?_cons_succ, List.set_cons_zero, List.set_cons_succ, List.set_nil, Option.bind_some, Option.bind_none, Option.map_some, Option.map_none, Nat.zero_add, Nat.reduceAdd, Nat.reduceSub, if_true, if_false, Bool.false_eq_true, reduceCtorEq, Bool.not_true, Bool.not_false, isi_tuple, isi_list, isi_str, isi_int, isi_bool, tyName, beq_self_eq_true, tr_b, tr_t, tr_l, fAdd_i, fSub_i, fLt_i, fLe_i, fGt_i, fGe_i, fNeg_i, fAbs_i, fLen_l, fLen_t, fIsN_n, fNotN_n, fInt_b, fIx_t, fIx_l, items_t, items_l, lLc, wipeR, Bool.not_not, Bool.and_true, Bool.true_and, Bool.and_false, Bool.false_and, Bool.or_true, Bool.true_or, Bool.or_false, Bool.false_or, fNe_ii, h6, faultS, Option.getD_some]
  | _ => simp only [F__law_due, du_split, runP, startR, sRet, sRetL, sSeq, sIf, sNil, sSet, oAnd, oOr, oNot, oIf, o1, o2, vD, cD, tB, tV, tNot, tAnd, tOr, aNil, aCons, oC, lD, iD, List.length_cons, List.length_nil, List.map_cons, List.map_nil, List.replicate, List.append_nil, List.cons_append, List.nil_append, List.getElem?_cons_zero, List.getElem?_cons_succ, List.set_cons_zero, List.set_cons_succ, List.set_nil, Option.bind_some, Option.bind_none, Option.map_some, Option.map_none, Nat.zero_add, Nat.reduceAdd, Nat.reduceSub, if_true, if_false, Bool.false_eq_true, reduceCtorEq, Bool.not_true, Bool.not_false, isi_tuple, isi_list, isi_str, isi_int, isi_bool, tyName, beq_self_eq_true, tr_b, tr_t, tr_l, fAdd_i, fSub_i, fLt_i, fLe_i, fGt_i, fGe_i, fNeg_i, fAbs_i, fLen_l, fLen_t, fIsN_n, fNotN_n, fInt_b, fIx_t, fIx_l, items_t, items_l, lLc, wipeR, Bool.not_not, Bool.and_true, Bool.true_and, Bool.and_false, Bool.false_and, Bool.or_true, Bool.true_or, Bool.or_false, Bool.false_or, faultS] <;> rfl
end K77

set_option Elab.async false
set_option linter.all false
set_option maxRecDepth 100000
set_option maxHeartbeats 4000000
/-! M13: copies; the drawn numbers; grids. -/
namespace K77
open PySem DL
open L2 (atI ixN)
theorem copied_eq : ∀ (n m : Nat) (v : PyData), Fine n v → n < m → F__law_copied m [v] = some v
  | n, 0, v, hf, hm => absurd hm (Nat.not_lt_zero n)
  | n, m + 1, v, hf, hm => by
    cases v with
    | list ds =>
      obtain ⟨hz, k, rfl, ha⟩ := fine_ll hf
      have hz1 : ds.length ≤ sizeLine := size_ok (by omega)
      have hgo : lcGo (gN 1) tYesD (oC (F__law_copied m) (aCons (vD 1) aNil)) [some (.dat (.list ds)), none] ds = some (ds.map fun d => d) := lcGo_map fun d hd => by
        have e := copied_eq k m d (ha d hd) (by omega)
        simp only [runP, startR, sRet, sRetL, sSeq, sIf, sNil, sSet, oAnd, oOr, oNot, oIf, o1, o2, vD, cD, tB, tV, tNot, tAnd, tOr, aNil, aCons, oC, lD, iD, List.length_cons, List.length_nil, List.map_cons, List.map_nil, List.replicate, List.append_nil, List.cons_append, List.nil_append, List.getElem?_cons_zero, List.getElem?_cons_succ, List.set_cons_zero, List.set_cons_succ, List.set_nil, Option.bind_some, Option.bind_none, Option.map_some, Option.map_none, Nat.zero_add, Nat.reduceAdd, Nat.reduceSub, if_true, if_false, Bool.false_eq_true, reduceCtorEq, Bool.not_true, Bool.not_false, isi_tuple, isi_list, isi_str, isi_int, isi_bool, tyName, beq_self_eq_true, tr_b, tr_t, tr_l, fAdd_i, fSub_i, fLt_i, fLe_i, fGt_i, fGe_i, fNeg_i, fAbs_i, fLen_l, fLen_t, fIsN_n, fNotN_n, fInt_b, fIx_t, fIx_l, items_t, items_l, lLc, wipeR, Bool.not_not, Bool.and_true, Bool.true_and, Bool.and_false, Bool.false_and, Bool.or_true, Bool.true_or, Bool.or_false, Bool.false_or, e]
      rw [List.map_id'] at hgo
      simp only [F__law_copied, runP, startR, sRet, sRetL, sSeq, sIf, sNil, sSet, oAnd, oOr, oNot, oIf, o1, o2, vD, cD, tB, tV, tNot, tAnd, tOr, aNil, aCons, oC, lD, iD, List.length_cons, List.length_nil, List.map_cons, List.map_nil, List.replicate, List.append_nil, List.cons_append, List.nil_append, List.getElem?_cons_zero, List.getElem?_cons_succ, List.set_cons_zero, List.set_cons_succ, List.set_nil, Option.bind_some, Option.bind_none, Option.map_some, Option.map_none, Nat.zero_add, Nat.reduceAdd, Nat.reduceSub, if_true, if_false, Bool.false_eq_true, reduceCtorEq, Bool.not_true, Bool.not_false, isi_tuple, isi_list, isi_str, isi_int, isi_bool, tyName, beq_self_eq_true, tr_b, tr_t, tr_l, fAdd_i, fSub_i, fLt_i, fLe_i, fGt_i, fGe_i, fNeg_i, fAbs_i, fLen_l, fLen_t, fIsN_n, fNotN_n, fInt_b, fIx_t, fIx_l, items_t, items_l, lLc, wipeR, Bool.not_not, Bool.and_true, Bool.true_and, Bool.and_false, Bool.false_and, Bool.or_true, Bool.true_or, Bool.or_false, Bool.false_or, hz1, hgo]
    | tuple ds =>
      obtain ⟨hz, k, rfl, ha⟩ := fine_tl hf
      have hz1 : ds.length ≤ sizeLine := size_ok (by omega)
      have hgo : lcGo (gN 1) tYesD (oC (F__law_copied m) (aCons (vD 1) aNil)) [some (.dat (.tuple ds)), none] ds = some (ds.map fun d => d) := lcGo_map fun d hd => by
        have e := copied_eq k m d (ha d hd) (by omega)
        simp only [runP, startR, sRet, sRetL, sSeq, sIf, sNil, sSet, oAnd, oOr, oNot, oIf, o1, o2, vD, cD, tB, tV, tNot, tAnd, tOr, aNil, aCons, oC, lD, iD, List.length_cons, List.length_nil, List.map_cons, List.map_nil, List.replicate, List.append_nil, List.cons_append, List.nil_append, List.getElem?_cons_zero, List.getElem?_cons_succ, List.set_cons_zero, List.set_cons_succ, List.set_nil, Option.bind_some, Option.bind_none, Option.map_some, Option.map_none, Nat.zero_add, Nat.reduceAdd, Nat.reduceSub, if_true, if_false, Bool.false_eq_true, reduceCtorEq, Bool.not_true, Bool.not_false, isi_tuple, isi_list, isi_str, isi_int, isi_bool, tyName, beq_self_eq_true, tr_b, tr_t, tr_l, fAdd_i, fSub_i, fLt_i, fLe_i, fGt_i, fGe_i, fNeg_i, fAbs_i, fLen_l, fLen_t, fIsN_n, fNotN_n, fInt_b, fIx_t, fIx_l, items_t, items_l, lLc, wipeR, Bool.not_not, Bool.and_true, Bool.true_and, Bool.and_false, Bool.false_and, Bool.or_true, Bool.true_or, Bool.or_false, Bool.false_or, e]
      rw [List.map_id'] at hgo
      simp only [F__law_copied, runP, startR, sRet, sRetL, sSeq, sIf, sNil, sSet, oAnd, oOr, oNot, oIf, o1, o2, vD, cD, tB, tV, tNot, tAnd, tOr, aNil, aCons, oC, lD, iD, List.length_cons, List.length_nil, List.map_cons, List.map_nil, List.replicate, List.append_nil, List.cons_append, List.nil_append, List.getElem?_cons_zero, List.getElem?_cons_succ, List.set_cons_zero, List.set_cons_succ, List.set_nil, Option.bind_some, Option.bind_none, Option.map_some, Option.map_none, Nat.zero_add, Nat.reduceAdd, Nat.reduceSub, if_true, if_false, Bool.false_eq_true, reduceCtorEq, Bool.not_true, Bool.not_false, isi_tuple, isi_list, isi_str, isi_int, isi_bool, tyName, beq_self_eq_true, tr_b, tr_t, tr_l, fAdd_i, fSub_i, fLt_i, fLe_i, fGt_i, fGe_i, fNeg_i, fAbs_i, fLen_l, fLen_t, fIsN_n, fNotN_n, fInt_b, fIx_t, fIx_l, items_t, items_l, lLc, wipeR, Bool.not_not, Bool.and_true, Bool.true_and, Bool.and_false, Bool.false_and, Bool.or_true, Bool.true_or, Bool.or_false, Bool.false_or, hz1, hgo, oTuple, show ("tuple" == "list") = false by decide]
    | _ => simp only [F__law_copied, runP, startR, sRet, sRetL, sSeq, sIf, sNil, sSet, oAnd, oOr, oNot, oIf, o1, o2, vD, cD, tB, tV, tNot, tAnd, tOr, aNil, aCons, oC, lD, iD, List.length_cons, List.length_nil, List.map_cons, List.map_nil, List.replicate, List.append_nil, List.cons_append, List.nil_append, List.getElem?_cons_zero, List.getElem?_cons_succ, List.set_cons_zero, List.set_cons_succ, List.set_nil, Option.bind_some, Option.bind_none, Option.map_some, Option.map_none, Nat.zero_add, Nat.reduceAdd, Nat.reduceSub, if_true, if_false, Bool.false_eq_true, reduceCtorEq, Bool.not_true, Bool.not_false, isi_tuple, isi_list, isi_str, isi_int, isi_bool, tyName, beq_self_eq_true, tr_b, tr_t, tr_l, fAdd_i, fSub_i, fLt_i, fLe_i, fGt_i, fGe_i, fNeg_i, fAbs_i, fLen_l, fLen_t, fIsN_n, fNotN_n, fInt_b, fIx_t, fIx_l, items_t, items_l, lLc, wipeR, Bool.not_not, Bool.and_true, Bool.true_and, Bool.and_false, Bool.false_and, Bool.or_true, Bool.true_or, Bool.or_false, Bool.false_or] <;> rfl
/-! ### numbers -/
def InN (lo hi : Int) (y : PyData) : Prop := ∃ i : Int, y = .int i ∧ lo ≤ i ∧ i ≤ hi
theorem rng_intsD : ∀ (m i : Nat), rng i m = intsD (i : Int) m
  | 0, i => rfl
  | m + 1, i => by
    have ih := rng_intsD m (i + 1)
    unfold intsD at ih ⊢
    rw [List.range_succ_eq_map, List.map_cons, List.map_map]
    show PyData.int (i : Int) :: rng (i + 1) m = _
    rw [ih]
    refine congr (congrArg List.cons ?_) ?_
    · show PyData.int (i : Int) = PyData.int ((i : Int) + ((0 : Nat) : Int))
      simp
    · refine List.map_congr_left fun k _ => ?_
      show PyData.int (((i + 1 : Nat) : Int) + (k : Int)) = PyData.int ((i : Int) + ((k + 1 : Nat) : Int))
      congr 1
      omega
theorem iR1_j {r : DLs} {ρ : Rho} {j : Int} (h : r ρ = some [.int j]) (hj : -(2 ^ 62) ≤ j ∧ j < 2 ^ 62) : iR1 r ρ = some (intsD 0 j.toNat) := by
  simp only [iR1, h, Option.bind_some]
  rw [if_pos hj]
theorem j62 (m : Nat) (hm : m ≤ 1000) : -(2 ^ 62) ≤ (m : Int) ∧ (m : Int) < 2 ^ 62 := by
  constructor
  · have : (0 : Int) ≤ (m : Int) := Int.natCast_nonneg m
    exact Int.le_trans (by decide) this
  · have : (m : Int) ≤ 1000 := by omega
    exact Int.lt_of_le_of_lt this (by decide)
theorem iR1_rng {r : DLs} {ρ : Rho} {m : Nat} (h : r ρ = some [.int (m : Int)]) (hm : m ≤ 1000) : iR1 r ρ = some (rng 0 m) := by
  rw [iR1_j h (j62 m hm), Int.toNat_natCast, rng_intsD]
  rfl
theorem seq_nx {A B : DSt} {ρ ρ1 : Rho} (h : A ρ = some (.nx ρ1)) : sSeq A B ρ = B ρ1 := by
  unfold sSeq
  rw [h]
  rfl
theorem mul_l {i j : Int} (h : -(2 ^ 64) < i ∧ i < 2 ^ 64) : fMul (.int i) (.int j) = some (.int (i * j)) := by
  have e : mulOk i j = true := by
    unfold mulOk
    rw [decide_eq_true h, Bool.true_or]
  unfold fMul
  simp only [e, if_true]
theorem mul_r {i j : Int} (h : -(2 ^ 64) < j ∧ j < 2 ^ 64) : fMul (.int i) (.int j) = some (.int (i * j)) := by
  have e : mulOk i j = true := by
    unfold mulOk
    rw [decide_eq_true h, Bool.or_true]
  unfold fMul
  simp only [e, if_true]
theorem mod_p {i j : Int} (h : 0 < j) : fMod (.int i) (.int j) = some (.int (i % j)) := by
  unfold fMod
  simp only [h, if_true]
theorem div_p {i j : Int} (h : 0 < j ∧ j < 1073741824) : fDiv (.int i) (.int j) = some (.int (i / j)) := by
  unfold fDiv
  simp only [h, and_self, if_true]
theorem pow18 : fPow (.int 10) (.int 18) = some (.int 1000000000000000000) := by
  have h : (0 : Int) ≤ 18 ∧ (18 : Int) ≤ 1000000 ∧ (10 : Int).natAbs < 2 ^ 64 := by decide
  simp only [fPow, if_pos h]
  rfl
def nuBody : DSt := (sIf (DL.tB (o2 fGe (vD 3) (o2 fPow (cD (.int 10)) (cD (.int 18)))))
      (sSeq (sApp 4 (o2 fMod (vD 3) (cD (.int 1009))))
      (sSet 3 (o2 fDiv (vD 3) (cD (.int 1009)))))
      (sSeq (sSet 6 (o2 fMod (o2 fAdd (o2 fAdd (o2 fMul (vD 3) (cD (.int 48271))) (o2 fMul (o2 fAdd (vD 5) (cD (.int 1))) (cD (.int 69621)))) (o2 fMul (vD 1) (cD (.int 4001)))) (cD (.int 2147483647))))
      (sSeq (sSet 6 (o2 fMod (o2 fAdd (o2 fMul (vD 6) (vD 6)) (o2 fMul (cD (.int 16807)) (o2 fAdd (vD 5) (cD (.int 3))))) (cD (.int 2147483629))))
      (sApp 4 (o2 fMod (o2 fDiv (vD 6) (cD (.int 7))) (cD (.int 1009)))))))
theorem nu_split : d__law_numbers = (sSeq (sSet 3 (o2 fMul (cD (.int 1000003)) (o2 fAdd (vD 1) (cD (.int 1)))))
  (sSeq (sIf (DL.tB (o2 fLt (vD 1) (oC fLen (aCons (vD 0) aNil))))
    (sSet 3 (oC fInt (aCons (o2 fIx (vD 0) (vD 1)) aNil)))
    sNil)
  (sSeq (sIf (DL.tB (o2 fLt (vD 3) (cD (.int 0))))
    (sSet 3 (o2 fSub (cD (.int 1)) (o2 fMul (cD (.int 2)) (vD 3))))
    sNil)
  (sSeq (sOwn 4 (lLst aNil))
  (sSeq (sFor (iR1 (aCons (vD 2) aNil)) (gN 5) nuBody)
  (sRetL (vO 4))))))) := rfl
theorem emod_in (i : Int) : InN 0 1008 (.int (i % 1009)) := ⟨_, rfl, Int.emod_nonneg _ (by omega), by have := Int.emod_lt_of_pos i (show (0 : Int) < 1009 by omega); omega⟩
theorem nu_step (v x2 x6 : Option Sl) (a cell k : Int) (acc : List PyData) (ha : acc.length ≤ 1000) : ∃ y cell' y6, InN 0 1008 y ∧ nuBody [v, some (.dat (.int a)), x2, some (.dat (.int cell)), some (.own acc), some (.dat (.int k)), x6] = some (.nx [v, some (.dat (.int a)), x2, some (.dat (.int cell')), some (.own (acc ++ [y])), some (.dat (.int k)), y6]) := by
  have hz : acc.length < sizeLine := Nat.lt_of_le_of_lt ha (small_lt (n := 999 + 0) (by omega) |> fun _ => by unfold sizeLine; decide)
  by_cases h : (1000000000000000000 : Int) ≤ cell
  · refine ⟨_, cell / 1009, x6, emod_in cell, ?_⟩
    simp only [nuBody, runP, startR, sRet, sRetL, sSeq, sIf, sNil, sSet, oAnd, oOr, oNot, oIf, o1, o2, vD, cD, tB, tV, tNot, tAnd, tOr, aNil, aCons, oC, lD, iD, List.length_cons, List.length_nil, List.map_cons, List.map_nil, List.replicate, List.append_nil, List.cons_append, List.nil_append, List.getElem?_cons_zero, List.getElem?_cons_succ, List.set_cons_zero, List.set_cons_succ, List.set_nil, Option.bind_some, Option.bind_none, Option.map_some, Option.map_none, Nat.zero_add, Nat.reduceAdd, Nat.reduceSub, if_true, if_false, Bool.false_eq_true, reduceCtorEq, Bool.not_true, Bool.not_false, isi_tuple, isi_list, isi_str, isi_int, isi_bool, tyName, beq_self_eq_true, tr_b, tr_t, tr_l, fAdd_i, fSub_i, fLt_i, fLe_i, fGt_i, fGe_i, fNeg_i, fAbs_i, fLen_l, fLen_t, fIsN_n, fNotN_n, fInt_b, fIx_t, fIx_l, items_t, items_l, lLc, wipeR, Bool.not_not, Bool.and_true, Bool.true_and, Bool.and_false, Bool.false_and, Bool.or_true, Bool.true_or, Bool.or_false, Bool.false_or, pow18, decide_eq_true h, sApp, vO, mod_p (show (0 : Int) < 1009 by omega), div_p (show (0 : Int) < 1009 ∧ (1009 : Int) < 1073741824 by omega), hz]
  · have hm1 : ∀ i : Int, -(2 ^ 64) < i % 2147483647 ∧ i % 2147483647 < 2 ^ 64 := fun i => by
      have := Int.emod_lt_of_pos i (show (0 : Int) < 2147483647 by omega)
      have := Int.emod_nonneg i (show (2147483647 : Int) ≠ 0 by omega)
      constructor <;> omega
    obtain ⟨m1, e1⟩ : ∃ m1, m1 = (cell * 48271 + (k + 1) * 69621 + a * 4001) % 2147483647 := ⟨_, rfl⟩
    have h1 : -(2 ^ 64) < m1 ∧ m1 < 2 ^ 64 := by rw [e1]; exact hm1 _
    refine ⟨_, cell, some (.dat (.int ((m1 * m1 + 16807 * (k + 3)) % 2147483629))), emod_in ((m1 * m1 + 16807 * (k + 3)) % 2147483629 / 7), ?_⟩
    simp only [nuBody, runP, startR, sRet, sRetL, sSeq, sIf, sNil, sSet, oAnd, oOr, oNot, oIf, o1, o2, vD, cD, tB, tV, tNot, tAnd, tOr, aNil, aCons, oC, lD, iD, List.length_cons, List.length_nil, List.map_cons, List.map_nil, List.replicate, List.append_nil, List.cons_append, List.nil_append, List.getElem?_cons_zero, List.getElem?_cons_succ, List.set_cons_zero, List.set_cons_succ, List.set_nil, Option.bind_some, Option.bind_none, Option.map_some, Option.map_none, Nat.zero_add, Nat.reduceAdd, Nat.reduceSub, if_true, if_false, Bool.false_eq_true, reduceCtorEq, Bool.not_true, Bool.not_false, isi_tuple, isi_list, isi_str, isi_int, isi_bool, tyName, beq_self_eq_true, tr_b, tr_t, tr_l, fAdd_i, fSub_i, fLt_i, fLe_i, fGt_i, fGe_i, fNeg_i, fAbs_i, fLen_l, fLen_t, fIsN_n, fNotN_n, fInt_b, fIx_t, fIx_l, items_t, items_l, lLc, wipeR, Bool.not_not, Bool.and_true, Bool.true_and, Bool.and_false, Bool.false_and, Bool.or_true, Bool.true_or, Bool.or_false, Bool.false_or, pow18, decide_eq_false h, sApp, vO, mul_r (show -(2 ^ 64) < (48271 : Int) ∧ (48271 : Int) < 2 ^ 64 by decide), mul_r (show -(2 ^ 64) < (69621 : Int) ∧ (69621 : Int) < 2 ^ 64 by decide), mul_r (show -(2 ^ 64) < (4001 : Int) ∧ (4001 : Int) < 2 ^ 64 by decide),
        mul_l (show -(2 ^ 64) < (16807 : Int) ∧ (16807 : Int) < 2 ^ 64 by decide), mod_p (show (0 : Int) < 2147483647 by omega), mod_p (show (0 : Int) < 2147483629 by omega), mod_p (show (0 : Int) < 1009 by omega), div_p (show (0 : Int) < 7 ∧ (7 : Int) < 1073741824 by omega), ← e1, mul_l h1, hz]
theorem nu_go (v x2 : Option Sl) (a : Int) : ∀ (m i : Nat) (cell : Int) (acc : List PyData) (x5 x6 : Option Sl), acc.length + m ≤ 1000 → ∃ ys cell' y5 y6, ys.length = m ∧ (∀ y ∈ ys, InN 0 1008 y) ∧
    forGo (gN 5) nuBody (rng i m) [v, some (.dat (.int a)), x2, some (.dat (.int cell)), some (.own acc), x5, x6] = some (.nx [v, some (.dat (.int a)), x2, some (.dat (.int cell')), some (.own (acc ++ ys)), y5, y6])
  | 0, i, cell, acc, x5, x6, h => ⟨[], cell, x5, x6, rfl, fun y hy => (by simp at hy), by rw [List.append_nil]; rfl⟩
  | m + 1, i, cell, acc, x5, x6, h => by
    obtain ⟨y, cell', y6, h1, e1⟩ := nu_step v x2 x6 a cell (i : Int) acc (by omega)
    obtain ⟨ys, cell2, z5, z6, h2, h3, e2⟩ := nu_go v x2 a m (i + 1) cell' (acc ++ [y]) (some (.dat (.int (i : Int)))) y6 (by rw [List.length_append, List.length_singleton]; omega)
    refine ⟨y :: ys, cell2, z5, z6, by rw [List.length_cons, h2], fun z hz => (List.mem_cons.mp hz).elim (fun e => by rw [e]; exact h1) (h3 z), ?_⟩
    have eg : forGo (gN 5) nuBody (rng i (m + 1)) [v, some (.dat (.int a)), x2, some (.dat (.int cell)), some (.own acc), x5, x6] = (nuBody [v, some (.dat (.int a)), x2, some (.dat (.int cell)), some (.own acc), some (.dat (.int (i : Int))), x6]).bind (fun o => match o with
          | .nx ρ2 => forGo (gN 5) nuBody (rng (i + 1) m) ρ2
          | .ct ρ2 => forGo (gN 5) nuBody (rng (i + 1) m) ρ2
          | .bk ρ2 => some (.nx ρ2)
          | .rt d r => some (.rt d r)
          | .rtL d => some (.rtL d)) := rfl
    rw [eg, e1]
    refine e2.trans ?_
    rw [List.append_assoc, List.singleton_append]
theorem nu_cell (ns : List Int) (a : Nat) (x2 : Option Sl) (c0 : Int) : ∃ c : Int, (sIf (DL.tB (o2 fLt (vD 1) (oC fLen (aCons (vD 0) aNil)))) (sSet 3 (oC fInt (aCons (o2 fIx (vD 0) (vD 1)) aNil))) sNil) [some (.dat (.list (ns.map PyData.int))), some (.dat (.int (a : Int))), x2, some (.dat (.int c0)), none, none, none] =
    some (.nx [some (.dat (.list (ns.map PyData.int))), some (.dat (.int (a : Int))), x2, some (.dat (.int c)), none, none, none]) := by
  by_cases hl : (a : Int) < ((ns.map PyData.int).length : Nat)
  · have hl' : a < (ns.map PyData.int).length := by omega
    have hx : ∃ c : Int, (ns.map PyData.int)[a]? = some (.int c) := by
      rw [List.getElem?_map, List.getElem?_eq_getElem (by rw [List.length_map] at hl'; exact hl')]
      exact ⟨_, rfl⟩
    obtain ⟨c, hx⟩ := hx
    have hi : fInt [.int c] = some (.int c) := rfl
    exact ⟨c, by simp only [runP, startR, sRet, sRetL, sSeq, sIf, sNil, sSet, oAnd, oOr, oNot, oIf, o1, o2, vD, cD, tB, tV, tNot, tAnd, tOr, aNil, aCons, oC, lD, iD, List.length_cons, List.length_nil, List.map_cons, List.map_nil, List.replicate, List.append_nil, List.cons_append, List.nil_append, List.getElem?_cons_zero, List.getElem?_cons_succ, List.set_cons_zero, List.set_cons_succ, List.set_nil, Option.bind_some, Option.bind_none, Option.map_some, Option.map_none, Nat.zero_add, Nat.reduceAdd, Nat.reduceSub, if_true, if_false, Bool.false_eq_true, reduceCtorEq, Bool.not_true, Bool.not_false, isi_tuple, isi_list, isi_str, isi_int, isi_bool, tyName, beq_self_eq_true, tr_b, tr_t, tr_l, fAdd_i, fSub_i, fLt_i, fLe_i, fGt_i, fGe_i, fNeg_i, fAbs_i, fLen_l, fLen_t, fIsN_n, fNotN_n, fInt_b, fIx_t, fIx_l, items_t, items_l, lLc, wipeR, Bool.not_not, Bool.and_true, Bool.true_and, Bool.and_false, Bool.false_and, Bool.or_true, Bool.true_or, Bool.or_false, Bool.false_or, decide_eq_true hl, atI_n, hx, hi]⟩
  · exact ⟨c0, by simp only [runP, startR, sRet, sRetL, sSeq, sIf, sNil, sSet, oAnd, oOr, oNot, oIf, o1, o2, vD, cD, tB, tV, tNot, tAnd, tOr, aNil, aCons, oC, lD, iD, List.length_cons, List.length_nil, List.map_cons, List.map_nil, List.replicate, List.append_nil, List.cons_append, List.nil_append, List.getElem?_cons_zero, List.getElem?_cons_succ, List.set_cons_zero, List.set_cons_succ, List.set_nil, Option.bind_some, Option.bind_none, Option.map_some, Option.map_none, Nat.zero_add, Nat.reduceAdd, Nat.reduceSub, if_true, if_false, Bool.false_eq_true, reduceCtorEq, Bool.not_true, Bool.not_false, isi_tuple, isi_list, isi_str, isi_int, isi_bool, tyName, beq_self_eq_true, tr_b, tr_t, tr_l, fAdd_i, fSub_i, fLt_i, fLe_i, fGt_i, fGe_i, fNeg_i, fAbs_i, fLen_l, fLen_t, fIsN_n, fNotN_n, fInt_b, fIx_t, fIx_l, items_t, items_l, lLc, wipeR, Bool.not_not, Bool.and_true, Bool.true_and, Bool.and_false, Bool.false_and, Bool.or_true, Bool.true_or, Bool.or_false, Bool.false_or, decide_eq_false hl]⟩
theorem nu_neg (v a x2 : Option Sl) (c : Int) : ∃ c' : Int, (sIf (DL.tB (o2 fLt (vD 3) (cD (.int 0)))) (sSet 3 (o2 fSub (cD (.int 1)) (o2 fMul (cD (.int 2)) (vD 3)))) sNil) [v, a, x2, some (.dat (.int c)), none, none, none] =
    some (.nx [v, a, x2, some (.dat (.int c')), none, none, none]) := by
  by_cases hc : c < 0
  · exact ⟨1 - 2 * c, by simp only [runP, startR, sRet, sRetL, sSeq, sIf, sNil, sSet, oAnd, oOr, oNot, oIf, o1, o2, vD, cD, tB, tV, tNot, tAnd, tOr, aNil, aCons, oC, lD, iD, List.length_cons, List.length_nil, List.map_cons, List.map_nil, List.replicate, List.append_nil, List.cons_append, List.nil_append, List.getElem?_cons_zero, List.getElem?_cons_succ, List.set_cons_zero, List.set_cons_succ, List.set_nil, Option.bind_some, Option.bind_none, Option.map_some, Option.map_none, Nat.zero_add, Nat.reduceAdd, Nat.reduceSub, if_true, if_false, Bool.false_eq_true, reduceCtorEq, Bool.not_true, Bool.not_false, isi_tuple, isi_list, isi_str, isi_int, isi_bool, tyName, beq_self_eq_true, tr_b, tr_t, tr_l, fAdd_i, fSub_i, fLt_i, fLe_i, fGt_i, fGe_i, fNeg_i, fAbs_i, fLen_l, fLen_t, fIsN_n, fNotN_n, fInt_b, fIx_t, fIx_l, items_t, items_l, lLc, wipeR, Bool.not_not, Bool.and_true, Bool.true_and, Bool.and_false, Bool.false_and, Bool.or_true, Bool.true_or, Bool.or_false, Bool.false_or, decide_eq_true hc, mul_l (show -(2 ^ 64) < (2 : Int) ∧ (2 : Int) < 2 ^ 64 by decide)]⟩
  · exact ⟨c, by simp only [runP, startR, sRet, sRetL, sSeq, sIf, sNil, sSet, oAnd, oOr, oNot, oIf, o1, o2, vD, cD, tB, tV, tNot, tAnd, tOr, aNil, aCons, oC, lD, iD, List.length_cons, List.length_nil, List.map_cons, List.map_nil, List.replicate, List.append_nil, List.cons_append, List.nil_append, List.getElem?_cons_zero, List.getElem?_cons_succ, List.set_cons_zero, List.set_cons_succ, List.set_nil, Option.bind_some, Option.bind_none, Option.map_some, Option.map_none, Nat.zero_add, Nat.reduceAdd, Nat.reduceSub, if_true, if_false, Bool.false_eq_true, reduceCtorEq, Bool.not_true, Bool.not_false, isi_tuple, isi_list, isi_str, isi_int, isi_bool, tyName, beq_self_eq_true, tr_b, tr_t, tr_l, fAdd_i, fSub_i, fLt_i, fLe_i, fGt_i, fGe_i, fNeg_i, fAbs_i, fLen_l, fLen_t, fIsN_n, fNotN_n, fInt_b, fIx_t, fIx_l, items_t, items_l, lLc, wipeR, Bool.not_not, Bool.and_true, Bool.true_and, Bool.and_false, Bool.false_and, Bool.or_true, Bool.true_or, Bool.or_false, Bool.false_or, decide_eq_false hc]⟩
theorem nu_first (v x2 : Option Sl) (a : Int) : sSet 3 (o2 fMul (cD (.int 1000003)) (o2 fAdd (vD 1) (cD (.int 1)))) [v, some (.dat (.int a)), x2, none, none, none, none] = some (.nx [v, some (.dat (.int a)), x2, some (.dat (.int (1000003 * (a + 1)))), none, none, none]) := by
  simp only [runP, startR, sRet, sRetL, sSeq, sIf, sNil, sSet, oAnd, oOr, oNot, oIf, o1, o2, vD, cD, tB, tV, tNot, tAnd, tOr, aNil, aCons, oC, lD, iD, List.length_cons, List.length_nil, List.map_cons, List.map_nil, List.replicate, List.append_nil, List.cons_append, List.nil_append, List.getElem?_cons_zero, List.getElem?_cons_succ, List.set_cons_zero, List.set_cons_succ, List.set_nil, Option.bind_some, Option.bind_none, Option.map_some, Option.map_none, Nat.zero_add, Nat.reduceAdd, Nat.reduceSub, if_true, if_false, Bool.false_eq_true, reduceCtorEq, Bool.not_true, Bool.not_false, isi_tuple, isi_list, isi_str, isi_int, isi_bool, tyName, beq_self_eq_true, tr_b, tr_t, tr_l, fAdd_i, fSub_i, fLt_i, fLe_i, fGt_i, fGe_i, fNeg_i, fAbs_i, fLen_l, fLen_t, fIsN_n, fNotN_n, fInt_b, fIx_t, fIx_l, items_t, items_l, lLc, wipeR, Bool.not_not, Bool.and_true, Bool.true_and, Bool.and_false, Bool.false_and, Bool.or_true, Bool.true_or, Bool.or_false, Bool.false_or, mul_l (show -(2 ^ 64) < (1000003 : Int) ∧ (1000003 : Int) < 2 ^ 64 by decide)]
theorem numbers_gen {vs : PyData} {a mm c1 cell cell' : Int} {y5 y6 : Option Sl} {ys : List PyData} {m : Nat}
    (e1 : (sIf (DL.tB (o2 fLt (vD 1) (oC fLen (aCons (vD 0) aNil)))) (sSet 3 (oC fInt (aCons (o2 fIx (vD 0) (vD 1)) aNil))) sNil) [some (.dat vs), some (.dat (.int a)), some (.dat (.int mm)), some (.dat (.int (1000003 * (a + 1)))), none, none, none] = some (.nx [some (.dat vs), some (.dat (.int a)), some (.dat (.int mm)), some (.dat (.int c1)), none, none, none]))
    (e2 : (sIf (DL.tB (o2 fLt (vD 3) (cD (.int 0)))) (sSet 3 (o2 fSub (cD (.int 1)) (o2 fMul (cD (.int 2)) (vD 3)))) sNil) [some (.dat vs), some (.dat (.int a)), some (.dat (.int mm)), some (.dat (.int c1)), none, none, none] = some (.nx [some (.dat vs), some (.dat (.int a)), some (.dat (.int mm)), some (.dat (.int cell)), none, none, none]))
    (hr : iR1 (aCons (vD 2) aNil) [some (.dat vs), some (.dat (.int a)), some (.dat (.int mm)), some (.dat (.int cell)), some (.own []), none, none] = some (rng 0 m))
    (e : forGo (gN 5) nuBody (rng 0 m) [some (.dat vs), some (.dat (.int a)), some (.dat (.int mm)), some (.dat (.int cell)), some (.own []), none, none] = some (.nx [some (.dat vs), some (.dat (.int a)), some (.dat (.int mm)), some (.dat (.int cell')), some (.own ([] ++ ys)), y5, y6])) :
    F__law_numbers [vs, .int a, .int mm] = some (.list ys) := by
  have e3 := nu_first (some (.dat vs)) (some (.dat (.int mm))) a
  have hst : startR 7 [vs, .int a, .int mm] = [some (.dat vs), some (.dat (.int a)), some (.dat (.int mm)), none, none, none, none] := rfl
  have hl3 : ([vs, .int a, .int mm] : List PyData).length = 3 := rfl
  have ho : sOwn 4 (lLst aNil) [some (.dat vs), some (.dat (.int a)), some (.dat (.int mm)), some (.dat (.int cell)), none, none, none] = some (.nx [some (.dat vs), some (.dat (.int a)), some (.dat (.int mm)), some (.dat (.int cell)), some (.own []), none, none]) := rfl
  have hf : sFor (iR1 (aCons (vD 2) aNil)) (gN 5) nuBody [some (.dat vs), some (.dat (.int a)), some (.dat (.int mm)), some (.dat (.int cell)), some (.own []), none, none] = some (.nx [some (.dat vs), some (.dat (.int a)), some (.dat (.int mm)), some (.dat (.int cell')), some (.own ([] ++ ys)), y5, y6]) := by
    unfold sFor
    rw [hr]
    exact e
  unfold F__law_numbers runP
  rw [if_pos hl3, nu_split, hst, seq_nx e3, seq_nx e1, seq_nx e2, seq_nx ho, seq_nx hf]
  rfl
theorem numbers_eq (ns : List Int) (a m : Nat) (hm : m ≤ 100) : ∃ ys, F__law_numbers [.list (ns.map PyData.int), .int (a : Int), .int (m : Int)] = some (.list ys) ∧ ys.length = m ∧ ∀ y ∈ ys, InN 0 1008 y := by
  obtain ⟨c1, e1⟩ := nu_cell ns a (some (.dat (.int (m : Int)))) (1000003 * ((a : Int) + 1))
  obtain ⟨cell, e2⟩ := nu_neg (some (.dat (.list (ns.map PyData.int)))) (some (.dat (.int (a : Int)))) (some (.dat (.int (m : Int)))) c1
  obtain ⟨ys, cell', y5, y6, h1, h2, e⟩ := nu_go (some (.dat (.list (ns.map PyData.int)))) (some (.dat (.int (m : Int)))) (a : Int) m 0 cell [] none none (by simp; omega)
  exact ⟨ys, numbers_gen e1 e2 (iR1_rng rfl (by omega)) e, h1, h2⟩
end K77

set_option Elab.async false
set_option linter.all false
set_option maxRecDepth 100000
set_option maxHeartbeats 4000000
/-! M14: grids and their forms. -/
namespace K77
open PySem DL
open L2 (atI ixN)
theorem lcGo_ex {i : Nat} {p : DE} {ρ : Rho} {P : PyData → Prop} : ∀ {ds : List PyData}, (∀ d ∈ ds, ∃ y, p (ρ.set i (some (.dat d))) = some y ∧ P y) → ∃ ys, lcGo (gN i) tYesD p ρ ds = some ys ∧ ys.length = ds.length ∧ ∀ y ∈ ys, P y
  | [], _ => ⟨[], rfl, rfl, fun y hy => (by simp at hy)⟩
  | d :: ds, h => by
    obtain ⟨y, e, hy⟩ := h d (List.mem_cons_self ..)
    obtain ⟨ys, e2, h2, h3⟩ := lcGo_ex fun x hx => h x (List.mem_cons_of_mem _ hx)
    refine ⟨y :: ys, ?_, by rw [List.length_cons, List.length_cons, h2], fun z hz => (List.mem_cons.mp hz).elim (fun q => by rw [q]; exact hy) (h3 z)⟩
    show (p (ρ.set i (some (.dat d)))).bind _ = _
    rw [e]
    show (lcGo (gN i) tYesD p ρ ds).map _ = _
    rw [e2]
    rfl
theorem mem_rng : ∀ {m i : Nat} {d : PyData}, d ∈ rng i m → ∃ j : Nat, d = .int (j : Int) ∧ i ≤ j ∧ j < i + m
  | 0, i, d, h => by simp [rng] at h
  | m + 1, i, d, h => by
    rcases List.mem_cons.mp h with rfl | h
    · exact ⟨i, rfl, Nat.le_refl _, by omega⟩
    · obtain ⟨j, e, h1, h2⟩ := mem_rng h
      exact ⟨j, e, by omega, by omega⟩
theorem rng_len : ∀ (m i : Nat), (rng i m).length = m
  | 0, _ => rfl
  | m + 1, i => by
    show (rng (i + 1) m).length + 1 = m + 1
    rw [rng_len m (i + 1)]
def IntL (n : Nat) (lo hi : Int) (l : List PyData) : Prop := l.length ≤ n ∧ ∀ y ∈ l, InN lo hi y
theorem InN.fine {lo hi : Int} {y : PyData} (h : InN lo hi y) {n : Nat} : Fine n y := by
  obtain ⟨i, rfl, _⟩ := h
  exact .int i
theorem IntL.shaped {n : Nat} {lo hi : Int} {l : List PyData} (h : IntL n lo hi l) : SeqAt.shaped (.list l) = true := shapedL (n := 0) (fun d hd => (h.2 d hd).fine) (by omega)
theorem get_in {l : List PyData} {P : PyData → Prop} (h : ∀ y ∈ l, P y) {j : Nat} (hj : j < l.length) : ∃ y, l[j]? = some y ∧ P y := ⟨l[j], List.getElem?_eq_getElem hj, h _ (List.getElem_mem hj)⟩
theorem atI_in {l : List PyData} {lo hi : Int} (h : ∀ y ∈ l, InN lo hi y) {j : Nat} (hj : j < l.length) : ∃ i : Int, atI l (j : Int) = some (.int i) ∧ lo ≤ i ∧ i ≤ hi := by
  obtain ⟨y, e, i, rfl, h1, h2⟩ := get_in h hj
  exact ⟨i, by rw [atI_n, e], h1, h2⟩
theorem nat_mod (i m : Int) (hm : 0 < m) : ∃ k : Nat, i % m = (k : Int) ∧ (k : Int) < m := by
  have h1 := Int.emod_nonneg i (Int.ne_of_gt hm)
  have h2 := Int.emod_lt_of_pos i hm
  exact ⟨(i % m).toNat, by omega, by omega⟩
/-- one comprehension of a grid -/
theorem gr_comp {nl : List PyData} (hl : nl.length = 12) (hn : ∀ y ∈ nl, InN 0 1008 y) (off : Nat) (ho : off ≤ 5) (s0 s1 s5 s6 : Option Sl) (xm ym : Int) (src : DLs) (q : DE) (k : Nat) (hk : k ≤ 2)
    (hsrc : src [s0, s1, some (.dat (.int xm)), some (.dat (.int ym)), some (.dat (.list nl)), s5, s6, none] = some (rng 0 k))
    (hq : ∀ j : Nat, q [s0, s1, some (.dat (.int xm)), some (.dat (.int ym)), some (.dat (.list nl)), s5, s6, some (.dat (.int (j : Int)))] = some (.int ((off + j : Nat) : Int))) :
    ∃ xs, IntL 2 (-4) 4 xs ∧ lLc src (gN 7) tYesD (o2 fSub (o2 fMod (o2 fIx (vD 4) q) (cD (.int 9))) (cD (.int 4))) [7] [s0, s1, some (.dat (.int xm)), some (.dat (.int ym)), some (.dat (.list nl)), s5, s6, none] = some xs := by
  obtain ⟨ys, e, h1, h2⟩ := lcGo_ex (i := 7) (p := o2 fSub (o2 fMod (o2 fIx (vD 4) q) (cD (.int 9))) (cD (.int 4))) (ρ := [s0, s1, some (.dat (.int xm)), some (.dat (.int ym)), some (.dat (.list nl)), s5, s6, none]) (P := InN (-4) 4) (ds := rng 0 k) fun d hd => by
    obtain ⟨j, rfl, _, hj⟩ := mem_rng hd
    obtain ⟨i, e, hi1, hi2⟩ := atI_in hn (show off + j < nl.length by omega)
    refine ⟨.int (i % 9 - 4), ?_, i % 9 - 4, rfl, by have := Int.emod_nonneg i (show (9 : Int) ≠ 0 by omega); omega, by have := Int.emod_lt_of_pos i (show (0 : Int) < 9 by omega); omega⟩
    have hq' := hq j
    simp only [o2, vD, cD, List.set_cons_succ, List.set_cons_zero, List.getElem?_cons_succ, List.getElem?_cons_zero, Option.bind_some, hq', fIx_l, e, mod_p (show (0 : Int) < 9 by omega), fSub_i]
  refine ⟨ys, ⟨by rw [h1, rng_len]; exact hk, h2⟩, ?_⟩
  have hz : (rng 0 k).length ≤ sizeLine := size_ok (by rw [rng_len]; omega)
  unfold lLc
  rw [hsrc]
  show (if _ then _ else _) = _
  rw [if_pos hz]
  exact e
def gIf : DSt := (sIf (DL.tAnd (DL.tB (o2 fEq (vD 5) (lD (lLst aNil)))) (DL.tB (o2 fEq (vD 6) (lD (lLst aNil)))))
    (sIf (DL.tB (o2 fGt (vD 2) (cD (.int 0))))
      (sSet 5 (lD (lLst (aCons (o2 fSub (o2 fMod (o2 fIx (vD 4) (cD (.int 4))) (cD (.int 9))) (cD (.int 4))) aNil))))
      (sSet 6 (lD (lLst (aCons (o2 fSub (o2 fMod (o2 fIx (vD 4) (cD (.int 4))) (cD (.int 9))) (cD (.int 4))) aNil)))))
    sNil)
def sgL : DLs := (lLst (aCons (cD (.int 1)) (aCons (o1 fNeg (cD (.int 1))) (aCons (cD (.int 2)) (aCons (o1 fNeg (cD (.int 3))) aNil)))))
theorem sgL_eq (ρ : Rho) : sgL ρ = some [.int 1, .int (-1), .int 2, .int (-3)] := rfl
def gRet : DSt := (sRet (oTup (aCons (vD 5) (aCons (vD 6) (aCons (o2 fIx (lD sgL) (o2 fMod (o2 fIx (vD 4) (cD (.int 5))) (cD (.int 4)))) aNil)))))
theorem gr_split : d__law_grid = (sSeq (sSet 4 (oC F__law_numbers (aCons (vD 0) (aCons (vD 1) (aCons (cD (.int 12)) aNil)))))
  (sSeq (sSet 5 (lD (lLc (iR1 (aCons (o2 fMod (o2 fIx (vD 4) (cD (.int 8))) (o2 fAdd (vD 2) (cD (.int 1)))) aNil)) (gN 7) tYesD (o2 fSub (o2 fMod (o2 fIx (vD 4) (vD 7)) (cD (.int 9))) (cD (.int 4))) [7])))
  (sSeq (sSet 6 (lD (lLc (iR1 (aCons (o2 fMod (o2 fIx (vD 4) (cD (.int 9))) (o2 fAdd (vD 3) (cD (.int 1)))) aNil)) (gN 7) tYesD (o2 fSub (o2 fMod (o2 fIx (vD 4) (o2 fAdd (cD (.int 2)) (vD 7))) (cD (.int 9))) (cD (.int 4))) [7])))
  (sSeq gIf gRet)))) := rfl
theorem gr_if {nl xs ys : List PyData} (hl : nl.length = 12) (hn : ∀ y ∈ nl, InN 0 1008 y) (hx : IntL 2 (-4) 4 xs) (hy : IntL 2 (-4) 4 ys) (s0 s1 s3 : Option Sl) : ∃ xs', IntL 2 (-4) 4 xs' ∧
    gIf [s0, s1, some (.dat (.int 2)), s3, some (.dat (.list nl)), some (.dat (.list xs)), some (.dat (.list ys)), none] = some (.nx [s0, s1, some (.dat (.int 2)), s3, some (.dat (.list nl)), some (.dat (.list xs')), some (.dat (.list ys)), none]) := by
  have h1 : fEq (.list xs) (.list []) = some (.bool xs.isEmpty) := by rw [fEq_of hx.shaped shaped_nil, eqv_ln]
  have h2 : fEq (.list ys) (.list []) = some (.bool ys.isEmpty) := by rw [fEq_of hy.shaped shaped_nil, eqv_ln]
  cases he : xs.isEmpty with
  | false => exact ⟨xs, hx, by simp only [gIf, runP, startR, sRet, sRetL, sSeq, sIf, sNil, sSet, oAnd, oOr, oNot, oIf, o1, o2, vD, cD, tB, tV, tNot, tAnd, tOr, aNil, aCons, oC, lD, iD, List.length_cons, List.length_nil, List.map_cons, List.map_nil, List.replicate, List.append_nil, List.cons_append, List.nil_append, List.getElem?_cons_zero, List.getElem?_cons_succ, List.set_cons_zero, List.set_cons_succ, List.set_nil, Option.bind_some, Option.bind_none, Option.map_some, Option.map_none, Nat.zero_add, Nat.reduceAdd, Nat.reduceSub, if_true, if_false, Bool.false_eq_true, reduceCtorEq, Bool.not_true, Bool.not_false, isi_tuple, isi_list, isi_str, isi_int, isi_bool, tyName, beq_self_eq_true, tr_b, tr_t, tr_l, fAdd_i, fSub_i, fLt_i, fLe_i, fGt_i, fGe_i, fNeg_i, fAbs_i, fLen_l, fLen_t, fIsN_n, fNotN_n, fInt_b, fIx_t, fIx_l, items_t, items_l, lLc, wipeR, Bool.not_not, Bool.and_true, Bool.true_and, Bool.and_false, Bool.false_and, Bool.or_true, Bool.true_or, Bool.or_false, Bool.false_or, lst_nil, h1, he]⟩
  | true =>
    cases he2 : ys.isEmpty with
    | false => exact ⟨xs, hx, by simp only [gIf, runP, startR, sRet, sRetL, sSeq, sIf, sNil, sSet, oAnd, oOr, oNot, oIf, o1, o2, vD, cD, tB, tV, tNot, tAnd, tOr, aNil, aCons, oC, lD, iD, List.length_cons, List.length_nil, List.map_cons, List.map_nil, List.replicate, List.append_nil, List.cons_append, List.nil_append, List.getElem?_cons_zero, List.getElem?_cons_succ, List.set_cons_zero, List.set_cons_succ, List.set_nil, Option.bind_some, Option.bind_none, Option.map_some, Option.map_none, Nat.zero_add, Nat.reduceAdd, Nat.reduceSub, if_true, if_false, Bool.false_eq_true, reduceCtorEq, Bool.not_true, Bool.not_false, isi_tuple, isi_list, isi_str, isi_int, isi_bool, tyName, beq_self_eq_true, tr_b, tr_t, tr_l, fAdd_i, fSub_i, fLt_i, fLe_i, fGt_i, fGe_i, fNeg_i, fAbs_i, fLen_l, fLen_t, fIsN_n, fNotN_n, fInt_b, fIx_t, fIx_l, items_t, items_l, lLc, wipeR, Bool.not_not, Bool.and_true, Bool.true_and, Bool.and_false, Bool.false_and, Bool.or_true, Bool.true_or, Bool.or_false, Bool.false_or, lst_nil, h1, he, h2, he2]⟩
    | true =>
      obtain ⟨i, e, hi1, hi2⟩ := atI_in hn (show 4 < nl.length by omega)
      have e' : atI nl 4 = some (.int i) := e
      have hz1 : 1 ≤ sizeLine := size_ok (by decide)
      have hz0 : 0 ≤ sizeLine := Nat.zero_le _
      refine ⟨[.int (i % 9 - 4)], ⟨by simp, fun y hy => ?_⟩, ?_⟩
      · rw [List.mem_singleton.mp hy]
        exact ⟨i % 9 - 4, rfl, by have := Int.emod_nonneg i (show (9 : Int) ≠ 0 by omega); omega, by have := Int.emod_lt_of_pos i (show (0 : Int) < 9 by omega); omega⟩
      · simp only [gIf, runP, startR, sRet, sRetL, sSeq, sIf, sNil, sSet, oAnd, oOr, oNot, oIf, o1, o2, vD, cD, tB, tV, tNot, tAnd, tOr, aNil, aCons, oC, lD, iD, List.length_cons, List.length_nil, List.map_cons, List.map_nil, List.replicate, List.append_nil, List.cons_append, List.nil_append, List.getElem?_cons_zero, List.getElem?_cons_succ, List.set_cons_zero, List.set_cons_succ, List.set_nil, Option.bind_some, Option.bind_none, Option.map_some, Option.map_none, Nat.zero_add, Nat.reduceAdd, Nat.reduceSub, if_true, if_false, Bool.false_eq_true, reduceCtorEq, Bool.not_true, Bool.not_false, isi_tuple, isi_list, isi_str, isi_int, isi_bool, tyName, beq_self_eq_true, tr_b, tr_t, tr_l, fAdd_i, fSub_i, fLt_i, fLe_i, fGt_i, fGe_i, fNeg_i, fAbs_i, fLen_l, fLen_t, fIsN_n, fNotN_n, fInt_b, fIx_t, fIx_l, items_t, items_l, lLc, wipeR, Bool.not_not, Bool.and_true, Bool.true_and, Bool.and_false, Bool.false_and, Bool.or_true, Bool.true_or, Bool.or_false, Bool.false_or, lst_nil, h1, he, h2, he2, lLst, e', mod_p (show (0 : Int) < 9 by omega), hz1, hz0, h1, h2, he, he2, show decide ((0 : Int) < 2) = true by decide]
theorem gr_ret {nl xs ys : List PyData} (hl : nl.length = 12) (hn : ∀ y ∈ nl, InN 0 1008 y) (s0 s1 s2 s3 s7 : Option Sl) : ∃ f : Int, -3 ≤ f ∧ f ≤ 3 ∧
    gRet [s0, s1, s2, s3, some (.dat (.list nl)), some (.dat (.list xs)), some (.dat (.list ys)), s7] = some (.rt (.tuple [.list xs, .list ys, .int f]) [s0, s1, s2, s3, some (.dat (.list nl)), some (.dat (.list xs)), some (.dat (.list ys)), s7]) := by
  obtain ⟨i, e, hi1, hi2⟩ := atI_in hn (show 5 < nl.length by omega)
  have e' : atI nl 5 = some (.int i) := e
  obtain ⟨k, hk, hk4⟩ := nat_mod i 4 (by omega)
  have hk4' : k < 4 := by omega
  have hx : ∃ f : Int, -3 ≤ f ∧ f ≤ 3 ∧ atI [PyData.int 1, .int (-1), .int 2, .int (-3)] (k : Int) = some (.int f) := by
    rw [atI_n]
    match k, hk4' with
    | 0, _ => exact ⟨1, by omega, by omega, rfl⟩
    | 1, _ => exact ⟨-1, by omega, by omega, rfl⟩
    | 2, _ => exact ⟨2, by omega, by omega, rfl⟩
    | 3, _ => exact ⟨-3, by omega, by omega, rfl⟩
  obtain ⟨f, h1, h2, h3⟩ := hx
  have hz3 : 3 ≤ sizeLine := size_ok (by decide)
  refine ⟨f, h1, h2, ?_⟩
  simp only [gRet, runP, startR, sRet, sRetL, sSeq, sIf, sNil, sSet, oAnd, oOr, oNot, oIf, o1, o2, vD, cD, tB, tV, tNot, tAnd, tOr, aNil, aCons, oC, lD, iD, List.length_cons, List.length_nil, List.map_cons, List.map_nil, List.replicate, List.append_nil, List.cons_append, List.nil_append, List.getElem?_cons_zero, List.getElem?_cons_succ, List.set_cons_zero, List.set_cons_succ, List.set_nil, Option.bind_some, Option.bind_none, Option.map_some, Option.map_none, Nat.zero_add, Nat.reduceAdd, Nat.reduceSub, if_true, if_false, Bool.false_eq_true, reduceCtorEq, Bool.not_true, Bool.not_false, isi_tuple, isi_list, isi_str, isi_int, isi_bool, tyName, beq_self_eq_true, tr_b, tr_t, tr_l, fAdd_i, fSub_i, fLt_i, fLe_i, fGt_i, fGe_i, fNeg_i, fAbs_i, fLen_l, fLen_t, fIsN_n, fNotN_n, fInt_b, fIx_t, fIx_l, items_t, items_l, lLc, wipeR, Bool.not_not, Bool.and_true, Bool.true_and, Bool.and_false, Bool.false_and, Bool.or_true, Bool.true_or, Bool.or_false, Bool.false_or, oTup, e', mod_p (show (0 : Int) < 4 by omega), hk, sgL_eq, h3, hz3]
theorem grid_eq (ns : List Int) (a : Nat) : ∃ xs ys f, F__law_grid [.list (ns.map PyData.int), .int (a : Int), .int 2, .int 2] = some (.tuple [.list xs, .list ys, .int f]) ∧ IntL 2 (-4) 4 xs ∧ IntL 2 (-4) 4 ys ∧ -3 ≤ f ∧ f ≤ 3 := by
  obtain ⟨nl, e0, hl, hn⟩ := numbers_eq ns a 12 (by omega)
  generalize PyData.list (ns.map PyData.int) = vs at e0
  generalize (a : Int) = ai at e0
  have e0' : F__law_numbers [vs, .int ai, .int 12] = some (.list nl) := e0
  have s1 : sSet 4 (oC F__law_numbers (aCons (vD 0) (aCons (vD 1) (aCons (cD (.int 12)) aNil)))) [some (.dat vs), some (.dat (.int ai)), some (.dat (.int 2)), some (.dat (.int 2)), none, none, none, none] = some (.nx [some (.dat vs), some (.dat (.int ai)), some (.dat (.int 2)), some (.dat (.int 2)), some (.dat (.list nl)), none, none, none]) := by
    simp only [runP, startR, sRet, sRetL, sSeq, sIf, sNil, sSet, oAnd, oOr, oNot, oIf, o1, o2, vD, cD, tB, tV, tNot, tAnd, tOr, aNil, aCons, oC, lD, iD, List.length_cons, List.length_nil, List.map_cons, List.map_nil, List.replicate, List.append_nil, List.cons_append, List.nil_append, List.getElem?_cons_zero, List.getElem?_cons_succ, List.set_cons_zero, List.set_cons_succ, List.set_nil, Option.bind_some, Option.bind_none, Option.map_some, Option.map_none, Nat.zero_add, Nat.reduceAdd, Nat.reduceSub, if_true, if_false, Bool.false_eq_true, reduceCtorEq, Bool.not_true, Bool.not_false, isi_tuple, isi_list, isi_str, isi_int, isi_bool, tyName, beq_self_eq_true, tr_b, tr_t, tr_l, fAdd_i, fSub_i, fLt_i, fLe_i, fGt_i, fGe_i, fNeg_i, fAbs_i, fLen_l, fLen_t, fIsN_n, fNotN_n, fInt_b, fIx_t, fIx_l, items_t, items_l, lLc, wipeR, Bool.not_not, Bool.and_true, Bool.true_and, Bool.and_false, Bool.false_and, Bool.or_true, Bool.true_or, Bool.or_false, Bool.false_or, e0']
  obtain ⟨i8, e8, _, _⟩ := atI_in hn (show 8 < nl.length by omega)
  obtain ⟨i9, e9, _, _⟩ := atI_in hn (show 9 < nl.length by omega)
  have e8' : atI nl 8 = some (.int i8) := e8
  have e9' : atI nl 9 = some (.int i9) := e9
  obtain ⟨k8, hk8, hk8'⟩ := nat_mod i8 (2 + 1) (by omega)
  obtain ⟨k9, hk9, hk9'⟩ := nat_mod i9 (2 + 1) (by omega)
  obtain ⟨xs, hx, ex⟩ := gr_comp hl hn 0 (by omega) (some (.dat vs)) (some (.dat (.int ai))) none none 2 2 (iR1 (aCons (o2 fMod (o2 fIx (vD 4) (cD (.int 8))) (o2 fAdd (vD 2) (cD (.int 1)))) aNil)) (vD 7) k8 (by omega)
    (iR1_rng (by simp only [runP, startR, sRet, sRetL, sSeq, sIf, sNil, sSet, oAnd, oOr, oNot, oIf, o1, o2, vD, cD, tB, tV, tNot, tAnd, tOr, aNil, aCons, oC, lD, iD, List.length_cons, List.length_nil, List.map_cons, List.map_nil, List.replicate, List.append_nil, List.cons_append, List.nil_append, List.getElem?_cons_zero, List.getElem?_cons_succ, List.set_cons_zero, List.set_cons_succ, List.set_nil, Option.bind_some, Option.bind_none, Option.map_some, Option.map_none, Nat.zero_add, Nat.reduceAdd, Nat.reduceSub, if_true, if_false, Bool.false_eq_true, reduceCtorEq, Bool.not_true, Bool.not_false, isi_tuple, isi_list, isi_str, isi_int, isi_bool, tyName, beq_self_eq_true, tr_b, tr_t, tr_l, fAdd_i, fSub_i, fLt_i, fLe_i, fGt_i, fGe_i, fNeg_i, fAbs_i, fLen_l, fLen_t, fIsN_n, fNotN_n, fInt_b, fIx_t, fIx_l, items_t, items_l, lLc, wipeR, Bool.not_not, Bool.and_true, Bool.true_and, Bool.and_false, Bool.false_and, Bool.or_true, Bool.true_or, Bool.or_false, Bool.false_or, e8', mod_p (show (0 : Int) < 2 + 1 by omega), hk8]) (by omega)) (fun j => by rw [Nat.zero_add]; rfl)
  have s2 : sSet 5 (lD (lLc (iR1 (aCons (o2 fMod (o2 fIx (vD 4) (cD (.int 8))) (o2 fAdd (vD 2) (cD (.int 1)))) aNil)) (gN 7) tYesD (o2 fSub (o2 fMod (o2 fIx (vD 4) (vD 7)) (cD (.int 9))) (cD (.int 4))) [7])) [some (.dat vs), some (.dat (.int ai)), some (.dat (.int 2)), some (.dat (.int 2)), some (.dat (.list nl)), none, none, none] = some (.nx [some (.dat vs), some (.dat (.int ai)), some (.dat (.int 2)), some (.dat (.int 2)), some (.dat (.list nl)), some (.dat (.list xs)), none, none]) := by
    unfold sSet lD
    rw [ex]
    rfl
  obtain ⟨ys, hy, ey⟩ := gr_comp hl hn 2 (by omega) (some (.dat vs)) (some (.dat (.int ai))) (some (.dat (.list xs))) none 2 2 (iR1 (aCons (o2 fMod (o2 fIx (vD 4) (cD (.int 9))) (o2 fAdd (vD 3) (cD (.int 1)))) aNil)) (o2 fAdd (cD (.int 2)) (vD 7)) k9 (by omega)
    (iR1_rng (by simp only [runP, startR, sRet, sRetL, sSeq, sIf, sNil, sSet, oAnd, oOr, oNot, oIf, o1, o2, vD, cD, tB, tV, tNot, tAnd, tOr, aNil, aCons, oC, lD, iD, List.length_cons, List.length_nil, List.map_cons, List.map_nil, List.replicate, List.append_nil, List.cons_append, List.nil_append, List.getElem?_cons_zero, List.getElem?_cons_succ, List.set_cons_zero, List.set_cons_succ, List.set_nil, Option.bind_some, Option.bind_none, Option.map_some, Option.map_none, Nat.zero_add, Nat.reduceAdd, Nat.reduceSub, if_true, if_false, Bool.false_eq_true, reduceCtorEq, Bool.not_true, Bool.not_false, isi_tuple, isi_list, isi_str, isi_int, isi_bool, tyName, beq_self_eq_true, tr_b, tr_t, tr_l, fAdd_i, fSub_i, fLt_i, fLe_i, fGt_i, fGe_i, fNeg_i, fAbs_i, fLen_l, fLen_t, fIsN_n, fNotN_n, fInt_b, fIx_t, fIx_l, items_t, items_l, lLc, wipeR, Bool.not_not, Bool.and_true, Bool.true_and, Bool.and_false, Bool.false_and, Bool.or_true, Bool.true_or, Bool.or_false, Bool.false_or, e9', mod_p (show (0 : Int) < 2 + 1 by omega), hk9]) (by omega)) (fun j => by simp only [runP, startR, sRet, sRetL, sSeq, sIf, sNil, sSet, oAnd, oOr, oNot, oIf, o1, o2, vD, cD, tB, tV, tNot, tAnd, tOr, aNil, aCons, oC, lD, iD, List.length_cons, List.length_nil, List.map_cons, List.map_nil, List.replicate, List.append_nil, List.cons_append, List.nil_append, List.getElem?_cons_zero, List.getElem?_cons_succ, List.set_cons_zero, List.set_cons_succ, List.set_nil, Option.bind_some, Option.bind_none, Option.map_some, Option.map_none, Nat.zero_add, Nat.reduceAdd, Nat.reduceSub, if_true, if_false, Bool.false_eq_true, reduceCtorEq, Bool.not_true, Bool.not_false, isi_tuple, isi_list, isi_str, isi_int, isi_bool, tyName, beq_self_eq_true, tr_b, tr_t, tr_l, fAdd_i, fSub_i, fLt_i, fLe_i, fGt_i, fGe_i, fNeg_i, fAbs_i, fLen_l, fLen_t, fIsN_n, fNotN_n, fInt_b, fIx_t, fIx_l, items_t, items_l, lLc, wipeR, Bool.not_not, Bool.and_true, Bool.true_and, Bool.and_false, Bool.false_and, Bool.or_true, Bool.true_or, Bool.or_false, Bool.false_or]; congr 2)
  have s3 : sSet 6 (lD (lLc (iR1 (aCons (o2 fMod (o2 fIx (vD 4) (cD (.int 9))) (o2 fAdd (vD 3) (cD (.int 1)))) aNil)) (gN 7) tYesD (o2 fSub (o2 fMod (o2 fIx (vD 4) (o2 fAdd (cD (.int 2)) (vD 7))) (cD (.int 9))) (cD (.int 4))) [7])) [some (.dat vs), some (.dat (.int ai)), some (.dat (.int 2)), some (.dat (.int 2)), some (.dat (.list nl)), some (.dat (.list xs)), none, none] = some (.nx [some (.dat vs), some (.dat (.int ai)), some (.dat (.int 2)), some (.dat (.int 2)), some (.dat (.list nl)), some (.dat (.list xs)), some (.dat (.list ys)), none]) := by
    unfold sSet lD
    rw [ey]
    rfl
  obtain ⟨xs', hx', s4⟩ := gr_if hl hn hx hy (some (.dat vs)) (some (.dat (.int ai))) (some (.dat (.int 2)))
  obtain ⟨f, hf1, hf2, s5⟩ := gr_ret (xs := xs') (ys := ys) hl hn (some (.dat vs)) (some (.dat (.int ai))) (some (.dat (.int 2))) (some (.dat (.int 2))) none
  refine ⟨xs', ys, f, ?_, hx', hy, hf1, hf2⟩
  have hst : startR 8 [vs, .int ai, .int 2, .int 2] = [some (.dat vs), some (.dat (.int ai)), some (.dat (.int 2)), some (.dat (.int 2)), none, none, none, none] := rfl
  have hl4 : ([vs, .int ai, .int 2, .int 2] : List PyData).length = 4 := rfl
  unfold F__law_grid runP
  rw [if_pos hl4, gr_split, hst, seq_nx s1, seq_nx s2, seq_nx s3, seq_nx s4, s5]
  rfl
/-! ### expand -/
theorem ex_inner {root : Int} (hr : -4 ≤ root ∧ root ≤ 4) {B : Int} (hB : 0 ≤ B) {row : List PyData} (hrow : ∀ y ∈ row, InN (-B) B y) (s0 : Option Sl) : ∀ (m i : Nat) (L : List PyData) (s4 : Option Sl), i + m = row.length → L.length = row.length + 1 → (∀ y ∈ L, InN (-(5 * B)) (5 * B) y) → (∀ (j : Nat) y, i ≤ j → L[j]? = some y → InN (-B) B y) →
    ∃ L' s4', L'.length = row.length + 1 ∧ (∀ y ∈ L', InN (-(5 * B)) (5 * B) y) ∧
    forGo (gN 4) (sSetI 3 (vD 4) (o2 fSub (oIxE (vO 3) (vD 4)) (o2 fMul (vD 2) (o2 fIx (vD 1) (vD 4))))) (rng i m) [s0, some (.dat (.list row)), some (.dat (.int root)), some (.own L), s4] = some (.nx [s0, some (.dat (.list row)), some (.dat (.int root)), some (.own L'), s4'])
  | 0, i, L, s4, h, hl, h1, h2 => ⟨L, s4, hl, h1, rfl⟩
  | m + 1, i, L, s4, h, hl, h1, h2 => by
    obtain ⟨r, er, hr1, hr2⟩ := atI_in hrow (show i < row.length by omega)
    obtain ⟨l, el, l', rfl, hl1, hl2⟩ : ∃ l, L[i]? = some l ∧ InN (-B) B l := by
      have := List.getElem?_eq_getElem (show i < L.length by omega)
      exact ⟨_, this, h2 i _ (Nat.le_refl _) this⟩
    have el' : atI L (i : Int) = some (.int l') := by rw [atI_n, el]
    have hix : ixN L.length (i : Int) = some i := by
      unfold ixN
      rw [if_pos (by omega), if_pos (by omega), Int.toNat_natCast]
    have hm : -(2 ^ 64) < root ∧ root < 2 ^ 64 := by constructor <;> omega
    have hb : -(4 * B) ≤ root * r ∧ root * r ≤ 4 * B := by
      have habs : ∀ x y : Int, 0 ≤ y → -4 ≤ x → x ≤ 4 → x * y ≤ 4 * y ∧ -(4 * y) ≤ x * y := fun x y hy h1 h2 => by
        have a1 := Int.mul_le_mul_of_nonneg_right h2 hy
        have a2 := Int.mul_le_mul_of_nonneg_right h1 hy
        constructor <;> omega
      rcases Int.le_total 0 r with h0 | h0
      · obtain ⟨a1, a2⟩ := habs root r h0 hr.1 hr.2
        constructor <;> omega
      · obtain ⟨a1, a2⟩ := habs root (-r) (by omega) hr.1 hr.2
        simp only [Int.mul_neg] at a1 a2
        constructor <;> omega
    have eb : (sSetI 3 (vD 4) (o2 fSub (oIxE (vO 3) (vD 4)) (o2 fMul (vD 2) (o2 fIx (vD 1) (vD 4))))) [s0, some (.dat (.list row)), some (.dat (.int root)), some (.own L), some (.dat (.int (i : Int)))] = some (.nx [s0, some (.dat (.list row)), some (.dat (.int root)), some (.own (L.set i (.int (l' - root * r)))), some (.dat (.int (i : Int)))]) := by
      simp only [sSetI, runP, startR, sRet, sRetL, sSeq, sIf, sNil, sSet, oAnd, oOr, oNot, oIf, o1, o2, vD, cD, tB, tV, tNot, tAnd, tOr, aNil, aCons, oC, lD, iD, List.length_cons, List.length_nil, List.map_cons, List.map_nil, List.replicate, List.append_nil, List.cons_append, List.nil_append, List.getElem?_cons_zero, List.getElem?_cons_succ, List.set_cons_zero, List.set_cons_succ, List.set_nil, Option.bind_some, Option.bind_none, Option.map_some, Option.map_none, Nat.zero_add, Nat.reduceAdd, Nat.reduceSub, if_true, if_false, Bool.false_eq_true, reduceCtorEq, Bool.not_true, Bool.not_false, isi_tuple, isi_list, isi_str, isi_int, isi_bool, tyName, beq_self_eq_true, tr_b, tr_t, tr_l, fAdd_i, fSub_i, fLt_i, fLe_i, fGt_i, fGe_i, fNeg_i, fAbs_i, fLen_l, fLen_t, fIsN_n, fNotN_n, fInt_b, fIx_t, fIx_l, items_t, items_l, lLc, wipeR, Bool.not_not, Bool.and_true, Bool.true_and, Bool.and_false, Bool.false_and, Bool.or_true, Bool.true_or, Bool.or_false, Bool.false_or, oIxE, vO, el', er, mul_l hm, hix]
    obtain ⟨L', s4', g1, g2, e⟩ := ex_inner hr hB hrow s0 m (i + 1) (L.set i (.int (l' - root * r))) (some (.dat (.int (i : Int)))) (by omega) (by rw [List.length_set, hl]) (fun y hy => by
        rcases List.mem_or_eq_of_mem_set hy with hy | rfl
        · exact h1 y hy
        · exact ⟨_, rfl, by omega, by omega⟩) (fun j y hj ej => by
        rw [List.getElem?_set_ne (by omega)] at ej
        exact h2 j y (by omega) ej)
    refine ⟨L', s4', g1, g2, ?_⟩
    have eg : ∀ bd : DSt, forGo (gN 4) bd (rng i (m + 1)) [s0, some (.dat (.list row)), some (.dat (.int root)), some (.own L), s4] = (bd [s0, some (.dat (.list row)), some (.dat (.int root)), some (.own L), some (.dat (.int (i : Int)))]).bind (fun o => match o with
          | .nx ρ2 => forGo (gN 4) bd (rng (i + 1) m) ρ2
          | .ct ρ2 => forGo (gN 4) bd (rng (i + 1) m) ρ2
          | .bk ρ2 => some (.nx ρ2)
          | .rt d r => some (.rt d r)
          | .rtL d => some (.rtL d)) := fun _ => rfl
    rw [eg, eb]
    exact e
def exBody : DSt := (sSeq (sOwn 3 (lCat (lLst (aCons (cD (.int 0)) aNil)) (asL (vD 1))))
    (sSeq (sFor (iR1 (aCons (oC fLen (aCons (vD 1) aNil)) aNil)) (gN 4)
      (sSetI 3 (vD 4) (o2 fSub (oIxE (vO 3) (vD 4)) (o2 fMul (vD 2) (o2 fIx (vD 1) (vD 4))))))
    (sFrz 1 3)))
theorem ex_split : d__law_expand = (sSeq (sSet 1 (lD (lLst (aCons (cD (.int 1)) aNil)))) (sSeq (sFor (iD (vD 0)) (gN 2) exBody) (sRet (vD 1)))) := rfl
theorem ex_step {root : Int} (hr : -4 ≤ root ∧ root ≤ 4) {B : Int} (hB : 0 ≤ B) {row : List PyData} (hl : row.length ≤ 10) (hrow : ∀ y ∈ row, InN (-B) B y) (s0 s3 s4 : Option Sl) : ∃ L' s3' s4', L'.length = row.length + 1 ∧ (∀ y ∈ L', InN (-(5 * B)) (5 * B) y) ∧
    exBody [s0, some (.dat (.list row)), some (.dat (.int root)), s3, s4] = some (.nx [s0, some (.dat (.list L')), some (.dat (.int root)), s3', s4']) := by
  have hz1 : 1 ≤ sizeLine := size_ok (by decide)
  have hz2 : 1 + row.length ≤ sizeLine := size_ok (by omega)
  obtain ⟨L', s4', g1, g2, e⟩ := ex_inner hr hB hrow s0 row.length 0 (.int 0 :: row) s4 (by omega) (by rw [List.length_cons]) (fun y hy => by
      rcases List.mem_cons.mp hy with rfl | hy
      · exact ⟨0, rfl, by omega, by omega⟩
      · obtain ⟨i, rfl, h1, h2⟩ := hrow y hy
        exact ⟨i, rfl, by omega, by omega⟩) (fun j y _ ej => by
      rcases List.mem_cons.mp (List.mem_of_getElem? ej) with rfl | hy
      · exact ⟨0, rfl, by omega, by omega⟩
      · exact hrow y hy)
  have s1 : sOwn 3 (lCat (lLst (aCons (cD (.int 0)) aNil)) (asL (vD 1))) [s0, some (.dat (.list row)), some (.dat (.int root)), s3, s4] = some (.nx [s0, some (.dat (.list row)), some (.dat (.int root)), some (.own (.int 0 :: row)), s4]) := by
    simp only [sOwn, lCat, lLst, runP, startR, sRet, sRetL, sSeq, sIf, sNil, sSet, oAnd, oOr, oNot, oIf, o1, o2, vD, cD, tB, tV, tNot, tAnd, tOr, aNil, aCons, oC, lD, iD, List.length_cons, List.length_nil, List.map_cons, List.map_nil, List.replicate, List.append_nil, List.cons_append, List.nil_append, List.getElem?_cons_zero, List.getElem?_cons_succ, List.set_cons_zero, List.set_cons_succ, List.set_nil, Option.bind_some, Option.bind_none, Option.map_some, Option.map_none, Nat.zero_add, Nat.reduceAdd, Nat.reduceSub, if_true, if_false, Bool.false_eq_true, reduceCtorEq, Bool.not_true, Bool.not_false, isi_tuple, isi_list, isi_str, isi_int, isi_bool, tyName, beq_self_eq_true, tr_b, tr_t, tr_l, fAdd_i, fSub_i, fLt_i, fLe_i, fGt_i, fGe_i, fNeg_i, fAbs_i, fLen_l, fLen_t, fIsN_n, fNotN_n, fInt_b, fIx_t, fIx_l, items_t, items_l, lLc, wipeR, Bool.not_not, Bool.and_true, Bool.true_and, Bool.and_false, Bool.false_and, Bool.or_true, Bool.true_or, Bool.or_false, Bool.false_or, asL, hz1, hz2]
  have hr' : iR1 (aCons (oC fLen (aCons (vD 1) aNil)) aNil) [s0, some (.dat (.list row)), some (.dat (.int root)), some (.own (.int 0 :: row)), s4] = some (rng 0 row.length) := iR1_rng rfl (by omega)
  have s2 : sFor (iR1 (aCons (oC fLen (aCons (vD 1) aNil)) aNil)) (gN 4) (sSetI 3 (vD 4) (o2 fSub (oIxE (vO 3) (vD 4)) (o2 fMul (vD 2) (o2 fIx (vD 1) (vD 4))))) [s0, some (.dat (.list row)), some (.dat (.int root)), some (.own (.int 0 :: row)), s4] = some (.nx [s0, some (.dat (.list row)), some (.dat (.int root)), some (.own L'), s4']) := by
    unfold sFor
    rw [hr']
    exact e
  refine ⟨L', some (.dat (.list L')), s4', g1, g2, ?_⟩
  unfold exBody
  rw [seq_nx s1, seq_nx s2]
  rfl
theorem ex_go (s0 : Option Sl) : ∀ (roots : List PyData) (row : List PyData) (B : Int) (s2 s3 s4 : Option Sl), (∀ y ∈ roots, InN (-4) 4 y) → 0 ≤ B → row.length + roots.length ≤ 10 → (∀ y ∈ row, InN (-B) B y) →
    ∃ row' s2' s3' s4', row'.length = row.length + roots.length ∧ (∀ y ∈ row', InN (-(5 ^ roots.length * B)) (5 ^ roots.length * B) y) ∧ forGo (gN 2) exBody roots [s0, some (.dat (.list row)), s2, s3, s4] = some (.nx [s0, some (.dat (.list row')), s2', s3', s4'])
  | [], row, B, s2, s3, s4, h, hB, hl, hr => ⟨row, s2, s3, s4, rfl, fun y hy => by rw [List.length_nil, Int.pow_zero, Int.one_mul]; exact hr y hy, rfl⟩
  | y :: roots, row, B, s2, s3, s4, h, hB, hl, hr => by
    obtain ⟨root, rfl, h1, h2⟩ := h y (List.mem_cons_self ..)
    rw [List.length_cons] at hl
    obtain ⟨L', s3', s4', g1, g2, e⟩ := ex_step ⟨h1, h2⟩ hB (by omega) hr s0 s3 s4
    obtain ⟨row', t2, t3, t4, g3, g4, e2⟩ := ex_go s0 roots L' (5 * B) (some (.dat (.int root))) s3' s4' (fun x hx => h x (List.mem_cons_of_mem _ hx)) (by omega) (by omega) g2
    refine ⟨row', t2, t3, t4, by rw [g3, g1, List.length_cons]; omega, fun z hz => ?_, ?_⟩
    · have e3 : (5 : Int) ^ (root.toNat * 0 + (PyData.int root :: roots).length) * B = 5 ^ roots.length * (5 * B) := by
        rw [Nat.mul_zero, Nat.zero_add, List.length_cons, Int.pow_succ, Int.mul_assoc]
      rw [Nat.mul_zero, Nat.zero_add] at e3
      rw [e3]
      exact g4 z hz
    · show Option.bind (exBody [s0, some (.dat (.list row)), some (.dat (.int root)), s3, s4]) _ = _
      rw [e]
      exact e2
theorem expand_eq {roots : List PyData} (h : IntL 2 (-4) 4 roots) : ∃ row, F__law_expand [.list roots] = some (.list row) ∧ 1 ≤ row.length ∧ row.length ≤ 3 ∧ ∀ y ∈ row, InN (-25) 25 y := by
  obtain ⟨row, s2, s3, s4, g1, g2, e⟩ := ex_go (some (.dat (.list roots))) roots [.int 1] 1 none none none h.2 (by omega) (by have := h.1; simp; omega) (fun y hy => by rw [List.mem_singleton.mp hy]; exact ⟨1, rfl, by omega, by omega⟩)
  have hl := h.1
  have hb : (5 : Int) ^ roots.length * 1 ≤ 25 := by
    have : roots.length = 0 ∨ roots.length = 1 ∨ roots.length = 2 := by omega
    rcases this with q | q | q <;> rw [q] <;> decide
  refine ⟨row, ?_, by rw [g1]; simp, by rw [g1]; simp; omega, fun y hy => ?_⟩
  · have hz1 : 1 ≤ sizeLine := size_ok (by decide)
    have s1 : sSet 1 (lD (lLst (aCons (cD (.int 1)) aNil))) [some (.dat (.list roots)), none, none, none, none] = some (.nx [some (.dat (.list roots)), some (.dat (.list [.int 1])), none, none, none]) := by
      simp only [runP, startR, sRet, sRetL, sSeq, sIf, sNil, sSet, oAnd, oOr, oNot, oIf, o1, o2, vD, cD, tB, tV, tNot, tAnd, tOr, aNil, aCons, oC, lD, iD, List.length_cons, List.length_nil, List.map_cons, List.map_nil, List.replicate, List.append_nil, List.cons_append, List.nil_append, List.getElem?_cons_zero, List.getElem?_cons_succ, List.set_cons_zero, List.set_cons_succ, List.set_nil, Option.bind_some, Option.bind_none, Option.map_some, Option.map_none, Nat.zero_add, Nat.reduceAdd, Nat.reduceSub, if_true, if_false, Bool.false_eq_true, reduceCtorEq, Bool.not_true, Bool.not_false, isi_tuple, isi_list, isi_str, isi_int, isi_bool, tyName, beq_self_eq_true, tr_b, tr_t, tr_l, fAdd_i, fSub_i, fLt_i, fLe_i, fGt_i, fGe_i, fNeg_i, fAbs_i, fLen_l, fLen_t, fIsN_n, fNotN_n, fInt_b, fIx_t, fIx_l, items_t, items_l, lLc, wipeR, Bool.not_not, Bool.and_true, Bool.true_and, Bool.and_false, Bool.false_and, Bool.or_true, Bool.true_or, Bool.or_false, Bool.false_or, lLst, hz1]
    have sf : sFor (iD (vD 0)) (gN 2) exBody [some (.dat (.list roots)), some (.dat (.list [.int 1])), none, none, none] = some (.nx [some (.dat (.list roots)), some (.dat (.list row)), s2, s3, s4]) := e
    have hst : startR 5 [.list roots] = [some (.dat (.list roots)), none, none, none, none] := rfl
    have hl1 : ([.list roots] : List PyData).length = 1 := rfl
    unfold F__law_expand runP
    rw [if_pos hl1, ex_split, hst, seq_nx s1, seq_nx sf]
    rfl
  · obtain ⟨i, rfl, h1, h2⟩ := g2 y hy
    exact ⟨i, rfl, by omega, by omega⟩
end K77

set_option Elab.async false
set_option linter.all false
set_option maxRecDepth 100000
set_option maxHeartbeats 4000000
/-! M15: the forms of grids; drawn formulas. -/
namespace K77
open PySem DL
open L2 (atI ixN)
def rowE : DE := (oRep01 (oTuple (lLc (iD (oC F__law_expand (aCons (vD 0) aNil))) (gN 5) tYesD (o2 fMul (o2 fMul (vD 2) (vD 4)) (vD 5)) [5])) (oC fInt (aCons (o2 fNe (vD 4) (cD (.int 0))) aNil)))
theorem gf_split : d__law_grid_form = (sSeq (sOwn 3 (lLst aNil)) (sSeq (sFor (iD (oC F__law_expand (aCons (vD 1) aNil))) (gN 4) (sApp 3 rowE)) (sRet (oTuple (vO 3))))) := rfl
theorem gf_row {xs row : List PyData} (hx : F__law_expand [.list xs] = some (.list row)) (h1 : 1 ≤ row.length) (h3 : row.length ≤ 3) (hr : ∀ y ∈ row, InN (-25) 25 y) {f c : Int} (hf : -3 ≤ f ∧ f ≤ 3) (hc : -25 ≤ c ∧ c ≤ 25) (s1 s3 : Option Sl) :
    ∃ r, Fine 1 r ∧ rowE [some (.dat (.list xs)), s1, some (.dat (.int f)), s3, some (.dat (.int c)), none] = some r := by
  have hb : -(2 ^ 64) < f ∧ f < 2 ^ 64 := by constructor <;> omega
  obtain ⟨ys, e, g1, g2⟩ := lcGo_ex (i := 5) (p := o2 fMul (o2 fMul (vD 2) (vD 4)) (vD 5)) (ρ := [some (.dat (.list xs)), s1, some (.dat (.int f)), s3, some (.dat (.int c)), none]) (P := fun y => ∃ i, y = .int i) (ds := row) fun d hd => by
    obtain ⟨i, rfl, hi⟩ := hr d hd
    have hi' : -(2 ^ 64) < i ∧ i < 2 ^ 64 := by constructor <;> omega
    exact ⟨.int (f * c * i), by simp only [runP, startR, sRet, sRetL, sSeq, sIf, sNil, sSet, oAnd, oOr, oNot, oIf, o1, o2, vD, cD, tB, tV, tNot, tAnd, tOr, aNil, aCons, oC, lD, iD, List.length_cons, List.length_nil, List.map_cons, List.map_nil, List.replicate, List.append_nil, List.cons_append, List.nil_append, List.getElem?_cons_zero, List.getElem?_cons_succ, List.set_cons_zero, List.set_cons_succ, List.set_nil, Option.bind_some, Option.bind_none, Option.map_some, Option.map_none, Nat.zero_add, Nat.reduceAdd, Nat.reduceSub, if_true, if_false, Bool.false_eq_true, reduceCtorEq, Bool.not_true, Bool.not_false, isi_tuple, isi_list, isi_str, isi_int, isi_bool, tyName, beq_self_eq_true, tr_b, tr_t, tr_l, fAdd_i, fSub_i, fLt_i, fLe_i, fGt_i, fGe_i, fNeg_i, fAbs_i, fLen_l, fLen_t, fIsN_n, fNotN_n, fInt_b, fIx_t, fIx_l, items_t, items_l, lLc, wipeR, Bool.not_not, Bool.and_true, Bool.true_and, Bool.and_false, Bool.false_and, Bool.or_true, Bool.true_or, Bool.or_false, Bool.false_or, mul_l hb, mul_r hi'], _, rfl⟩
  have hz : row.length ≤ sizeLine := size_ok (by omega)
  have hne : (if (!(c == 0)) = true then (1 : Int) else 0) = 1 ∨ (if (!(c == 0)) = true then (1 : Int) else 0) = 0 := by
    split
    · exact .inl rfl
    · exact .inr rfl
  have h0 : Fine 1 (.tuple ys) := .tup (by omega) fun d hd => by
    obtain ⟨i, rfl⟩ := g2 d hd
    exact .int i
  match ys, g1, h0, e with
  | [], g1, _, _ => exact absurd g1 (by simp; omega)
  | y :: ys, _, h0, e =>
    rcases hne with hne | hne
    · exact ⟨.tuple (y :: ys), h0, by simp only [rowE, oRep01, oTuple, runP, startR, sRet, sRetL, sSeq, sIf, sNil, sSet, oAnd, oOr, oNot, oIf, o1, o2, vD, cD, tB, tV, tNot, tAnd, tOr, aNil, aCons, oC, lD, iD, List.length_cons, List.length_nil, List.map_cons, List.map_nil, List.replicate, List.append_nil, List.cons_append, List.nil_append, List.getElem?_cons_zero, List.getElem?_cons_succ, List.set_cons_zero, List.set_cons_succ, List.set_nil, Option.bind_some, Option.bind_none, Option.map_some, Option.map_none, Nat.zero_add, Nat.reduceAdd, Nat.reduceSub, if_true, if_false, Bool.false_eq_true, reduceCtorEq, Bool.not_true, Bool.not_false, isi_tuple, isi_list, isi_str, isi_int, isi_bool, tyName, beq_self_eq_true, tr_b, tr_t, tr_l, fAdd_i, fSub_i, fLt_i, fLe_i, fGt_i, fGe_i, fNeg_i, fAbs_i, fLen_l, fLen_t, fIsN_n, fNotN_n, fInt_b, fIx_t, fIx_l, items_t, items_l, lLc, wipeR, Bool.not_not, Bool.and_true, Bool.true_and, Bool.and_false, Bool.false_and, Bool.or_true, Bool.true_or, Bool.or_false, Bool.false_or, hx, hz, e, fNe_ii, hne]⟩
    · exact ⟨.tuple [], .tup (by simp) (fun d hd => (by simp at hd)), by simp only [rowE, oRep01, oTuple, runP, startR, sRet, sRetL, sSeq, sIf, sNil, sSet, oAnd, oOr, oNot, oIf, o1, o2, vD, cD, tB, tV, tNot, tAnd, tOr, aNil, aCons, oC, lD, iD, List.length_cons, List.length_nil, List.map_cons, List.map_nil, List.replicate, List.append_nil, List.cons_append, List.nil_append, List.getElem?_cons_zero, List.getElem?_cons_succ, List.set_cons_zero, List.set_cons_succ, List.set_nil, Option.bind_some, Option.bind_none, Option.map_some, Option.map_none, Nat.zero_add, Nat.reduceAdd, Nat.reduceSub, if_true, if_false, Bool.false_eq_true, reduceCtorEq, Bool.not_true, Bool.not_false, isi_tuple, isi_list, isi_str, isi_int, isi_bool, tyName, beq_self_eq_true, tr_b, tr_t, tr_l, fAdd_i, fSub_i, fLt_i, fLe_i, fGt_i, fGe_i, fNeg_i, fAbs_i, fLen_l, fLen_t, fIsN_n, fNotN_n, fInt_b, fIx_t, fIx_l, items_t, items_l, lLc, wipeR, Bool.not_not, Bool.and_true, Bool.true_and, Bool.and_false, Bool.false_and, Bool.or_true, Bool.true_or, Bool.or_false, Bool.false_or, hx, hz, e, fNe_ii, hne, if_neg (show ¬ (0 : Int) = 1 by omega)]⟩
theorem gf_go {xs row : List PyData} (hx : F__law_expand [.list xs] = some (.list row)) (h1 : 1 ≤ row.length) (h3 : row.length ≤ 3) (hr : ∀ y ∈ row, InN (-25) 25 y) {f : Int} (hf : -3 ≤ f ∧ f ≤ 3) (s1 : Option Sl) :
    ∀ (cs rows : List PyData) (s4 : Option Sl), (∀ y ∈ cs, InN (-25) 25 y) → rows.length + cs.length ≤ 100 → (∀ r ∈ rows, Fine 1 r) → ∃ rows' s4', rows'.length = rows.length + cs.length ∧ (∀ r ∈ rows', Fine 1 r) ∧
      forGo (gN 4) (sApp 3 rowE) cs [some (.dat (.list xs)), s1, some (.dat (.int f)), some (.own rows), s4, none] = some (.nx [some (.dat (.list xs)), s1, some (.dat (.int f)), some (.own rows'), s4', none])
  | [], rows, s4, _, _, hrows => ⟨rows, s4, rfl, hrows, rfl⟩
  | y :: cs, rows, s4, hc, hl, hrows => by
    obtain ⟨c, rfl, hc1⟩ := hc y (List.mem_cons_self ..)
    rw [List.length_cons] at hl
    obtain ⟨r, hr1, er⟩ := gf_row hx h1 h3 hr hf hc1 s1 (some (.own rows))
    have eb : sApp 3 rowE [some (.dat (.list xs)), s1, some (.dat (.int f)), some (.own rows), some (.dat (.int c)), none] = some (.nx [some (.dat (.list xs)), s1, some (.dat (.int f)), some (.own (rows ++ [r])), some (.dat (.int c)), none]) := by
      simp only [sApp, vO, List.getElem?_cons_succ, List.getElem?_cons_zero, Option.bind_some, er, if_pos (small_lt (show rows.length < 1000 by omega)), List.set_cons_succ, List.set_cons_zero]
    obtain ⟨rows', s4', g1, g2, e⟩ := gf_go hx h1 h3 hr hf s1 cs (rows ++ [r]) (some (.dat (.int c))) (fun x hx => hc x (List.mem_cons_of_mem _ hx)) (by rw [List.length_append, List.length_singleton]; omega) (fun x hx => by
      rcases List.mem_append.mp hx with hx | hx
      · exact hrows x hx
      · rw [List.mem_singleton.mp hx]; exact hr1)
    refine ⟨rows', s4', by rw [g1, List.length_append, List.length_singleton, List.length_cons]; omega, g2, ?_⟩
    show Option.bind (sApp 3 rowE [some (.dat (.list xs)), s1, some (.dat (.int f)), some (.own rows), some (.dat (.int c)), none]) _ = _
    rw [eb]
    exact e
theorem grid_form_eq {xs ys : List PyData} {f : Int} (hx : IntL 2 (-4) 4 xs) (hy : IntL 2 (-4) 4 ys) (hf : -3 ≤ f ∧ f ≤ 3) : ∃ b, F__law_grid_form [.list xs, .list ys, .int f] = some b ∧ Fine 2 b := by
  obtain ⟨row, ex, h1, h3, hr⟩ := expand_eq hx
  obtain ⟨col, ey, _, k3, kr⟩ := expand_eq hy
  obtain ⟨rows', s4', g1, g2, e⟩ := gf_go ex h1 h3 hr hf (some (.dat (.list ys))) col [] none kr (by simp; omega) (fun r hr => (by simp at hr))
  refine ⟨.tuple rows', ?_, .tup (by rw [g1]; simp; omega) g2⟩
  have s1 : sOwn 3 (lLst aNil) [some (.dat (.list xs)), some (.dat (.list ys)), some (.dat (.int f)), none, none, none] = some (.nx [some (.dat (.list xs)), some (.dat (.list ys)), some (.dat (.int f)), some (.own []), none, none]) := rfl
  have s2 : sFor (iD (oC F__law_expand (aCons (vD 1) aNil))) (gN 4) (sApp 3 rowE) [some (.dat (.list xs)), some (.dat (.list ys)), some (.dat (.int f)), some (.own []), none, none] = some (.nx [some (.dat (.list xs)), some (.dat (.list ys)), some (.dat (.int f)), some (.own rows'), s4', none]) := by
    unfold sFor
    have e0 : iD (oC F__law_expand (aCons (vD 1) aNil)) [some (.dat (.list xs)), some (.dat (.list ys)), some (.dat (.int f)), some (.own []), none, none] = some col := by
      simp only [runP, startR, sRet, sRetL, sSeq, sIf, sNil, sSet, oAnd, oOr, oNot, oIf, o1, o2, vD, cD, tB, tV, tNot, tAnd, tOr, aNil, aCons, oC, lD, iD, List.length_cons, List.length_nil, List.map_cons, List.map_nil, List.replicate, List.append_nil, List.cons_append, List.nil_append, List.getElem?_cons_zero, List.getElem?_cons_succ, List.set_cons_zero, List.set_cons_succ, List.set_nil, Option.bind_some, Option.bind_none, Option.map_some, Option.map_none, Nat.zero_add, Nat.reduceAdd, Nat.reduceSub, if_true, if_false, Bool.false_eq_true, reduceCtorEq, Bool.not_true, Bool.not_false, isi_tuple, isi_list, isi_str, isi_int, isi_bool, tyName, beq_self_eq_true, tr_b, tr_t, tr_l, fAdd_i, fSub_i, fLt_i, fLe_i, fGt_i, fGe_i, fNeg_i, fAbs_i, fLen_l, fLen_t, fIsN_n, fNotN_n, fInt_b, fIx_t, fIx_l, items_t, items_l, lLc, wipeR, Bool.not_not, Bool.and_true, Bool.true_and, Bool.and_false, Bool.false_and, Bool.or_true, Bool.true_or, Bool.or_false, Bool.false_or, ey]
    rw [e0]
    exact e
  have hst : startR 6 [.list xs, .list ys, .int f] = [some (.dat (.list xs)), some (.dat (.list ys)), some (.dat (.int f)), none, none, none] := rfl
  have hl : ([.list xs, .list ys, .int f] : List PyData).length = 3 := rfl
  unfold F__law_grid_form runP
  rw [if_pos hl, gf_split, hst, seq_nx s1, seq_nx s2]
  rfl
/-! ### formulas -/
inductive Fml : Nat → PyData → Prop where
  | atom {d : Nat} {b r : PyData} (hb : Fine 2 b) (hr : r ∈ rels) : Fml d (.tuple [.str "is", b, r])
  | neg {d : Nat} {f : PyData} (h : Fml d f) : Fml (d + 1) (.tuple [.str "not", f])
  | bin {d : Nat} {op : Str} {l : List PyData} (ho : op = "and" ∨ op = "or") (h2 : 2 ≤ l.length) (h3 : l.length ≤ 3) (a : ∀ f ∈ l, Fml d f) : Fml (d + 1) (.tuple [.str op, .list l])
theorem fine_s {n : Nat} (s : Str) (h : PyData.strOk s = true) (hl : s.length ≤ 1000) : Fine n (.str s) := .str h hl
theorem fine_rel {n : Nat} {r : PyData} (h : r ∈ rels) : Fine n r := by
  simp only [rels, List.mem_cons, List.not_mem_nil, or_false] at h
  rcases h with rfl | rfl | rfl | rfl | rfl | rfl <;> exact .str (by decide +kernel) (by decide +kernel)
theorem Fml.fine {d : Nat} {f : PyData} (h : Fml d f) : Fine (2 * d + 3) f := by
  induction h with
  | @atom d b r hb hr =>
    refine .tup (by simp) fun x hx => ?_
    simp only [List.mem_cons, List.not_mem_nil, or_false] at hx
    rcases hx with rfl | rfl | rfl
    · exact fine_s _ (by decide +kernel) (by decide +kernel)
    · exact hb.mono (by omega)
    · exact fine_rel hr
  | @neg d f h ih =>
    refine Fine.tup (n := 2 * (d + 1) + 2) (by simp) fun x hx => ?_
    simp only [List.mem_cons, List.not_mem_nil, or_false] at hx
    rcases hx with rfl | rfl
    · exact fine_s _ (by decide +kernel) (by decide +kernel)
    · exact ih.mono (by omega)
  | @bin d op l ho h2 h3 a ih =>
    refine Fine.tup (n := 2 * (d + 1) + 2) (by simp) fun x hx => ?_
    simp only [List.mem_cons, List.not_mem_nil, or_false] at hx
    rcases hx with rfl | rfl
    · rcases ho with rfl | rfl <;> exact fine_s _ (by decide +kernel) (by decide +kernel)
    · exact Fine.lst (n := 2 * (d + 1) + 1) (by omega) fun y hy => (ih y hy).mono (by omega)
theorem pop_eq {pool : List PyData} (h : IntL 14 0 1008 pool) : ∃ (n : Int) (pool' : List PyData), 0 ≤ n ∧ F__law_pop pool [] = some (.int n, pool') ∧ IntL 14 0 1008 pool' := by
  have he : fEq (.list pool) (.list []) = some (.bool pool.isEmpty) := by rw [fEq_of h.shaped shaped_nil, eqv_ln]
  have hs : d__law_pop = sSeq (sIf (DL.tB (o2 fEq (lD (vO 0)) (lD (lLst aNil)))) (sRet (cD (.int 0))) sNil) (sRetX (xPop 0)) := rfl
  have hst : startO 1 pool [] = [some (.own pool)] := rfl
  by_cases hn : pool = []
  · subst hn
    exact ⟨0, [], by omega, rfl, h⟩
  · obtain ⟨d, e1, hd⟩ := last_of hn
    obtain ⟨i, rfl, h1, h2⟩ := h.2 d hd
    refine ⟨i, pool.dropLast, h1, ?_, ⟨by rw [List.length_dropLast]; have := h.1; omega, fun y hy => h.2 y (List.dropLast_subset _ hy)⟩⟩
    have s1 : sIf (DL.tB (o2 fEq (lD (vO 0)) (lD (lLst aNil)))) (sRet (cD (.int 0))) sNil [some (.own pool)] = some (.nx [some (.own pool)]) := by
      simp only [runP, startR, sRet, sRetL, sSeq, sIf, sNil, sSet, oAnd, oOr, oNot, oIf, o1, o2, vD, cD, tB, tV, tNot, tAnd, tOr, aNil, aCons, oC, lD, iD, List.length_cons, List.length_nil, List.map_cons, List.map_nil, List.replicate, List.append_nil, List.cons_append, List.nil_append, List.getElem?_cons_zero, List.getElem?_cons_succ, List.set_cons_zero, List.set_cons_succ, List.set_nil, Option.bind_some, Option.bind_none, Option.map_some, Option.map_none, Nat.zero_add, Nat.reduceAdd, Nat.reduceSub, if_true, if_false, Bool.false_eq_true, reduceCtorEq, Bool.not_true, Bool.not_false, isi_tuple, isi_list, isi_str, isi_int, isi_bool, tyName, beq_self_eq_true, tr_b, tr_t, tr_l, fAdd_i, fSub_i, fLt_i, fLe_i, fGt_i, fGe_i, fNeg_i, fAbs_i, fLen_l, fLen_t, fIsN_n, fNotN_n, fInt_b, fIx_t, fIx_l, items_t, items_l, lLc, wipeR, Bool.not_not, Bool.and_true, Bool.true_and, Bool.and_false, Bool.false_and, Bool.or_true, Bool.true_or, Bool.or_false, Bool.false_or, vO, lst_nil, he, isEmpty_ne hn]
    have s2 : sRetX (xPop 0) [some (.own pool)] = some (.rt (.int i) [some (.own pool.dropLast)]) := by
      simp only [sRetX, xPop, vO, List.getElem?_cons_zero, Option.bind_some, e1, Option.map_some, List.set_cons_zero]
    unfold F__law_pop runO
    rw [if_pos (show ([] : List PyData).length + 1 = 1 from rfl), hs, hst, seq_nx s1, s2]
    rfl
def fmCond : Rho → Option Bool := (DL.tOr (DL.tB (o2 fEq (vD 2) (cD (.int 0)))) (DL.tOr (DL.tB (o2 fEq (lD (vO 0)) (lD (lLst aNil)))) (DL.tB (o2 fLt (o2 fMod (vD 3) (cD (.int 5))) (cD (.int 2))))))
def fmAtom : DE := (oTup (aCons (cD (.str "is")) (aCons (o2 fIx (vD 1) (o2 fMod (o2 fDiv (vD 3) (cD (.int 5))) (oC fLen (aCons (vD 1) aNil)))) (aCons (o2 fIx (lD relL) (o2 fMod (o2 fDiv (o2 fDiv (vD 3) (cD (.int 5))) (oC fLen (aCons (vD 1) aNil))) (cD (.int 6)))) aNil))))
def aoL : DLs := (lLst (aCons (cD (.str "and")) (aCons (cD (.str "or")) aNil)))
theorem aoL_eq (ρ : Rho) : aoL ρ = some [.str "and", .str "or"] := rfl
def fmRec (Fs : List PyData → List PyData → Option (PyData × List PyData)) : DX := (xCall 0 Fs (aCons (vD 1) (aCons (o2 fSub (vD 2) (cD (.int 1))) aNil)))
theorem fm_split (Fs : List PyData → List PyData → Option (PyData × List PyData)) : d__law_formula Fs = (sSeq (sSetX 3 (xCall 0 F__law_pop aNil))
  (sSeq (sIf fmCond (sRet fmAtom) sNil)
  (sSeq (sIf (DL.tB (o2 fEq (o2 fMod (vD 3) (cD (.int 5))) (cD (.int 2))))
    (sRetX (xTup (xaCons (xP (cD (.str "not"))) (xaCons (fmRec Fs) xaNil))))
    sNil)
  (sRetX (xTup (xaCons (xP (o2 fIx (lD aoL) (o2 fMod (vD 3) (cD (.int 2))))) (xaCons (xLc (iR1 (aCons (o2 fAdd (cD (.int 2)) (o2 fMod (o2 fDiv (vD 3) (cD (.int 5))) (cD (.int 2)))) aNil)) 4 (fmRec Fs)) xaNil))))))) := rfl
theorem fm_atom {forms : List PyData} (h1 : 1 ≤ forms.length) (h2 : forms.length ≤ 2) (hf : ∀ b ∈ forms, Fine 2 b) (n : Int) (s0 s2 s4 : Option Sl) (d : Nat) : ∃ f, Fml d f ∧ fmAtom [s0, some (.dat (.list forms)), s2, some (.dat (.int n)), s4] = some f := by
  obtain ⟨len, hlen⟩ : ∃ len : Int, len = (forms.length : Int) := ⟨_, rfl⟩
  have hl1 : 0 < len := by omega
  have hl2 : len < 1073741824 := by omega
  obtain ⟨k, hk, hk'⟩ := nat_mod (n / 5) len hl1
  obtain ⟨j, hj, hj'⟩ := nat_mod (n / 5 / len) 6 (by omega)
  obtain ⟨b, eb, hb⟩ := get_in hf (show k < forms.length by omega)
  obtain ⟨r, er, hr⟩ := get_in (P := fun r => r ∈ rels) (fun y hy => hy) (show j < rels.length by show j < 6; omega)
  have hz3 : 3 ≤ sizeLine := size_ok (by decide)
  refine ⟨.tuple [.str "is", b, r], .atom hb hr, ?_⟩
  simp only [fmAtom, runP, startR, sRet, sRetL, sSeq, sIf, sNil, sSet, oAnd, oOr, oNot, oIf, o1, o2, vD, cD, tB, tV, tNot, tAnd, tOr, aNil, aCons, oC, lD, iD, List.length_cons, List.length_nil, List.map_cons, List.map_nil, List.replicate, List.append_nil, List.cons_append, List.nil_append, List.getElem?_cons_zero, List.getElem?_cons_succ, List.set_cons_zero, List.set_cons_succ, List.set_nil, Option.bind_some, Option.bind_none, Option.map_some, Option.map_none, Nat.zero_add, Nat.reduceAdd, Nat.reduceSub, if_true, if_false, Bool.false_eq_true, reduceCtorEq, Bool.not_true, Bool.not_false, isi_tuple, isi_list, isi_str, isi_int, isi_bool, tyName, beq_self_eq_true, tr_b, tr_t, tr_l, fAdd_i, fSub_i, fLt_i, fLe_i, fGt_i, fGe_i, fNeg_i, fAbs_i, fLen_l, fLen_t, fIsN_n, fNotN_n, fInt_b, fIx_t, fIx_l, items_t, items_l, lLc, wipeR, Bool.not_not, Bool.and_true, Bool.true_and, Bool.and_false, Bool.false_and, Bool.or_true, Bool.true_or, Bool.or_false, Bool.false_or, oTup, ← hlen, div_p (show (0 : Int) < 5 ∧ (5 : Int) < 1073741824 by omega), div_p ⟨hl1, hl2⟩, mod_p hl1, mod_p (show (0 : Int) < 6 by omega), hk, hj, atI_n, relL_eq, eb, er, hz3]
theorem fm_xl {d : Nat} {Fs : List PyData → List PyData → Option (PyData × List PyData)} {forms : List PyData} {deep : Int} (hF : ∀ pool, IntL 14 0 1008 pool → ∃ f pool', Fs pool [.list forms, .int (deep - 1)] = some (f, pool') ∧ Fml d f ∧ IntL 14 0 1008 pool') (s3 : Option Sl) :
    ∀ (ds pool : List PyData), IntL 14 0 1008 pool → ∃ fs pool', fs.length = ds.length ∧ (∀ f ∈ fs, Fml d f) ∧ IntL 14 0 1008 pool' ∧ xlGo 4 (fmRec Fs) ds [some (.own pool), some (.dat (.list forms)), some (.dat (.int deep)), s3, none] = some (fs, [some (.own pool'), some (.dat (.list forms)), some (.dat (.int deep)), s3, none])
  | [], pool, h => ⟨[], pool, rfl, fun f hf => (by simp at hf), h, rfl⟩
  | x :: ds, pool, h => by
    obtain ⟨f, pool1, e, hf, hp⟩ := hF pool h
    obtain ⟨fs, pool2, g1, g2, g3, e2⟩ := fm_xl hF s3 ds pool1 hp
    refine ⟨f :: fs, pool2, by rw [List.length_cons, List.length_cons, g1], fun y hy => (List.mem_cons.mp hy).elim (fun q => by rw [q]; exact hf) (g2 y), g3, ?_⟩
    have e1 : fmRec Fs [some (.own pool), some (.dat (.list forms)), some (.dat (.int deep)), s3, some (.dat x)] = some (f, [some (.own pool1), some (.dat (.list forms)), some (.dat (.int deep)), s3, some (.dat x)]) := by
      simp only [fmRec, xCall, vO, runP, startR, sRet, sRetL, sSeq, sIf, sNil, sSet, oAnd, oOr, oNot, oIf, o1, o2, vD, cD, tB, tV, tNot, tAnd, tOr, aNil, aCons, oC, lD, iD, List.length_cons, List.length_nil, List.map_cons, List.map_nil, List.replicate, List.append_nil, List.cons_append, List.nil_append, List.getElem?_cons_zero, List.getElem?_cons_succ, List.set_cons_zero, List.set_cons_succ, List.set_nil, Option.bind_some, Option.bind_none, Option.map_some, Option.map_none, Nat.zero_add, Nat.reduceAdd, Nat.reduceSub, if_true, if_false, Bool.false_eq_true, reduceCtorEq, Bool.not_true, Bool.not_false, isi_tuple, isi_list, isi_str, isi_int, isi_bool, tyName, beq_self_eq_true, tr_b, tr_t, tr_l, fAdd_i, fSub_i, fLt_i, fLe_i, fGt_i, fGe_i, fNeg_i, fAbs_i, fLen_l, fLen_t, fIsN_n, fNotN_n, fInt_b, fIx_t, fIx_l, items_t, items_l, lLc, wipeR, Bool.not_not, Bool.and_true, Bool.true_and, Bool.and_false, Bool.false_and, Bool.or_true, Bool.true_or, Bool.or_false, Bool.false_or, e]
    show Option.bind (fmRec Fs [some (.own pool), some (.dat (.list forms)), some (.dat (.int deep)), s3, some (.dat x)]) _ = _
    rw [e1]
    show Option.map _ (xlGo 4 (fmRec Fs) ds [some (.own pool1), some (.dat (.list forms)), some (.dat (.int deep)), s3, none]) = _
    rw [e2]
    rfl
theorem formula_eq {forms : List PyData} (h1 : 1 ≤ forms.length) (h2 : forms.length ≤ 2) (hf : ∀ b ∈ forms, Fine 2 b) : ∀ (d m : Nat) (deep : Int) (pool : List PyData), deep = (d : Int) → d < m → IntL 14 0 1008 pool → ∃ f pool', F__law_formula m pool [.list forms, .int deep] = some (f, pool') ∧ Fml d f ∧ IntL 14 0 1008 pool' := by
  intro d
  induction d with
  | zero =>
    intro m deep pool hdeep hm hp
    match m, hm with
    | m + 1, _ =>
      have hd0 : deep = 0 := hdeep
      subst hd0
      have hl3 : ([.list forms, .int 0] : List PyData).length + 1 = 3 := rfl
      obtain ⟨n, pool1, hn, ep, hp1⟩ := pop_eq hp
      have s1 : sSetX 3 (xCall 0 F__law_pop aNil) [some (.own pool), some (.dat (.list forms)), some (.dat (.int 0)), none, none] = some (.nx [some (.own pool1), some (.dat (.list forms)), some (.dat (.int 0)), some (.dat (.int n)), none]) := by
        simp only [sSetX, xCall, vO, runP, startR, sRet, sRetL, sSeq, sIf, sNil, sSet, oAnd, oOr, oNot, oIf, o1, o2, vD, cD, tB, tV, tNot, tAnd, tOr, aNil, aCons, oC, lD, iD, List.length_cons, List.length_nil, List.map_cons, List.map_nil, List.replicate, List.append_nil, List.cons_append, List.nil_append, List.getElem?_cons_zero, List.getElem?_cons_succ, List.set_cons_zero, List.set_cons_succ, List.set_nil, Option.bind_some, Option.bind_none, Option.map_some, Option.map_none, Nat.zero_add, Nat.reduceAdd, Nat.reduceSub, if_true, if_false, Bool.false_eq_true, reduceCtorEq, Bool.not_true, Bool.not_false, isi_tuple, isi_list, isi_str, isi_int, isi_bool, tyName, beq_self_eq_true, tr_b, tr_t, tr_l, fAdd_i, fSub_i, fLt_i, fLe_i, fGt_i, fGe_i, fNeg_i, fAbs_i, fLen_l, fLen_t, fIsN_n, fNotN_n, fInt_b, fIx_t, fIx_l, items_t, items_l, lLc, wipeR, Bool.not_not, Bool.and_true, Bool.true_and, Bool.and_false, Bool.false_and, Bool.or_true, Bool.true_or, Bool.or_false, Bool.false_or, ep]
      obtain ⟨f, hfm, ea⟩ := fm_atom h1 h2 hf n (some (.own pool1)) (some (.dat (.int 0))) none 0
      refine ⟨f, pool1, ?_, hfm, hp1⟩
      have s2 : sIf fmCond (sRet fmAtom) sNil [some (.own pool1), some (.dat (.list forms)), some (.dat (.int 0)), some (.dat (.int n)), none] = some (.rt f [some (.own pool1), some (.dat (.list forms)), some (.dat (.int 0)), some (.dat (.int n)), none]) := by
        have hc : fmCond [some (.own pool1), some (.dat (.list forms)), some (.dat (.int 0)), some (.dat (.int n)), none] = some true := by
          simp only [fmCond, runP, startR, sRet, sRetL, sSeq, sIf, sNil, sSet, oAnd, oOr, oNot, oIf, o1, o2, vD, cD, tB, tV, tNot, tAnd, tOr, aNil, aCons, oC, lD, iD, List.length_cons, List.length_nil, List.map_cons, List.map_nil, List.replicate, List.append_nil, List.cons_append, List.nil_append, List.getElem?_cons_zero, List.getElem?_cons_succ, List.set_cons_zero, List.set_cons_succ, List.set_nil, Option.bind_some, Option.bind_none, Option.map_some, Option.map_none, Nat.zero_add, Nat.reduceAdd, Nat.reduceSub, if_true, if_false, Bool.false_eq_true, reduceCtorEq, Bool.not_true, Bool.not_false, isi_tuple, isi_list, isi_str, isi_int, isi_bool, tyName, beq_self_eq_true, tr_b, tr_t, tr_l, fAdd_i, fSub_i, fLt_i, fLe_i, fGt_i, fGe_i, fNeg_i, fAbs_i, fLen_l, fLen_t, fIsN_n, fNotN_n, fInt_b, fIx_t, fIx_l, items_t, items_l, lLc, wipeR, Bool.not_not, Bool.and_true, Bool.true_and, Bool.and_false, Bool.false_and, Bool.or_true, Bool.true_or, Bool.or_false, Bool.false_or, fEq_ii, show ((0 : Int) == 0) = true by decide]
        unfold sIf
        rw [hc]
        show sRet fmAtom _ = _
        unfold sRet
        rw [ea]
        rfl
      have hst : startO 5 pool [.list forms, .int 0] = [some (.own pool), some (.dat (.list forms)), some (.dat (.int 0)), none, none] := rfl
      unfold F__law_formula runO
      rw [if_pos hl3, fm_split, hst, seq_nx s1]
      show Option.bind (Option.bind (sIf fmCond (sRet fmAtom) sNil _) _) _ = _
      rw [s2]
      rfl
  | succ d ih =>
    intro m deep pool hdeep hm hp
    match m, hm with
    | m + 1, hm =>
      have hF : ∀ pool, IntL 14 0 1008 pool → ∃ f pool', F__law_formula m pool [.list forms, .int (deep - 1)] = some (f, pool') ∧ Fml d f ∧ IntL 14 0 1008 pool' := fun pool hp => ih m (deep - 1) pool (by omega) (by omega) hp
      obtain ⟨n, pool1, hn, ep, hp1⟩ := pop_eq hp
      have s1 : sSetX 3 (xCall 0 F__law_pop aNil) [some (.own pool), some (.dat (.list forms)), some (.dat (.int deep)), none, none] = some (.nx [some (.own pool1), some (.dat (.list forms)), some (.dat (.int deep)), some (.dat (.int n)), none]) := by
        simp only [sSetX, xCall, vO, runP, startR, sRet, sRetL, sSeq, sIf, sNil, sSet, oAnd, oOr, oNot, oIf, o1, o2, vD, cD, tB, tV, tNot, tAnd, tOr, aNil, aCons, oC, lD, iD, List.length_cons, List.length_nil, List.map_cons, List.map_nil, List.replicate, List.append_nil, List.cons_append, List.nil_append, List.getElem?_cons_zero, List.getElem?_cons_succ, List.set_cons_zero, List.set_cons_succ, List.set_nil, Option.bind_some, Option.bind_none, Option.map_some, Option.map_none, Nat.zero_add, Nat.reduceAdd, Nat.reduceSub, if_true, if_false, Bool.false_eq_true, reduceCtorEq, Bool.not_true, Bool.not_false, isi_tuple, isi_list, isi_str, isi_int, isi_bool, tyName, beq_self_eq_true, tr_b, tr_t, tr_l, fAdd_i, fSub_i, fLt_i, fLe_i, fGt_i, fGe_i, fNeg_i, fAbs_i, fLen_l, fLen_t, fIsN_n, fNotN_n, fInt_b, fIx_t, fIx_l, items_t, items_l, lLc, wipeR, Bool.not_not, Bool.and_true, Bool.true_and, Bool.and_false, Bool.false_and, Bool.or_true, Bool.true_or, Bool.or_false, Bool.false_or, ep]
      have hl3 : ([.list forms, .int deep] : List PyData).length + 1 = 3 := rfl
      have hst : startO 5 pool [.list forms, .int deep] = [some (.own pool), some (.dat (.list forms)), some (.dat (.int deep)), none, none] := rfl
      have he : fEq (.list pool1) (.list []) = some (.bool pool1.isEmpty) := by rw [fEq_of hp1.shaped shaped_nil, eqv_ln]
      have hc : ∃ t, fmCond [some (.own pool1), some (.dat (.list forms)), some (.dat (.int deep)), some (.dat (.int n)), none] = some t := by
        have hd : (deep == 0) = false := by
          rw [beq_eq_false_iff_ne]
          omega
        cases hpe : pool1.isEmpty with
        | true => exact ⟨true, by simp only [fmCond, runP, startR, sRet, sRetL, sSeq, sIf, sNil, sSet, oAnd, oOr, oNot, oIf, o1, o2, vD, cD, tB, tV, tNot, tAnd, tOr, aNil, aCons, oC, lD, iD, List.length_cons, List.length_nil, List.map_cons, List.map_nil, List.replicate, List.append_nil, List.cons_append, List.nil_append, List.getElem?_cons_zero, List.getElem?_cons_succ, List.set_cons_zero, List.set_cons_succ, List.set_nil, Option.bind_some, Option.bind_none, Option.map_some, Option.map_none, Nat.zero_add, Nat.reduceAdd, Nat.reduceSub, if_true, if_false, Bool.false_eq_true, reduceCtorEq, Bool.not_true, Bool.not_false, isi_tuple, isi_list, isi_str, isi_int, isi_bool, tyName, beq_self_eq_true, tr_b, tr_t, tr_l, fAdd_i, fSub_i, fLt_i, fLe_i, fGt_i, fGe_i, fNeg_i, fAbs_i, fLen_l, fLen_t, fIsN_n, fNotN_n, fInt_b, fIx_t, fIx_l, items_t, items_l, lLc, wipeR, Bool.not_not, Bool.and_true, Bool.true_and, Bool.and_false, Bool.false_and, Bool.or_true, Bool.true_or, Bool.or_false, Bool.false_or, fEq_ii, hd, vO, lst_nil, he, hpe]⟩
        | false => exact ⟨decide (n % 5 < 2), by simp only [fmCond, runP, startR, sRet, sRetL, sSeq, sIf, sNil, sSet, oAnd, oOr, oNot, oIf, o1, o2, vD, cD, tB, tV, tNot, tAnd, tOr, aNil, aCons, oC, lD, iD, List.length_cons, List.length_nil, List.map_cons, List.map_nil, List.replicate, List.append_nil, List.cons_append, List.nil_append, List.getElem?_cons_zero, List.getElem?_cons_succ, List.set_cons_zero, List.set_cons_succ, List.set_nil, Option.bind_some, Option.bind_none, Option.map_some, Option.map_none, Nat.zero_add, Nat.reduceAdd, Nat.reduceSub, if_true, if_false, Bool.false_eq_true, reduceCtorEq, Bool.not_true, Bool.not_false, isi_tuple, isi_list, isi_str, isi_int, isi_bool, tyName, beq_self_eq_true, tr_b, tr_t, tr_l, fAdd_i, fSub_i, fLt_i, fLe_i, fGt_i, fGe_i, fNeg_i, fAbs_i, fLen_l, fLen_t, fIsN_n, fNotN_n, fInt_b, fIx_t, fIx_l, items_t, items_l, lLc, wipeR, Bool.not_not, Bool.and_true, Bool.true_and, Bool.and_false, Bool.false_and, Bool.or_true, Bool.true_or, Bool.or_false, Bool.false_or, fEq_ii, hd, vO, lst_nil, he, hpe, mod_p (show (0 : Int) < 5 by omega)]⟩
      obtain ⟨t, hc⟩ := hc
      cases t with
      | true =>
        obtain ⟨f, hfm, ea⟩ := fm_atom h1 h2 hf n (some (.own pool1)) (some (.dat (.int deep))) none (d + 1)
        refine ⟨f, pool1, ?_, hfm, hp1⟩
        have s2 : sIf fmCond (sRet fmAtom) sNil [some (.own pool1), some (.dat (.list forms)), some (.dat (.int deep)), some (.dat (.int n)), none] = some (.rt f [some (.own pool1), some (.dat (.list forms)), some (.dat (.int deep)), some (.dat (.int n)), none]) := by
          unfold sIf
          rw [hc]
          show sRet fmAtom _ = _
          unfold sRet
          rw [ea]
          rfl
        unfold F__law_formula runO
        rw [if_pos hl3, fm_split, hst, seq_nx s1]
        show Option.bind (Option.bind (sIf fmCond (sRet fmAtom) sNil _) _) _ = _
        rw [s2]
        rfl
      | false =>
        have s2 : sIf fmCond (sRet fmAtom) sNil [some (.own pool1), some (.dat (.list forms)), some (.dat (.int deep)), some (.dat (.int n)), none] = some (.nx [some (.own pool1), some (.dat (.list forms)), some (.dat (.int deep)), some (.dat (.int n)), none]) := by
          unfold sIf
          rw [hc]
          rfl
        have hz2 : 2 ≤ sizeLine := size_ok (by decide)
        by_cases h5 : n % 5 = 2
        · obtain ⟨f, pool2, e, hfm, hp2⟩ := hF pool1 hp1
          refine ⟨.tuple [.str "not", f], pool2, ?_, .neg hfm, hp2⟩
          have s3 : (sIf (DL.tB (o2 fEq (o2 fMod (vD 3) (cD (.int 5))) (cD (.int 2)))) (sRetX (xTup (xaCons (xP (cD (.str "not"))) (xaCons (fmRec (F__law_formula m)) xaNil)))) sNil) [some (.own pool1), some (.dat (.list forms)), some (.dat (.int deep)), some (.dat (.int n)), none] =
              some (.rt (.tuple [.str "not", f]) [some (.own pool2), some (.dat (.list forms)), some (.dat (.int deep)), some (.dat (.int n)), none]) := by
            simp only [runP, startR, sRet, sRetL, sSeq, sIf, sNil, sSet, oAnd, oOr, oNot, oIf, o1, o2, vD, cD, tB, tV, tNot, tAnd, tOr, aNil, aCons, oC, lD, iD, List.length_cons, List.length_nil, List.map_cons, List.map_nil, List.replicate, List.append_nil, List.cons_append, List.nil_append, List.getElem?_cons_zero, List.getElem?_cons_succ, List.set_cons_zero, List.set_cons_succ, List.set_nil, Option.bind_some, Option.bind_none, Option.map_some, Option.map_none, Nat.zero_add, Nat.reduceAdd, Nat.reduceSub, if_true, if_false, Bool.false_eq_true, reduceCtorEq, Bool.not_true, Bool.not_false, isi_tuple, isi_list, isi_str, isi_int, isi_bool, tyName, beq_self_eq_true, tr_b, tr_t, tr_l, fAdd_i, fSub_i, fLt_i, fLe_i, fGt_i, fGe_i, fNeg_i, fAbs_i, fLen_l, fLen_t, fIsN_n, fNotN_n, fInt_b, fIx_t, fIx_l, items_t, items_l, lLc, wipeR, Bool.not_not, Bool.and_true, Bool.true_and, Bool.and_false, Bool.false_and, Bool.or_true, Bool.true_or, Bool.or_false, Bool.false_or, mod_p (show (0 : Int) < 5 by omega), fEq_ii, h5, show ((2 : Int) == 2) = true by decide, sRetX, xTup, xaCons, xP, fmRec, xCall, vO, xaNil, e, hz2]
          unfold F__law_formula runO
          rw [if_pos hl3, fm_split, hst, seq_nx s1, seq_nx s2]
          show Option.bind (Option.bind (sIf _ _ _ _) _) _ = _
          rw [s3]
          rfl
        · have s3 : (sIf (DL.tB (o2 fEq (o2 fMod (vD 3) (cD (.int 5))) (cD (.int 2)))) (sRetX (xTup (xaCons (xP (cD (.str "not"))) (xaCons (fmRec (F__law_formula m)) xaNil)))) sNil) [some (.own pool1), some (.dat (.list forms)), some (.dat (.int deep)), some (.dat (.int n)), none] =
              some (.nx [some (.own pool1), some (.dat (.list forms)), some (.dat (.int deep)), some (.dat (.int n)), none]) := by
            have h5' : (n % 5 == 2) = false := by
              rw [beq_eq_false_iff_ne]
              exact h5
            simp only [runP, startR, sRet, sRetL, sSeq, sIf, sNil, sSet, oAnd, oOr, oNot, oIf, o1, o2, vD, cD, tB, tV, tNot, tAnd, tOr, aNil, aCons, oC, lD, iD, List.length_cons, List.length_nil, List.map_cons, List.map_nil, List.replicate, List.append_nil, List.cons_append, List.nil_append, List.getElem?_cons_zero, List.getElem?_cons_succ, List.set_cons_zero, List.set_cons_succ, List.set_nil, Option.bind_some, Option.bind_none, Option.map_some, Option.map_none, Nat.zero_add, Nat.reduceAdd, Nat.reduceSub, if_true, if_false, Bool.false_eq_true, reduceCtorEq, Bool.not_true, Bool.not_false, isi_tuple, isi_list, isi_str, isi_int, isi_bool, tyName, beq_self_eq_true, tr_b, tr_t, tr_l, fAdd_i, fSub_i, fLt_i, fLe_i, fGt_i, fGe_i, fNeg_i, fAbs_i, fLen_l, fLen_t, fIsN_n, fNotN_n, fInt_b, fIx_t, fIx_l, items_t, items_l, lLc, wipeR, Bool.not_not, Bool.and_true, Bool.true_and, Bool.and_false, Bool.false_and, Bool.or_true, Bool.true_or, Bool.or_false, Bool.false_or, mod_p (show (0 : Int) < 5 by omega), fEq_ii, h5']
          obtain ⟨k, hk, hk'⟩ := nat_mod n 2 (by omega)
          have hop : ∃ op : Str, (op = "and" ∨ op = "or") ∧ atI [PyData.str "and", .str "or"] (k : Int) = some (.str op) := by
            rw [atI_n]
            have : k = 0 ∨ k = 1 := by omega
            rcases this with rfl | rfl
            · exact ⟨"and", .inl rfl, rfl⟩
            · exact ⟨"or", .inr rfl, rfl⟩
          obtain ⟨op, hop1, hop2⟩ := hop
          obtain ⟨j, hj, hj'⟩ := nat_mod (n / 5) 2 (by omega)
          have hcount : (2 : Int) + n / 5 % 2 = ((2 + j : Nat) : Int) := by omega
          obtain ⟨fs, pool2, g1, g2, g3, e⟩ := fm_xl hF (some (.dat (.int n))) (rng 0 (2 + j)) pool1 hp1
          rw [rng_len] at g1
          refine ⟨.tuple [.str op, .list fs], pool2, ?_, .bin hop1 (by omega) (by omega) g2, g3⟩
          have hr : iR1 (aCons (o2 fAdd (cD (.int 2)) (o2 fMod (o2 fDiv (vD 3) (cD (.int 5))) (cD (.int 2)))) aNil) [some (.own pool1), some (.dat (.list forms)), some (.dat (.int deep)), some (.dat (.int n)), none] = some (rng 0 (2 + j)) :=
            iR1_rng (by simp only [runP, startR, sRet, sRetL, sSeq, sIf, sNil, sSet, oAnd, oOr, oNot, oIf, o1, o2, vD, cD, tB, tV, tNot, tAnd, tOr, aNil, aCons, oC, lD, iD, List.length_cons, List.length_nil, List.map_cons, List.map_nil, List.replicate, List.append_nil, List.cons_append, List.nil_append, List.getElem?_cons_zero, List.getElem?_cons_succ, List.set_cons_zero, List.set_cons_succ, List.set_nil, Option.bind_some, Option.bind_none, Option.map_some, Option.map_none, Nat.zero_add, Nat.reduceAdd, Nat.reduceSub, if_true, if_false, Bool.false_eq_true, reduceCtorEq, Bool.not_true, Bool.not_false, isi_tuple, isi_list, isi_str, isi_int, isi_bool, tyName, beq_self_eq_true, tr_b, tr_t, tr_l, fAdd_i, fSub_i, fLt_i, fLe_i, fGt_i, fGe_i, fNeg_i, fAbs_i, fLen_l, fLen_t, fIsN_n, fNotN_n, fInt_b, fIx_t, fIx_l, items_t, items_l, lLc, wipeR, Bool.not_not, Bool.and_true, Bool.true_and, Bool.and_false, Bool.false_and, Bool.or_true, Bool.true_or, Bool.or_false, Bool.false_or, div_p (show (0 : Int) < 5 ∧ (5 : Int) < 1073741824 by omega), mod_p (show (0 : Int) < 2 by omega), hcount]) (by omega)
          have hzl : (rng 0 (2 + j)).length ≤ sizeLine := size_ok (by rw [rng_len]; omega)
          have hx : xLc (iR1 (aCons (o2 fAdd (cD (.int 2)) (o2 fMod (o2 fDiv (vD 3) (cD (.int 5))) (cD (.int 2)))) aNil)) 4 (fmRec (F__law_formula m)) [some (.own pool1), some (.dat (.list forms)), some (.dat (.int deep)), some (.dat (.int n)), none] = some (.list fs, [some (.own pool2), some (.dat (.list forms)), some (.dat (.int deep)), some (.dat (.int n)), none]) := by
            unfold xLc
            rw [hr]
            show (if _ then _ else _) = _
            rw [if_pos hzl]
            show Option.map _ (xlGo 4 (fmRec (F__law_formula m)) (rng 0 (2 + j)) [some (.own pool1), some (.dat (.list forms)), some (.dat (.int deep)), some (.dat (.int n)), none]) = _
            rw [e]
            rfl
          have s4 : (sRetX (xTup (xaCons (xP (o2 fIx (lD aoL) (o2 fMod (vD 3) (cD (.int 2))))) (xaCons (xLc (iR1 (aCons (o2 fAdd (cD (.int 2)) (o2 fMod (o2 fDiv (vD 3) (cD (.int 5))) (cD (.int 2)))) aNil)) 4 (fmRec (F__law_formula m))) xaNil)))) [some (.own pool1), some (.dat (.list forms)), some (.dat (.int deep)), some (.dat (.int n)), none] =
              some (.rt (.tuple [.str op, .list fs]) [some (.own pool2), some (.dat (.list forms)), some (.dat (.int deep)), some (.dat (.int n)), none]) := by
            simp only [sRetX, xTup, xaCons, xP, o2, lD, aoL_eq, Option.map_some, vD, List.getElem?_cons_succ, List.getElem?_cons_zero, Option.bind_some, cD, mod_p (show (0 : Int) < 2 by omega), hk, fIx_l, hop2]
            have hx' := hx
            simp only [xaNil]
            rw [hx]
            simp only [Option.bind_some, Option.map_some, List.length_cons, List.length_nil, Nat.zero_add, Nat.reduceAdd, hz2, if_true]
          unfold F__law_formula runO
          rw [if_pos hl3, fm_split, hst, seq_nx s1, seq_nx s2, seq_nx s3, s4]
          rfl
end K77

set_option Elab.async false
set_option linter.all false
set_option maxRecDepth 100000
set_option maxHeartbeats 4000000
/-! M16: bent formulas. -/
namespace K77
open PySem DL
open L2 (atI ixN)
theorem stepL_len {α : Type} (xs : List α) (lo hi st : Option Int) : (stepL xs lo hi st).length ≤ xs.length := by
  unfold stepL stepIx
  refine Nat.le_trans (List.length_filterMap_le _ _) (sliceRange_length_le _ _ _ _ (fun hc => ?_) fun hc => ?_)
  · simp only [sliceBounds] at hc ⊢
    simp only [hc, if_true]
    constructor
    · cases lo with
      | none => simp
      | some i => dsimp only; omega
    · cases hi with
      | none => simp
      | some i => dsimp only; omega
  · simp only [sliceBounds] at hc ⊢
    simp only [hc, if_false]
    constructor
    · cases lo with
      | none => simp
      | some i => dsimp only; omega
    · cases hi with
      | none => simp
      | some i => dsimp only; omega
theorem stepL_mem {α : Type} {xs : List α} {lo hi st : Option Int} {x : α} (h : x ∈ stepL xs lo hi st) : x ∈ xs := by
  unfold stepL at h
  obtain ⟨i, _, e⟩ := List.mem_filterMap.mp h
  exact List.mem_of_getElem? e
theorem cutL_mem {α : Type} {xs : List α} {lo hi : Option Int} {x : α} (h : x ∈ cutL xs lo hi) : x ∈ xs := by
  unfold cutL at h
  exact List.mem_of_mem_drop (List.mem_of_mem_take h)
theorem cutL_len {α : Type} (xs : List α) (lo hi : Option Int) : (cutL xs lo hi).length ≤ xs.length := by
  unfold cutL
  rw [List.length_take, List.length_drop]
  omega
theorem cutL_1 {α : Type} (x : α) (l : List α) : cutL (x :: l) (some 1) none = l := by
  unfold cutL
  rw [HT.sIx_none, show (some (1 : Int)) = some ((1 : Nat) : Int) from rfl, HT.sIx_nat]
  have h1 : min 1 (x :: l).length = 1 := by
    rw [List.length_cons]
    omega
  rw [h1, List.drop_one, List.tail_cons, List.length_cons, Nat.add_sub_cancel, List.take_length]
def FineA (n : Nat) (ds : List PyData) : Prop := ∀ d ∈ ds, Fine n d
theorem fa_nil {n : Nat} : FineA n [] := fun d hd => (by simp at hd)
theorem fa_cons {n : Nat} {d : PyData} {ds : List PyData} (h : Fine n d) (k : FineA n ds) : FineA n (d :: ds) := fun x hx => (List.mem_cons.mp hx).elim (fun e => by rw [e]; exact h) (k x)
theorem fa_app {n : Nat} {ds es : List PyData} (h : FineA n ds) (k : FineA n es) : FineA n (ds ++ es) := fun x hx => (List.mem_append.mp hx).elim (h x) (k x)
theorem f_tup {n : Nat} {ds : List PyData} (a : FineA n ds) (h : ds.length ≤ 100) : Fine (n + 1) (.tuple ds) := .tup h a
theorem f_lst {n : Nat} {ds : List PyData} (a : FineA n ds) (h : ds.length ≤ 100) : Fine (n + 1) (.list ds) := .lst h a
def bS1 : DSt := (sOwn 2 (lLst (aCons (cD .none) (aCons (cD (.str "a")) (aCons (oTup aNil) (aCons (lD (lLst (aCons (vD 0) aNil))) (aCons (lD (lList (vD 0))) (aCons (oCatT (vD 0) (oTup (aCons (cD (.int 0)) aNil))) (aCons (oSlT (vD 0) nPart (nSome (o1 fNeg (cD (.int 1))))) (aCons (oCatT (oTup (aCons (cD (.str "nor")) aNil)) (oSlT (vD 0) (nSome (cD (.int 1))) nPart)) (aCons (oCatT (oTup (aCons (cD .none) aNil)) (oSlT (vD 0) (nSome (cD (.int 1))) nPart)) (aCons (oTup (aCons (cD (.str "not")) (aCons (vD 0) aNil))) (aCons (oTup (aCons (cD (.str "and")) (aCons (lD (lLst (aCons (vD 0) aNil))) aNil))) (aCons (oTup (aCons (cD (.str "or")) (aCons (oTup (aCons (vD 0) (aCons (vD 0) aNil))) aNil))) aNil))))))))))))))
def bS2 : DSt := (sOwn 2 (lCat (vO 2) (lLst (aCons (oTup (aCons (cD (.str "is")) (aCons (oTup (aCons (oTup (aCons (cD (.int 0)) (aCons (cD (.int 1)) aNil))) aNil)) (aCons (cD (.str "==")) aNil)))) (aCons (oTup (aCons (cD (.str "is")) (aCons (oTup (aCons (oTup (aCons (cD (.int 0)) (aCons (cD (.int 1)) aNil))) aNil)) (aCons (cD .none) aNil)))) (aCons (oTup (aCons (cD (.str "is")) (aCons (oTup (aCons (oTup (aCons (cD (.int 0)) (aCons (cD (.int 0)) aNil))) aNil)) (aCons (cD (.str "=")) aNil)))) (aCons (oTup (aCons (cD (.str "is")) (aCons (oTup (aCons (oTup (aCons (oTup (aCons (cD (.int 0)) (aCons (cD (.int 1)) aNil))) aNil)) aNil)) (aCons (cD (.str "=")) aNil)))) (aCons (oTup (aCons (cD (.str "is")) (aCons (lD (lLst (aCons (oTup (aCons (cD (.int 0)) (aCons (cD (.int 1)) aNil))) aNil))) (aCons (cD (.str "=")) aNil)))) (aCons (oTup (aCons (cD (.str "is")) (aCons (oTup (aCons (oTup (aCons (cD (.int 0)) (aCons (cD (.int 0)) (aCons (cD (.int 0)) (aCons (cD (.int 1)) aNil))))) aNil)) (aCons (cD (.str "=")) aNil)))) aNil)))))))))
def bS3 : DSt := (sOwn 2 (lCat (vO 2) (lLst (aCons (oTup (aCons (cD (.str "is")) (aCons (oTup (aCons (oTup (aCons (cD (.int 1000001)) aNil)) aNil)) (aCons (cD (.str "=")) aNil)))) aNil))))
def bS4 : DSt := (sOwn 2 (lCat (vO 2) (lLst (aCons (oTup (aCons (cD (.str "is")) (aCons (oTup (aCons (oTup aNil) (aCons (oTup aNil) (aCons (oTup (aCons (cD (.int 1)) aNil)) aNil)))) (aCons (cD (.str "<")) aNil)))) (aCons (oTup (aCons (cD (.str "is")) (aCons (oTup (aCons (oTup (aCons (cD (.int 5)) aNil)) aNil)) (aCons (cD (.str ">=")) aNil)))) (aCons (oTup (aCons (cD (.str "is")) (aCons (oTup aNil) (aCons (cD (.str "=")) aNil)))) (aCons (oTup (aCons (cD (.str "and")) (aCons (lD (lLst (aCons (vD 0) (aCons (cD .none) aNil)))) aNil))) (aCons (oTup (aCons (cD (.str "or")) (aCons (lD (lLst (aCons (vD 0) (aCons (vD 0) (aCons (oTup (aCons (cD (.str "is")) (aCons (oTup (aCons (oTup (aCons (cD (.int 7)) (aCons (cD (.int 1)) aNil))) aNil)) (aCons (cD (.str "<")) aNil)))) aNil))))) aNil))) aNil))))))))
def bPick : DE := (o2 fIx (lD (lLst (aCons (oTup (aCons (o2 fIx (vD 0) (cD (.int 0))) (aCons (lD (lCat (lCat (lSl (asL (vD 3)) nPart (nSome (vD 4))) (lLst (aCons (vD 5) aNil))) (lSl (asL (vD 3)) (nSome (o2 fAdd (vD 4) (cD (.int 1)))) nPart))) aNil))) (aCons (oTup (aCons (cD (.str "not")) (aCons (vD 5) aNil))) aNil)))) (oC fInt (aCons (o2 fEq (o2 fIx (vD 0) (cD (.int 0))) (cD (.str "not"))) aNil)))
def bFor (Fs : List PyData → Option PyData) : DSt := (sFor (iD (lD (lSlS (asL (oC Fs (aCons (o2 fIx (vD 3) (vD 4)) (aCons (lD (lSl (asL (vD 1)) (nSome (cD (.int 1))) nPart)) aNil)))) (nSome (o2 fMod (o2 fIx (vD 1) (cD (.int 0))) (cD (.int 3)))) nPart (nSome (cD (.int 4)))))) (gN 5)
      (sApp 2 bPick))
def bIf (Fs : List PyData → Option PyData) : DSt := (sIf (DL.tB (o2 fNe (o2 fIx (vD 0) (cD (.int 0))) (cD (.str "is"))))
    (sSeq (sSet 3 (oC F__law_within (aCons (vD 0) aNil)))
    (sSeq (sSet 4 (o2 fMod (o2 fIx (vD 1) (cD (.int 0))) (oC fLen (aCons (vD 3) aNil))))
    (bFor Fs)))
    sNil)
theorem be_split (Fs : List PyData → Option PyData) : d__law_bent Fs = sSeq bS1 (sSeq bS2 (sSeq bS3 (sSeq bS4 (sSeq (bIf Fs) (sRetL (vO 2)))))) := rfl
def lA (f : PyData) (l1 l2 l3 l4 l5 : PyData) : List PyData := [.none, .str "a", .tuple [], .list [f], l1, l2, l3, l4, l5, .tuple [.str "not", f], .tuple [.str "and", .list [f]], .tuple [.str "or", .tuple [f, f]]]
def at1 (b c : PyData) : PyData := .tuple [.str "is", b, c]
def r01 : PyData := .tuple [.int 0, .int 1]
def lB : List PyData := [at1 (.tuple [r01]) (.str "=="), at1 (.tuple [r01]) .none, at1 (.tuple [.tuple [.int 0, .int 0]]) (.str "="), at1 (.tuple [.tuple [r01]]) (.str "="), at1 (.list [r01]) (.str "="), at1 (.tuple [.tuple [.int 0, .int 0, .int 0, .int 1]]) (.str "=")]
def lCc : List PyData := [at1 (.tuple [.tuple [.int 1000001]]) (.str "=")]
def lDd (f : PyData) : List PyData := [at1 (.tuple [.tuple [], .tuple [], .tuple [.int 1]]) (.str "<"), at1 (.tuple [.tuple [.int 5]]) (.str ">="), at1 (.tuple []) (.str "="), .tuple [.str "and", .list [f, .none]], .tuple [.str "or", .list [f, f, at1 (.tuple [.tuple [.int 7, .int 1]]) (.str "<")]]]
theorem bS1_2 (a b : PyData) (r : Rho) (x : Option Sl) : bS1 (some (.dat (.tuple [a, b])) :: x :: none :: r) = some (.nx (some (.dat (.tuple [a, b])) :: x :: some (.own (lA (.tuple [a, b]) (.list [a, b]) (.tuple [a, b, .int 0]) (.tuple [a]) (.tuple [.str "nor", b]) (.tuple [.none, b]))) :: r)) := rfl
theorem bS1_3 (a b c : PyData) (r : Rho) (x : Option Sl) : bS1 (some (.dat (.tuple [a, b, c])) :: x :: none :: r) = some (.nx (some (.dat (.tuple [a, b, c])) :: x :: some (.own (lA (.tuple [a, b, c]) (.list [a, b, c]) (.tuple [a, b, c, .int 0]) (.tuple [a, b]) (.tuple [.str "nor", b, c]) (.tuple [.none, b, c]))) :: r)) := rfl
theorem bS2_eq (f : PyData) (l1 l2 l3 l4 l5 : PyData) (r : Rho) (x : Option Sl) : bS2 (some (.dat f) :: x :: some (.own (lA f l1 l2 l3 l4 l5)) :: r) = some (.nx (some (.dat f) :: x :: some (.own (lA f l1 l2 l3 l4 l5 ++ lB)) :: r)) := rfl
theorem bS3_eq (f : PyData) (l1 l2 l3 l4 l5 : PyData) (r : Rho) (x : Option Sl) : bS3 (some (.dat f) :: x :: some (.own (lA f l1 l2 l3 l4 l5 ++ lB)) :: r) = some (.nx (some (.dat f) :: x :: some (.own (lA f l1 l2 l3 l4 l5 ++ lB ++ lCc)) :: r)) := rfl
theorem bS4_eq (f : PyData) (l1 l2 l3 l4 l5 : PyData) (r : Rho) (x : Option Sl) : bS4 (some (.dat f) :: x :: some (.own (lA f l1 l2 l3 l4 l5 ++ lB ++ lCc)) :: r) = some (.nx (some (.dat f) :: x :: some (.own (lA f l1 l2 l3 l4 l5 ++ lB ++ lCc ++ lDd f)) :: r)) := rfl
theorem bent_fine {n : Nat} {f l1 l2 l3 l4 l5 : PyData} (hf : Fine (n + 3) f) (h1 : Fine (n + 5) l1) (h2 : Fine (n + 5) l2) (h3 : Fine (n + 5) l3) (h4 : Fine (n + 5) l4) (h5 : Fine (n + 5) l5) : FineA (n + 5) (lA f l1 l2 l3 l4 l5 ++ lB ++ lCc ++ lDd f) := by
  unfold lA lB lCc lDd at1 r01
  refine fa_app (fa_app (fa_app ?_ ?_) ?_) ?_
  all_goals repeat (first | exact fa_nil | refine fa_cons ?_ ?_ | assumption | exact .non | exact .int _ | exact hf.mono (by omega) | exact fine_s _ (by decide +kernel) (by decide +kernel) | exact f_tup (by refine fa_nil) (by simp) | refine f_tup ?_ (by simp) | refine f_lst ?_ (by simp))
/-- the rest, where the formula has parts -/
def bP (op : Str) (l : List PyData) (k : Nat) (one : PyData) : PyData := if op = "not" then .tuple [.str "not", one] else .tuple [.str op, .list (cutL l none (some (k : Int)) ++ [one] ++ cutL l (some ((k : Int) + 1)) none)]
theorem bpick_eq {op : Str} (hop : op = "not" ∨ op = "and" ∨ op = "or") (y : PyData) (l : List PyData) (hl : l.length ≤ 3) (k : Nat) (one : PyData) (x1 x2 : Option Sl) : bPick [some (.dat (.tuple [.str op, y])), x1, x2, some (.dat (.list l)), some (.dat (.int (k : Int))), some (.dat one)] = some (bP op l k one) := by
  have hz1 : 1 ≤ sizeLine := size_ok (by decide)
  have hz2 : 2 ≤ sizeLine := size_ok (by decide)
  have hc1 := cutL_len l none (some (k : Int))
  have hc2 := cutL_len l (some ((k : Int) + 1)) none
  have hz3 : (cutL l none (some (k : Int))).length + 1 ≤ sizeLine := size_ok (by omega)
  have hz4 : (cutL l none (some (k : Int)) ++ [one]).length + (cutL l (some ((k : Int) + 1)) none).length ≤ sizeLine := size_ok (by rw [List.length_append, List.length_singleton]; omega)
  have hs : SeqAt.shaped (.str op) = true := by rcases hop with rfl | rfl | rfl <;> decide +kernel
  have hq : isS "not" (.str op) = decide (op = "not") := by
    rw [Bool.eq_iff_iff, isS_iff, decide_eq_true_eq]
    exact ⟨fun h => by cases h; rfl, fun h => by rw [h]⟩
  simp only [bPick, runP, startR, sRet, sRetL, sSeq, sIf, sNil, sSet, oAnd, oOr, oNot, oIf, o1, o2, vD, cD, tB, tV, tNot, tAnd, tOr, aNil, aCons, oC, lD, iD, List.length_cons, List.length_nil, List.map_cons, List.map_nil, List.replicate, List.append_nil, List.cons_append, List.nil_append, List.getElem?_cons_zero, List.getElem?_cons_succ, List.set_cons_zero, List.set_cons_succ, List.set_nil, Option.bind_some, Option.bind_none, Option.map_some, Option.map_none, Nat.zero_add, Nat.reduceAdd, Nat.reduceSub, if_true, if_false, Bool.false_eq_true, reduceCtorEq, Bool.not_true, Bool.not_false, isi_tuple, isi_list, isi_str, isi_int, isi_bool, tyName, beq_self_eq_true, tr_b, tr_t, tr_l, fAdd_i, fSub_i, fLt_i, fLe_i, fGt_i, fGe_i, fNeg_i, fAbs_i, fLen_l, fLen_t, fIsN_n, fNotN_n, fInt_b, fIx_t, fIx_l, items_t, items_l, lLc, wipeR, Bool.not_not, Bool.and_true, Bool.true_and, Bool.and_false, Bool.false_and, Bool.or_true, Bool.true_or, Bool.or_false, Bool.false_or, atI_0, sb "not" (by decide +kernel) hs, hq, lLst, oTup, lCat, lSl, asL, nPart, nSome, hz1, hz2, hz3, hz4, bP]
  by_cases h : op = "not"
  · simp only [decide_eq_true h, if_true, if_pos h, atI_1]
  · simp only [decide_eq_false h, Bool.false_eq_true, if_false, if_neg h, atI_0]
theorem bgo {op : Str} (hop : op = "not" ∨ op = "and" ∨ op = "or") (y : PyData) (l : List PyData) (hl : l.length ≤ 3) (k : Nat) (x1 : Option Sl) : ∀ (ds found : List PyData) (x5 : Option Sl), found.length + ds.length ≤ 900 → ∃ y5,
    forGo (gN 5) (sApp 2 bPick) ds [some (.dat (.tuple [.str op, y])), x1, some (.own found), some (.dat (.list l)), some (.dat (.int (k : Int))), x5] = some (.nx [some (.dat (.tuple [.str op, y])), x1, some (.own (found ++ ds.map (bP op l k))), some (.dat (.list l)), some (.dat (.int (k : Int))), y5])
  | [], found, x5, _ => ⟨x5, by rw [List.map_nil, List.append_nil]; rfl⟩
  | one :: ds, found, x5, hz => by
    rw [List.length_cons] at hz
    obtain ⟨y5, e⟩ := bgo hop y l hl k x1 ds (found ++ [bP op l k one]) (some (.dat one)) (by rw [List.length_append, List.length_singleton]; omega)
    have eb : sApp 2 bPick [some (.dat (.tuple [.str op, y])), x1, some (.own found), some (.dat (.list l)), some (.dat (.int (k : Int))), some (.dat one)] = some (.nx [some (.dat (.tuple [.str op, y])), x1, some (.own (found ++ [bP op l k one])), some (.dat (.list l)), some (.dat (.int (k : Int))), some (.dat one)]) := by
      simp only [sApp, vO, List.getElem?_cons_succ, List.getElem?_cons_zero, Option.bind_some, bpick_eq hop y l hl k one, if_pos (small_lt (show found.length < 1000 by omega)), List.set_cons_succ, List.set_cons_zero]
    refine ⟨y5, ?_⟩
    show Option.bind (sApp 2 bPick [some (.dat (.tuple [.str op, y])), x1, some (.own found), some (.dat (.list l)), some (.dat (.int (k : Int))), some (.dat one)]) _ = _
    rw [eb]
    refine e.trans ?_
    rw [List.map_cons, List.append_assoc, List.singleton_append]
theorem bP_fine {n : Nat} {op : Str} (hop : op = "not" ∨ op = "and" ∨ op = "or") {l : List PyData} (hl : l.length ≤ 3) (hf : FineA n l) {one : PyData} (h1 : Fine n one) (k : Nat) : Fine (n + 2) (bP op l k one) := by
  have hs : ∀ {m : Nat}, Fine m (.str op) := by rcases hop with rfl | rfl | rfl <;> exact fine_s _ (by decide +kernel) (by decide +kernel)
  unfold bP
  split
  · exact f_tup (fa_cons (fine_s _ (by decide +kernel) (by decide +kernel)) (fa_cons (h1.mono (by omega)) fa_nil)) (by simp)
  · have hc1 := cutL_len l none (some (k : Int))
    have hc2 := cutL_len l (some ((k : Int) + 1)) none
    refine f_tup (fa_cons hs (fa_cons (f_lst (fa_app (fa_app (fun x hx => hf x (cutL_mem hx)) (fa_cons h1 fa_nil)) fun x hx => hf x (cutL_mem hx)) ?_) fa_nil)) (by simp)
    rw [List.length_append, List.length_append, List.length_singleton]
    omega
theorem bif_eq {d : Nat} {op : Str} (hop : op = "not" ∨ op = "and" ∨ op = "or") {y : PyData} {l : List PyData} (hl1 : 1 ≤ l.length) (hl : l.length ≤ 3) (hw : F__law_within [.tuple [.str op, y]] = some (.list l)) {n0 : Int} {rest : List PyData} {Fs : List PyData → Option PyData}
    (hF : ∀ g ∈ l, ∃ items, Fs [g, .list rest] = some (.list items) ∧ items.length ≤ 24 * (d + 1) ∧ FineA (2 * d + 5) items) (hlf : FineA (2 * d + 5) l) (hd : d ≤ 10) {found : List PyData} (hfl : found.length ≤ 24) (hff : FineA (2 * (d + 1) + 5) found) :
    ∃ found' y3 y4 y5, found'.length ≤ 24 * (d + 1 + 1) ∧ FineA (2 * (d + 1) + 5) found' ∧ bIf Fs [some (.dat (.tuple [.str op, y])), some (.dat (.list (.int n0 :: rest))), some (.own found), none, none, none] = some (.nx [some (.dat (.tuple [.str op, y])), some (.dat (.list (.int n0 :: rest))), some (.own found'), y3, y4, y5]) := by
  obtain ⟨len, hlen⟩ : ∃ len : Int, len = (l.length : Int) := ⟨_, rfl⟩
  have hl0 : 0 < len := by omega
  obtain ⟨k, hk, hk'⟩ := nat_mod n0 len hl0
  have hkl : k < l.length := by omega
  obtain ⟨g, eg, items, ei, hi1, hi2⟩ := get_in hF hkl
  obtain ⟨s, hs, hs'⟩ := nat_mod n0 3 (by omega)
  have hsl := stepL_len items (some (s : Int)) none (some 4)
  obtain ⟨y5, e⟩ := bgo hop y l hl k (some (.dat (.list (.int n0 :: rest)))) (stepL items (some (s : Int)) none (some 4)) found none (by omega)
  refine ⟨found ++ (stepL items (some (s : Int)) none (some 4)).map (bP op l k), some (.dat (.list l)), some (.dat (.int (k : Int))), y5, ?_, ?_, ?_⟩
  · rw [List.length_append, List.length_map]
    omega
  · refine fa_app hff fun x hx => ?_
    obtain ⟨one, ho, rfl⟩ := List.mem_map.mp hx
    exact bP_fine (n := 2 * d + 5) hop hl hlf (hi2 one (stepL_mem ho)) k
  · have hss : SeqAt.shaped (.str op) = true := by rcases hop with rfl | rfl | rfl <;> decide +kernel
    have hq : isS "is" (.str op) = false := by rcases hop with rfl | rfl | rfl <;> decide +kernel
    have hne : fNe (.str op) (.str "is") = some (.bool true) := by rw [fNe_of hss (by decide +kernel), eqv_s, hq]; rfl
    have hc : DL.tB (o2 fNe (o2 fIx (vD 0) (cD (.int 0))) (cD (.str "is"))) [some (.dat (.tuple [.str op, y])), some (.dat (.list (.int n0 :: rest))), some (.own found), none, none, none] = some true := by
      simp only [runP, startR, sRet, sRetL, sSeq, sIf, sNil, sSet, oAnd, oOr, oNot, oIf, o1, o2, vD, cD, tB, tV, tNot, tAnd, tOr, aNil, aCons, oC, lD, iD, List.length_cons, List.length_nil, List.map_cons, List.map_nil, List.replicate, List.append_nil, List.cons_append, List.nil_append, List.getElem?_cons_zero, List.getElem?_cons_succ, List.set_cons_zero, List.set_cons_succ, List.set_nil, Option.bind_some, Option.bind_none, Option.map_some, Option.map_none, Nat.zero_add, Nat.reduceAdd, Nat.reduceSub, if_true, if_false, Bool.false_eq_true, reduceCtorEq, Bool.not_true, Bool.not_false, isi_tuple, isi_list, isi_str, isi_int, isi_bool, tyName, beq_self_eq_true, tr_b, tr_t, tr_l, fAdd_i, fSub_i, fLt_i, fLe_i, fGt_i, fGe_i, fNeg_i, fAbs_i, fLen_l, fLen_t, fIsN_n, fNotN_n, fInt_b, fIx_t, fIx_l, items_t, items_l, lLc, wipeR, Bool.not_not, Bool.and_true, Bool.true_and, Bool.and_false, Bool.false_and, Bool.or_true, Bool.true_or, Bool.or_false, Bool.false_or, atI_0, hne]
    have s3 : sSet 3 (oC F__law_within (aCons (vD 0) aNil)) [some (.dat (.tuple [.str op, y])), some (.dat (.list (.int n0 :: rest))), some (.own found), none, none, none] = some (.nx [some (.dat (.tuple [.str op, y])), some (.dat (.list (.int n0 :: rest))), some (.own found), some (.dat (.list l)), none, none]) := by
      simp only [runP, startR, sRet, sRetL, sSeq, sIf, sNil, sSet, oAnd, oOr, oNot, oIf, o1, o2, vD, cD, tB, tV, tNot, tAnd, tOr, aNil, aCons, oC, lD, iD, List.length_cons, List.length_nil, List.map_cons, List.map_nil, List.replicate, List.append_nil, List.cons_append, List.nil_append, List.getElem?_cons_zero, List.getElem?_cons_succ, List.set_cons_zero, List.set_cons_succ, List.set_nil, Option.bind_some, Option.bind_none, Option.map_some, Option.map_none, Nat.zero_add, Nat.reduceAdd, Nat.reduceSub, if_true, if_false, Bool.false_eq_true, reduceCtorEq, Bool.not_true, Bool.not_false, isi_tuple, isi_list, isi_str, isi_int, isi_bool, tyName, beq_self_eq_true, tr_b, tr_t, tr_l, fAdd_i, fSub_i, fLt_i, fLe_i, fGt_i, fGe_i, fNeg_i, fAbs_i, fLen_l, fLen_t, fIsN_n, fNotN_n, fInt_b, fIx_t, fIx_l, items_t, items_l, lLc, wipeR, Bool.not_not, Bool.and_true, Bool.true_and, Bool.and_false, Bool.false_and, Bool.or_true, Bool.true_or, Bool.or_false, Bool.false_or, hw]
    have s4 : sSet 4 (o2 fMod (o2 fIx (vD 1) (cD (.int 0))) (oC fLen (aCons (vD 3) aNil))) [some (.dat (.tuple [.str op, y])), some (.dat (.list (.int n0 :: rest))), some (.own found), some (.dat (.list l)), none, none] = some (.nx [some (.dat (.tuple [.str op, y])), some (.dat (.list (.int n0 :: rest))), some (.own found), some (.dat (.list l)), some (.dat (.int (k : Int))), none]) := by
      simp only [runP, startR, sRet, sRetL, sSeq, sIf, sNil, sSet, oAnd, oOr, oNot, oIf, o1, o2, vD, cD, tB, tV, tNot, tAnd, tOr, aNil, aCons, oC, lD, iD, List.length_cons, List.length_nil, List.map_cons, List.map_nil, List.replicate, List.append_nil, List.cons_append, List.nil_append, List.getElem?_cons_zero, List.getElem?_cons_succ, List.set_cons_zero, List.set_cons_succ, List.set_nil, Option.bind_some, Option.bind_none, Option.map_some, Option.map_none, Nat.zero_add, Nat.reduceAdd, Nat.reduceSub, if_true, if_false, Bool.false_eq_true, reduceCtorEq, Bool.not_true, Bool.not_false, isi_tuple, isi_list, isi_str, isi_int, isi_bool, tyName, beq_self_eq_true, tr_b, tr_t, tr_l, fAdd_i, fSub_i, fLt_i, fLe_i, fGt_i, fGe_i, fNeg_i, fAbs_i, fLen_l, fLen_t, fIsN_n, fNotN_n, fInt_b, fIx_t, fIx_l, items_t, items_l, lLc, wipeR, Bool.not_not, Bool.and_true, Bool.true_and, Bool.and_false, Bool.false_and, Bool.or_true, Bool.true_or, Bool.or_false, Bool.false_or, atI_0, ← hlen, mod_p hl0, hk]
    have hlz : (stepL items (some (s : Int)) none (some 4)).length ≤ sizeLine := size_ok (by omega)
    have h44 : (some (4 : Int) ≠ some 0) := by decide
    have s5 : bFor Fs [some (.dat (.tuple [.str op, y])), some (.dat (.list (.int n0 :: rest))), some (.own found), some (.dat (.list l)), some (.dat (.int (k : Int))), none] = some (.nx [some (.dat (.tuple [.str op, y])), some (.dat (.list (.int n0 :: rest))), some (.own (found ++ (stepL items (some (s : Int)) none (some 4)).map (bP op l k))), some (.dat (.list l)), some (.dat (.int (k : Int))), y5]) := by
      unfold bFor sFor
      have hsrc : (iD (lD (lSlS (asL (oC Fs (aCons (o2 fIx (vD 3) (vD 4)) (aCons (lD (lSl (asL (vD 1)) (nSome (cD (.int 1))) nPart)) aNil)))) (nSome (o2 fMod (o2 fIx (vD 1) (cD (.int 0))) (cD (.int 3)))) nPart (nSome (cD (.int 4)))))) [some (.dat (.tuple [.str op, y])), some (.dat (.list (.int n0 :: rest))), some (.own found), some (.dat (.list l)), some (.dat (.int (k : Int))), none] = some (stepL items (some (s : Int)) none (some 4)) := by
        simp only [lSlS, runP, startR, sRet, sRetL, sSeq, sIf, sNil, sSet, oAnd, oOr, oNot, oIf, o1, o2, vD, cD, tB, tV, tNot, tAnd, tOr, aNil, aCons, oC, lD, iD, List.length_cons, List.length_nil, List.map_cons, List.map_nil, List.replicate, List.append_nil, List.cons_append, List.nil_append, List.getElem?_cons_zero, List.getElem?_cons_succ, List.set_cons_zero, List.set_cons_succ, List.set_nil, Option.bind_some, Option.bind_none, Option.map_some, Option.map_none, Nat.zero_add, Nat.reduceAdd, Nat.reduceSub, if_true, if_false, Bool.false_eq_true, reduceCtorEq, Bool.not_true, Bool.not_false, isi_tuple, isi_list, isi_str, isi_int, isi_bool, tyName, beq_self_eq_true, tr_b, tr_t, tr_l, fAdd_i, fSub_i, fLt_i, fLe_i, fGt_i, fGe_i, fNeg_i, fAbs_i, fLen_l, fLen_t, fIsN_n, fNotN_n, fInt_b, fIx_t, fIx_l, items_t, items_l, lLc, wipeR, Bool.not_not, Bool.and_true, Bool.true_and, Bool.and_false, Bool.false_and, Bool.or_true, Bool.true_or, Bool.or_false, Bool.false_or, asL, atI_n, eg, lSl, nSome, nPart, cutL_1, ei, atI_0, mod_p (show (0 : Int) < 3 by omega), hs, hlz, h44, ne_eq, not_false_eq_true, and_self]
      rw [hsrc]
      exact e
    unfold bIf sIf
    rw [hc]
    show sSeq _ _ _ = _
    rw [seq_nx s3, seq_nx s4, s5]
theorem fml_head {d : Nat} {f : PyData} (h : Fml d f) : (∃ b r, f = .tuple [.str "is", b, r] ∧ Fine 2 b ∧ r ∈ rels) ∨ (∃ d' op y l, d = d' + 1 ∧ f = .tuple [.str op, y] ∧ (op = "not" ∨ op = "and" ∨ op = "or") ∧ parts f = some l ∧ 1 ≤ l.length ∧ l.length ≤ 3 ∧ ∀ g ∈ l, Fml d' g) := by
  cases h with
  | atom hb hr => exact .inl ⟨_, _, rfl, hb, hr⟩
  | @neg d f h => exact .inr ⟨_, "not", f, [f], rfl, rfl, .inl rfl, rfl, by simp, by simp, fun g hg => by rw [List.mem_singleton.mp hg]; exact h⟩
  | @bin d op l ho h2 h3 a =>
    refine .inr ⟨_, op, .list l, l, rfl, rfl, .inr ho, ?_, by omega, h3, a⟩
    rcases ho with rfl | rfl
    · simp only [parts, show isS "not" (.str "and") = false by decide +kernel, show (isS "and" (.str "and") || isS "or" (.str "and")) = true by decide +kernel, Bool.false_eq_true, if_false, if_true, if_pos h2]
    · simp only [parts, show isS "not" (.str "or") = false by decide +kernel, show (isS "and" (.str "or") || isS "or" (.str "or")) = true by decide +kernel, Bool.false_eq_true, if_false, if_true, if_pos h2]
theorem bent_eq : ∀ (d m : Nat) (f : PyData) (nums : List PyData), Fml d f → d < m → d ≤ 10 → d < nums.length → (∀ y ∈ nums, InN 0 1008 y) → ∃ items, F__law_bent m [f, .list nums] = some (.list items) ∧ items.length ≤ 24 * (d + 1) ∧ FineA (2 * d + 5) items := by
  intro d
  induction d with
  | zero =>
    intro m f nums hf hm hd hn hb
    match m, hm with
    | m + 1, _ =>
      rcases fml_head hf with ⟨b, r, rfl, hb2, hr⟩ | ⟨d', op, y, l, hd', _⟩
      · have hfr : ∀ {k : Nat}, Fine k r := fine_rel hr
        have hss : ∀ {k : Nat}, Fine k (.str "is") := fine_s _ (by decide +kernel) (by decide +kernel)
        refine ⟨_, ?_, ?_, bent_fine (n := 0) hf.fine (f_lst (fa_cons hss (fa_cons (hb2.mono (by omega)) (fa_cons hfr fa_nil))) (by simp)) (f_tup (fa_cons hss (fa_cons (hb2.mono (by omega)) (fa_cons hfr (fa_cons (.int 0) fa_nil)))) (by simp)) (f_tup (fa_cons hss (fa_cons (hb2.mono (by omega)) fa_nil)) (by simp))
          (f_tup (fa_cons (fine_s "nor" (by decide +kernel) (by decide +kernel)) (fa_cons (hb2.mono (by omega)) (fa_cons hfr fa_nil))) (by simp)) (f_tup (fa_cons .non (fa_cons (hb2.mono (by omega)) (fa_cons hfr fa_nil))) (by simp))⟩
        · have hst : startR 6 [.tuple [.str "is", b, r], .list nums] = [some (.dat (.tuple [.str "is", b, r])), some (.dat (.list nums)), none, none, none, none] := rfl
          have hl : ([.tuple [.str "is", b, r], .list nums] : List PyData).length = 2 := rfl
          have hne : fNe (.str "is") (.str "is") = some (.bool false) := by rw [fNe_of (by decide +kernel) (by decide +kernel), eqv_s]; rfl
          have s5 : ∀ found : List PyData, bIf (F__law_bent m) [some (.dat (.tuple [.str "is", b, r])), some (.dat (.list nums)), some (.own found), none, none, none] = some (.nx [some (.dat (.tuple [.str "is", b, r])), some (.dat (.list nums)), some (.own found), none, none, none]) := fun found => by
            have hc : DL.tB (o2 fNe (o2 fIx (vD 0) (cD (.int 0))) (cD (.str "is"))) [some (.dat (.tuple [.str "is", b, r])), some (.dat (.list nums)), some (.own found), none, none, none] = some false := by
              simp only [runP, startR, sRet, sRetL, sSeq, sIf, sNil, sSet, oAnd, oOr, oNot, oIf, o1, o2, vD, cD, tB, tV, tNot, tAnd, tOr, aNil, aCons, oC, lD, iD, List.length_cons, List.length_nil, List.map_cons, List.map_nil, List.replicate, List.append_nil, List.cons_append, List.nil_append, List.getElem?_cons_zero, List.getElem?_cons_succ, List.set_cons_zero, List.set_cons_succ, List.set_nil, Option.bind_some, Option.bind_none, Option.map_some, Option.map_none, Nat.zero_add, Nat.reduceAdd, Nat.reduceSub, if_true, if_false, Bool.false_eq_true, reduceCtorEq, Bool.not_true, Bool.not_false, isi_tuple, isi_list, isi_str, isi_int, isi_bool, tyName, beq_self_eq_true, tr_b, tr_t, tr_l, fAdd_i, fSub_i, fLt_i, fLe_i, fGt_i, fGe_i, fNeg_i, fAbs_i, fLen_l, fLen_t, fIsN_n, fNotN_n, fInt_b, fIx_t, fIx_l, items_t, items_l, lLc, wipeR, Bool.not_not, Bool.and_true, Bool.true_and, Bool.and_false, Bool.false_and, Bool.or_true, Bool.true_or, Bool.or_false, Bool.false_or, atI_0, hne]
            unfold bIf sIf
            rw [hc]
            rfl
          unfold F__law_bent runP
          rw [if_pos hl, be_split, hst, seq_nx (bS1_3 _ _ _ _ _), seq_nx (bS2_eq _ _ _ _ _ _ _ _), seq_nx (bS3_eq _ _ _ _ _ _ _ _), seq_nx (bS4_eq _ _ _ _ _ _ _ _), seq_nx (s5 _)]
          rfl
        · simp [lA, lB, lCc, lDd]
      · cases hd'
  | succ d ih =>
    intro m f nums hf hm hd hn hb
    match m, hm with
    | m + 1, hm =>
      have hff := hf.fine
      rcases fml_head hf with ⟨b, r, rfl, hb2, hr⟩ | ⟨d', op, y, l, hd', rfl, hop, hp, hl1, hl3, hg⟩
      · have hfr : ∀ {k : Nat}, Fine k r := fine_rel hr
        have hss : ∀ {k : Nat}, Fine k (.str "is") := fine_s _ (by decide +kernel) (by decide +kernel)
        refine ⟨_, ?_, ?_, bent_fine (n := 2 * (d + 1)) hff (f_lst (fa_cons hss (fa_cons (hb2.mono (by omega)) (fa_cons hfr fa_nil))) (by simp)) (f_tup (fa_cons hss (fa_cons (hb2.mono (by omega)) (fa_cons hfr (fa_cons (.int 0) fa_nil)))) (by simp)) (f_tup (fa_cons hss (fa_cons (hb2.mono (by omega)) fa_nil)) (by simp))
          (f_tup (fa_cons (fine_s "nor" (by decide +kernel) (by decide +kernel)) (fa_cons (hb2.mono (by omega)) (fa_cons hfr fa_nil))) (by simp)) (f_tup (fa_cons .non (fa_cons (hb2.mono (by omega)) (fa_cons hfr fa_nil))) (by simp))⟩
        · have hst : startR 6 [.tuple [.str "is", b, r], .list nums] = [some (.dat (.tuple [.str "is", b, r])), some (.dat (.list nums)), none, none, none, none] := rfl
          have hl : ([.tuple [.str "is", b, r], .list nums] : List PyData).length = 2 := rfl
          have hne : fNe (.str "is") (.str "is") = some (.bool false) := by rw [fNe_of (by decide +kernel) (by decide +kernel), eqv_s]; rfl
          have s5 : ∀ found : List PyData, bIf (F__law_bent m) [some (.dat (.tuple [.str "is", b, r])), some (.dat (.list nums)), some (.own found), none, none, none] = some (.nx [some (.dat (.tuple [.str "is", b, r])), some (.dat (.list nums)), some (.own found), none, none, none]) := fun found => by
            have hc : DL.tB (o2 fNe (o2 fIx (vD 0) (cD (.int 0))) (cD (.str "is"))) [some (.dat (.tuple [.str "is", b, r])), some (.dat (.list nums)), some (.own found), none, none, none] = some false := by
              simp only [runP, startR, sRet, sRetL, sSeq, sIf, sNil, sSet, oAnd, oOr, oNot, oIf, o1, o2, vD, cD, tB, tV, tNot, tAnd, tOr, aNil, aCons, oC, lD, iD, List.length_cons, List.length_nil, List.map_cons, List.map_nil, List.replicate, List.append_nil, List.cons_append, List.nil_append, List.getElem?_cons_zero, List.getElem?_cons_succ, List.set_cons_zero, List.set_cons_succ, List.set_nil, Option.bind_some, Option.bind_none, Option.map_some, Option.map_none, Nat.zero_add, Nat.reduceAdd, Nat.reduceSub, if_true, if_false, Bool.false_eq_true, reduceCtorEq, Bool.not_true, Bool.not_false, isi_tuple, isi_list, isi_str, isi_int, isi_bool, tyName, beq_self_eq_true, tr_b, tr_t, tr_l, fAdd_i, fSub_i, fLt_i, fLe_i, fGt_i, fGe_i, fNeg_i, fAbs_i, fLen_l, fLen_t, fIsN_n, fNotN_n, fInt_b, fIx_t, fIx_l, items_t, items_l, lLc, wipeR, Bool.not_not, Bool.and_true, Bool.true_and, Bool.and_false, Bool.false_and, Bool.or_true, Bool.true_or, Bool.or_false, Bool.false_or, atI_0, hne]
            unfold bIf sIf
            rw [hc]
            rfl
          unfold F__law_bent runP
          rw [if_pos hl, be_split, hst, seq_nx (bS1_3 _ _ _ _ _), seq_nx (bS2_eq _ _ _ _ _ _ _ _), seq_nx (bS3_eq _ _ _ _ _ _ _ _), seq_nx (bS4_eq _ _ _ _ _ _ _ _), seq_nx (s5 _)]
          rfl
        · simp only [lA, lB, lCc, lDd, List.length_append, List.length_cons, List.length_nil]
          omega
      · cases hd'
        match nums, hn, hb with
        | n0 :: rest, hn, hb =>
          obtain ⟨i0, rfl, _⟩ := hb n0 (List.mem_cons_self ..)
          rw [List.length_cons] at hn
          obtain ⟨_, mm, hmm, hall⟩ := fine_tl hff
          have hmm' : mm = 2 * d + 4 := by omega
          subst hmm'
          have ha : Fine (2 * d + 4) (.str op) := hall _ (by simp)
          have hy : Fine (2 * d + 4) y := hall _ (by simp)
          have hw : F__law_within [.tuple [.str op, y]] = some (.list l) := by rw [lwithin_eq _ hff (by omega), hp] <;> rfl
          obtain ⟨found', y3, y4, y5, g1, g2, s5⟩ := bif_eq (d := d) (Fs := F__law_bent m) (n0 := i0) (rest := rest) (found := lA (.tuple [.str op, y]) (.list [.str op, y]) (.tuple [.str op, y, .int 0]) (.tuple [.str op]) (.tuple [.str "nor", y]) (.tuple [.none, y]) ++ lB ++ lCc ++ lDd (.tuple [.str op, y])) hop hl1 hl3 hw
            (fun g hgm => ih m g rest (hg g hgm) (by omega) (by omega) (by omega) fun z hz => hb z (List.mem_cons_of_mem _ hz)) (fun g hgm => (hg g hgm).fine.mono (by omega)) (by omega) (by simp [lA, lB, lCc, lDd])
            (bent_fine (n := 2 * (d + 1)) hff (f_lst (fa_cons (ha.mono (by omega)) (fa_cons (hy.mono (by omega)) fa_nil)) (by simp)) (f_tup (fa_cons (ha.mono (by omega)) (fa_cons (hy.mono (by omega)) (fa_cons (.int 0) fa_nil))) (by simp)) (f_tup (fa_cons (ha.mono (by omega)) fa_nil) (by simp))
              (f_tup (fa_cons (fine_s "nor" (by decide +kernel) (by decide +kernel)) (fa_cons (hy.mono (by omega)) fa_nil)) (by simp)) (f_tup (fa_cons .non (fa_cons (hy.mono (by omega)) fa_nil)) (by simp)))
          refine ⟨found', ?_, g1, g2⟩
          have hst : startR 6 [.tuple [.str op, y], .list (.int i0 :: rest)] = [some (.dat (.tuple [.str op, y])), some (.dat (.list (.int i0 :: rest))), none, none, none, none] := rfl
          have hl : ([.tuple [.str op, y], .list (.int i0 :: rest)] : List PyData).length = 2 := rfl
          unfold F__law_bent runP
          rw [if_pos hl, be_split, hst, seq_nx (bS1_2 _ _ _ _), seq_nx (bS2_eq _ _ _ _ _ _ _ _), seq_nx (bS3_eq _ _ _ _ _ _ _ _), seq_nx (bS4_eq _ _ _ _ _ _ _ _), seq_nx s5]
          rfl
end K77

set_option Elab.async false
set_option linter.all false
set_option maxRecDepth 100000
set_option maxHeartbeats 4000000
/-! M17: one value checked. -/
namespace K77
open PySem DL
open L2 (atI ixN)
def ckCond : Rho → Option Bool := (DL.tOr (DL.tB (o2 fNe (oC F__law_refusal (aCons (oC (F__law_copied 80) (aCons (vD 13) aNil)) aNil)) (vD 14))) (DL.tOr (DL.tNot (tV (o1 (fIsi "bool") (vD 15)))) (DL.tB (o2 fNe (vD 15) (o2 fEq (vD 14) (cD (.str "")))))))
def ckIn : DSt := (sSeq (sOwn 16 (lC F_forms_in (aCons (vD 13) aNil)))
      (sSeq (sIf (DL.tB (o2 fNe (lD (vO 16)) (oC F__law_forms (aCons (o2 fIx (vD 13) (cD (.int 1))) aNil))))
        (sRet (cD (.bool false)))
        sNil)
      (sApp 16 (cD .none))))
def ckBody : DSt := (sSeq (sSet 14 (oC F__law_due (aCons (vD 13) aNil)))
    (sSeq (sSet 15 (oC F_is_sentence (aCons (oC (F__law_copied 80) (aCons (vD 13) aNil)) aNil)))
    (sSeq (sIf ckCond
      (sRet (cD (.bool false)))
      sNil)
    (sIf (DL.tB (o2 fEq (vD 14) (cD (.str ""))))
      ckIn
      sNil))))
theorem shaped_bool (b : Bool) : SeqAt.shaped (.bool b) = true := by simp [SeqAt.shaped, PyData.canLay0, PyData.depth]
theorem fault_some {v : PyData} (h : faultS v = none) : ∃ q f, v = .tuple [q, f] ∧ goS 20 0 [f] = none := by
  unfold faultS at h
  split at h
  · rename_i q f
    split at h
    · split at h
      · cases h
      · rename_i hg
        exact ⟨q, f, rfl, hg⟩
    · cases h
  · cases h
theorem ck_ok (v : PyData) (hf : Fine 64 v) (a0 a1 a2 a3 a4 a5 a6 a7 a8 a9 a10 a11 a12 x14 x15 x16 a17 : Option Sl) : ∃ y14 y15 y16, ckBody [a0, a1, a2, a3, a4, a5, a6, a7, a8, a9, a10, a11, a12, some (.dat v), x14, x15, x16, a17] = some (.nx [a0, a1, a2, a3, a4, a5, a6, a7, a8, a9, a10, a11, a12, some (.dat v), y14, y15, y16, a17]) := by
  have e1 := due_eq v hf
  have e2 := copied_eq 64 80 v hf (by omega)
  have e3 := sentence_eq v hf
  have e4 := refusal_eq v hf
  have hsh : SeqAt.shaped (.str ((faultS v).getD "")) = true := by
    cases h : faultS v with
    | none => decide +kernel
    | some s =>
      rcases fault_ne h with rfl | rfl | rfl <;> decide +kernel
  have hemp : isS "" (.str ((faultS v).getD "")) = (faultS v).isNone := by
    cases h : faultS v with
    | none => decide +kernel
    | some s =>
      rcases fault_ne h with rfl | rfl | rfl <;> decide +kernel
  have s1 : sSet 14 (oC F__law_due (aCons (vD 13) aNil)) [a0, a1, a2, a3, a4, a5, a6, a7, a8, a9, a10, a11, a12, some (.dat v), x14, x15, x16, a17] = some (.nx [a0, a1, a2, a3, a4, a5, a6, a7, a8, a9, a10, a11, a12, some (.dat v), some (.dat (.str ((faultS v).getD ""))), x15, x16, a17]) := by
    simp only [runP, startR, sRet, sRetL, sSeq, sIf, sNil, sSet, oAnd, oOr, oNot, oIf, o1, o2, vD, cD, tB, tV, tNot, tAnd, tOr, aNil, aCons, oC, lD, iD, List.length_cons, List.length_nil, List.map_cons, List.map_nil, List.replicate, List.append_nil, List.cons_append, List.nil_append, List.getElem?_cons_zero, List.getElem?_cons_succ, List.set_cons_zero, List.set_cons_succ, List.set_nil, Option.bind_some, Option.bind_none, Option.map_some, Option.map_none, Nat.zero_add, Nat.reduceAdd, Nat.reduceSub, if_true, if_false, Bool.false_eq_true, reduceCtorEq, Bool.not_true, Bool.not_false, isi_tuple, isi_list, isi_str, isi_int, isi_bool, tyName, beq_self_eq_true, tr_b, tr_t, tr_l, fAdd_i, fSub_i, fLt_i, fLe_i, fGt_i, fGe_i, fNeg_i, fAbs_i, fLen_l, fLen_t, fIsN_n, fNotN_n, fInt_b, fIx_t, fIx_l, items_t, items_l, lLc, wipeR, Bool.not_not, Bool.and_true, Bool.true_and, Bool.and_false, Bool.false_and, Bool.or_true, Bool.true_or, Bool.or_false, Bool.false_or, e1]
  have s2 : sSet 15 (oC F_is_sentence (aCons (oC (F__law_copied 80) (aCons (vD 13) aNil)) aNil)) [a0, a1, a2, a3, a4, a5, a6, a7, a8, a9, a10, a11, a12, some (.dat v), some (.dat (.str ((faultS v).getD ""))), x15, x16, a17] = some (.nx [a0, a1, a2, a3, a4, a5, a6, a7, a8, a9, a10, a11, a12, some (.dat v), some (.dat (.str ((faultS v).getD ""))), some (.dat (.bool (faultS v).isNone)), x16, a17]) := by
    simp only [runP, startR, sRet, sRetL, sSeq, sIf, sNil, sSet, oAnd, oOr, oNot, oIf, o1, o2, vD, cD, tB, tV, tNot, tAnd, tOr, aNil, aCons, oC, lD, iD, List.length_cons, List.length_nil, List.map_cons, List.map_nil, List.replicate, List.append_nil, List.cons_append, List.nil_append, List.getElem?_cons_zero, List.getElem?_cons_succ, List.set_cons_zero, List.set_cons_succ, List.set_nil, Option.bind_some, Option.bind_none, Option.map_some, Option.map_none, Nat.zero_add, Nat.reduceAdd, Nat.reduceSub, if_true, if_false, Bool.false_eq_true, reduceCtorEq, Bool.not_true, Bool.not_false, isi_tuple, isi_list, isi_str, isi_int, isi_bool, tyName, beq_self_eq_true, tr_b, tr_t, tr_l, fAdd_i, fSub_i, fLt_i, fLe_i, fGt_i, fGe_i, fNeg_i, fAbs_i, fLen_l, fLen_t, fIsN_n, fNotN_n, fInt_b, fIx_t, fIx_l, items_t, items_l, lLc, wipeR, Bool.not_not, Bool.and_true, Bool.true_and, Bool.and_false, Bool.false_and, Bool.or_true, Bool.true_or, Bool.or_false, Bool.false_or, e2, e3]
  have q1 : fNe (.str ((faultS v).getD "")) (.str ((faultS v).getD "")) = some (.bool false) := by
    rw [fNe_of hsh hsh, eqv_s]
    simp [isS]
  have q2 : fEq (.str ((faultS v).getD "")) (.str "") = some (.bool (faultS v).isNone) := by
    rw [sb "" (by decide +kernel) hsh, hemp]
  have q3 : fNe (.bool (faultS v).isNone) (.bool (faultS v).isNone) = some (.bool false) := by
    rw [fNe_of (shaped_bool _) (shaped_bool _)]
    cases (faultS v).isNone <;> rfl
  have hc : ckCond [a0, a1, a2, a3, a4, a5, a6, a7, a8, a9, a10, a11, a12, some (.dat v), some (.dat (.str ((faultS v).getD ""))), some (.dat (.bool (faultS v).isNone)), x16, a17] = some false := by
    simp only [ckCond, runP, startR, sRet, sRetL, sSeq, sIf, sNil, sSet, oAnd, oOr, oNot, oIf, o1, o2, vD, cD, tB, tV, tNot, tAnd, tOr, aNil, aCons, oC, lD, iD, List.length_cons, List.length_nil, List.map_cons, List.map_nil, List.replicate, List.append_nil, List.cons_append, List.nil_append, List.getElem?_cons_zero, List.getElem?_cons_succ, List.set_cons_zero, List.set_cons_succ, List.set_nil, Option.bind_some, Option.bind_none, Option.map_some, Option.map_none, Nat.zero_add, Nat.reduceAdd, Nat.reduceSub, if_true, if_false, Bool.false_eq_true, reduceCtorEq, Bool.not_true, Bool.not_false, isi_tuple, isi_list, isi_str, isi_int, isi_bool, tyName, beq_self_eq_true, tr_b, tr_t, tr_l, fAdd_i, fSub_i, fLt_i, fLe_i, fGt_i, fGe_i, fNeg_i, fAbs_i, fLen_l, fLen_t, fIsN_n, fNotN_n, fInt_b, fIx_t, fIx_l, items_t, items_l, lLc, wipeR, Bool.not_not, Bool.and_true, Bool.true_and, Bool.and_false, Bool.false_and, Bool.or_true, Bool.true_or, Bool.or_false, Bool.false_or, e2, e4, q1, q2, q3]
  have s3 : sIf ckCond (sRet (cD (.bool false))) sNil [a0, a1, a2, a3, a4, a5, a6, a7, a8, a9, a10, a11, a12, some (.dat v), some (.dat (.str ((faultS v).getD ""))), some (.dat (.bool (faultS v).isNone)), x16, a17] = some (.nx [a0, a1, a2, a3, a4, a5, a6, a7, a8, a9, a10, a11, a12, some (.dat v), some (.dat (.str ((faultS v).getD ""))), some (.dat (.bool (faultS v).isNone)), x16, a17]) := by
    unfold sIf
    rw [hc]
    rfl
  have hc4 : DL.tB (o2 fEq (vD 14) (cD (.str ""))) [a0, a1, a2, a3, a4, a5, a6, a7, a8, a9, a10, a11, a12, some (.dat v), some (.dat (.str ((faultS v).getD ""))), some (.dat (.bool (faultS v).isNone)), x16, a17] = some (faultS v).isNone := by
    simp only [runP, startR, sRet, sRetL, sSeq, sIf, sNil, sSet, oAnd, oOr, oNot, oIf, o1, o2, vD, cD, tB, tV, tNot, tAnd, tOr, aNil, aCons, oC, lD, iD, List.length_cons, List.length_nil, List.map_cons, List.map_nil, List.replicate, List.append_nil, List.cons_append, List.nil_append, List.getElem?_cons_zero, List.getElem?_cons_succ, List.set_cons_zero, List.set_cons_succ, List.set_nil, Option.bind_some, Option.bind_none, Option.map_some, Option.map_none, Nat.zero_add, Nat.reduceAdd, Nat.reduceSub, if_true, if_false, Bool.false_eq_true, reduceCtorEq, Bool.not_true, Bool.not_false, isi_tuple, isi_list, isi_str, isi_int, isi_bool, tyName, beq_self_eq_true, tr_b, tr_t, tr_l, fAdd_i, fSub_i, fLt_i, fLe_i, fGt_i, fGe_i, fNeg_i, fAbs_i, fLen_l, fLen_t, fIsN_n, fNotN_n, fInt_b, fIx_t, fIx_l, items_t, items_l, lLc, wipeR, Bool.not_not, Bool.and_true, Bool.true_and, Bool.and_false, Bool.false_and, Bool.or_true, Bool.true_or, Bool.or_false, Bool.false_or, q2]
  cases h : faultS v with
  | some s =>
    refine ⟨some (.dat (.str ((faultS v).getD ""))), some (.dat (.bool (faultS v).isNone)), x16, ?_⟩
    unfold ckBody
    rw [seq_nx s1, seq_nx s2, seq_nx s3]
    unfold sIf
    rw [hc4, h]
    rfl
  | none =>
    obtain ⟨q, f, rfl, hg⟩ := fault_some h
    obtain ⟨ho, hz⟩ := pass_ok hg
    have e5 := forms_in_eq hf ho hz
    obtain ⟨_, m, hm, ha⟩ := fine_tl hf
    have hm63 : m = 63 := by omega
    subst hm63
    have hff := ha f (by simp)
    have e6 := lforms_eq f hff (by omega) ho hz
    have hok := formsOf_ok hff ho
    have hlen := formsOf_len ho hz
    have hs : SeqAt.shaped (.list (formsOf f)) = true := shapedL (fun d hd => (hok d hd).2) (by omega)
    have q4 : fNe (.list (formsOf f)) (.list (formsOf f)) = some (.bool false) := by
      rw [fNe_of hs hs, SeqAt.eqv_refl _ (SeqAt.canLay_of_shaped hs)]
      rfl
    refine ⟨some (.dat (.str ((faultS (.tuple [q, f])).getD ""))), some (.dat (.bool (faultS (.tuple [q, f])).isNone)), some (.own (formsOf f ++ [.none])), ?_⟩
    have t1 : sOwn 16 (lC F_forms_in (aCons (vD 13) aNil)) [a0, a1, a2, a3, a4, a5, a6, a7, a8, a9, a10, a11, a12, some (.dat (.tuple [q, f])), some (.dat (.str ((faultS (.tuple [q, f])).getD ""))), some (.dat (.bool (faultS (.tuple [q, f])).isNone)), x16, a17] =
        some (.nx [a0, a1, a2, a3, a4, a5, a6, a7, a8, a9, a10, a11, a12, some (.dat (.tuple [q, f])), some (.dat (.str ((faultS (.tuple [q, f])).getD ""))), some (.dat (.bool (faultS (.tuple [q, f])).isNone)), some (.own (formsOf f)), a17]) := by
      simp only [sOwn, lC, runP, startR, sRet, sRetL, sSeq, sIf, sNil, sSet, oAnd, oOr, oNot, oIf, o1, o2, vD, cD, tB, tV, tNot, tAnd, tOr, aNil, aCons, oC, lD, iD, List.length_cons, List.length_nil, List.map_cons, List.map_nil, List.replicate, List.append_nil, List.cons_append, List.nil_append, List.getElem?_cons_zero, List.getElem?_cons_succ, List.set_cons_zero, List.set_cons_succ, List.set_nil, Option.bind_some, Option.bind_none, Option.map_some, Option.map_none, Nat.zero_add, Nat.reduceAdd, Nat.reduceSub, if_true, if_false, Bool.false_eq_true, reduceCtorEq, Bool.not_true, Bool.not_false, isi_tuple, isi_list, isi_str, isi_int, isi_bool, tyName, beq_self_eq_true, tr_b, tr_t, tr_l, fAdd_i, fSub_i, fLt_i, fLe_i, fGt_i, fGe_i, fNeg_i, fAbs_i, fLen_l, fLen_t, fIsN_n, fNotN_n, fInt_b, fIx_t, fIx_l, items_t, items_l, lLc, wipeR, Bool.not_not, Bool.and_true, Bool.true_and, Bool.and_false, Bool.false_and, Bool.or_true, Bool.true_or, Bool.or_false, Bool.false_or, e5]
    have t2 : (sIf (DL.tB (o2 fNe (lD (vO 16)) (oC F__law_forms (aCons (o2 fIx (vD 13) (cD (.int 1))) aNil)))) (sRet (cD (.bool false))) sNil) [a0, a1, a2, a3, a4, a5, a6, a7, a8, a9, a10, a11, a12, some (.dat (.tuple [q, f])), some (.dat (.str ((faultS (.tuple [q, f])).getD ""))), some (.dat (.bool (faultS (.tuple [q, f])).isNone)), some (.own (formsOf f)), a17] =
        some (.nx [a0, a1, a2, a3, a4, a5, a6, a7, a8, a9, a10, a11, a12, some (.dat (.tuple [q, f])), some (.dat (.str ((faultS (.tuple [q, f])).getD ""))), some (.dat (.bool (faultS (.tuple [q, f])).isNone)), some (.own (formsOf f)), a17]) := by
      simp only [runP, startR, sRet, sRetL, sSeq, sIf, sNil, sSet, oAnd, oOr, oNot, oIf, o1, o2, vD, cD, tB, tV, tNot, tAnd, tOr, aNil, aCons, oC, lD, iD, List.length_cons, List.length_nil, List.map_cons, List.map_nil, List.replicate, List.append_nil, List.cons_append, List.nil_append, List.getElem?_cons_zero, List.getElem?_cons_succ, List.set_cons_zero, List.set_cons_succ, List.set_nil, Option.bind_some, Option.bind_none, Option.map_some, Option.map_none, Nat.zero_add, Nat.reduceAdd, Nat.reduceSub, if_true, if_false, Bool.false_eq_true, reduceCtorEq, Bool.not_true, Bool.not_false, isi_tuple, isi_list, isi_str, isi_int, isi_bool, tyName, beq_self_eq_true, tr_b, tr_t, tr_l, fAdd_i, fSub_i, fLt_i, fLe_i, fGt_i, fGe_i, fNeg_i, fAbs_i, fLen_l, fLen_t, fIsN_n, fNotN_n, fInt_b, fIx_t, fIx_l, items_t, items_l, lLc, wipeR, Bool.not_not, Bool.and_true, Bool.true_and, Bool.and_false, Bool.false_and, Bool.or_true, Bool.true_or, Bool.or_false, Bool.false_or, vO, atI_1, e6, q4]
    have t3 : sApp 16 (cD .none) [a0, a1, a2, a3, a4, a5, a6, a7, a8, a9, a10, a11, a12, some (.dat (.tuple [q, f])), some (.dat (.str ((faultS (.tuple [q, f])).getD ""))), some (.dat (.bool (faultS (.tuple [q, f])).isNone)), some (.own (formsOf f)), a17] =
        some (.nx [a0, a1, a2, a3, a4, a5, a6, a7, a8, a9, a10, a11, a12, some (.dat (.tuple [q, f])), some (.dat (.str ((faultS (.tuple [q, f])).getD ""))), some (.dat (.bool (faultS (.tuple [q, f])).isNone)), some (.own (formsOf f ++ [.none])), a17]) := by
      simp only [sApp, vO, cD, List.getElem?_cons_succ, List.getElem?_cons_zero, Option.bind_some, if_pos (small_lt (show (formsOf f).length < 1000 by omega)), List.set_cons_succ, List.set_cons_zero]
    unfold ckBody
    rw [seq_nx s1, seq_nx s2, seq_nx s3]
    unfold sIf
    rw [hc4, h]
    show ckIn _ = _
    have h' : faultS (.tuple [q, f]) = none := h
    rw [← h']
    unfold ckIn
    rw [seq_nx t1, seq_nx t2, t3]
theorem ck_go (a0 a1 a2 a3 a4 a5 a6 a7 a8 a9 a10 a11 a12 a17 : Option Sl) : ∀ (vs : List PyData) (x13 x14 x15 x16 : Option Sl), FineA 64 vs → ∃ y13 y14 y15 y16, forGo (gN 13) ckBody vs [a0, a1, a2, a3, a4, a5, a6, a7, a8, a9, a10, a11, a12, x13, x14, x15, x16, a17] = some (.nx [a0, a1, a2, a3, a4, a5, a6, a7, a8, a9, a10, a11, a12, y13, y14, y15, y16, a17])
  | [], x13, x14, x15, x16, _ => ⟨_, _, _, _, rfl⟩
  | v :: vs, x13, x14, x15, x16, h => by
    obtain ⟨y14, y15, y16, e⟩ := ck_ok v (h v (List.mem_cons_self ..)) a0 a1 a2 a3 a4 a5 a6 a7 a8 a9 a10 a11 a12 x14 x15 x16 a17
    obtain ⟨z13, z14, z15, z16, e2⟩ := ck_go a0 a1 a2 a3 a4 a5 a6 a7 a8 a9 a10 a11 a12 a17 vs (some (.dat v)) y14 y15 y16 fun x hx => h x (List.mem_cons_of_mem _ hx)
    refine ⟨z13, z14, z15, z16, ?_⟩
    show Option.bind (ckBody [a0, a1, a2, a3, a4, a5, a6, a7, a8, a9, a10, a11, a12, some (.dat v), x14, x15, x16, a17]) _ = _
    rw [e]
    exact e2
end K77

set_option Elab.async false
set_option linter.all false
set_option maxRecDepth 100000
set_option maxHeartbeats 4000000
/-! M18: the law. -/
namespace K77
open PySem DL
open L2 (atI ixN)
def saL : DLs := (lLst (aCons (cD (.str "some")) (aCons (cD (.str "all")) aNil)))
theorem saL_eq (ρ : Rho) : saL ρ = some sa := rfl
def L1 : DSt := (sSet 1 (oC F__law_numbers (aCons (vD 0) (aCons (cD (.int 0)) (aCons (cD (.int 20)) aNil)))))
def L2' : DSt := (sSet 2 (lD (lLst (aCons (oC F__law_grid (aCons (vD 0) (aCons (cD (.int 1)) (aCons (cD (.int 2)) (aCons (cD (.int 2)) aNil))))) (aCons (oC F__law_grid (aCons (vD 0) (aCons (cD (.int 2)) (aCons (cD (.int 2)) (aCons (cD (.int 2)) aNil))))) aNil)))))
def L3 : DSt := (sSet 3 (lD (lSl (lLc (iD (vD 2)) (gN 17) tYesD (oC F__law_grid_form (aCons (o2 fIx (vD 17) (cD (.int 0))) (aCons (o2 fIx (vD 17) (cD (.int 1))) (aCons (o2 fIx (vD 17) (cD (.int 2))) aNil)))) [17]) nPart (nSome (o2 fAdd (cD (.int 1)) (o2 fMod (o2 fIx (vD 1) (cD (.int 0))) (cD (.int 2))))))))
def L4 : DSt := (sSet 4 (oCallT (F__law_formula 10) (lRev (asL (oC F__law_numbers (aCons (vD 0) (aCons (cD (.int 3)) (aCons (cD (.int 14)) aNil)))))) (aCons (vD 3) (aCons (cD (.int 5)) aNil))))
def L5 : DSt := (sSet 5 (lD (lLst (aCons (oTup (aCons (o2 fIx (lD saL) (o2 fMod (o2 fIx (vD 1) (cD (.int 1))) (cD (.int 2)))) (aCons (cD (.str "x")) aNil))) (aCons (oTup (aCons (o2 fIx (lD saL) (o2 fMod (o2 fIx (vD 1) (cD (.int 2))) (cD (.int 2)))) (aCons (cD (.str "y")) aNil))) aNil)))))
def L6 : DSt := (sOwn 6 (lLst (aCons (oTup (aCons (vD 5) (aCons (vD 4) aNil))) (aCons (oTup (aCons (lD (lSl (asL (vD 5)) nPart (nSome (cD (.int 1))))) (aCons (vD 4) aNil))) (aCons (oTup (aCons (lD (lSl (asL (vD 5)) (nSome (cD (.int 1))) nPart)) (aCons (vD 4) aNil))) (aCons (oTup (aCons (lD (lRev (asL (vD 5)))) (aCons (vD 4) aNil))) (aCons (oTup (aCons (lD (lCat (asL (vD 5)) (lSl (asL (vD 5)) (nSome (cD (.int 1))) nPart))) (aCons (vD 4) aNil))) (aCons (oTup (aCons (lD (lLst aNil)) (aCons (vD 4) aNil))) (aCons (oTup (aCons (oTuple (asL (vD 5))) (aCons (vD 4) aNil))) aNil)))))))))
def L7 : DSt := (sOwn 6 (lCat (vO 6) (lLst (aCons (lD (lLst (aCons (vD 5) (aCons (vD 4) aNil)))) (aCons (oTup (aCons (vD 5) (aCons (vD 4) (aCons (cD (.int 0)) aNil)))) (aCons (oTup (aCons (vD 5) aNil)) (aCons (cD .none) (aCons (cD (.str "a")) aNil))))))))
def oddL : DLs := (lLst (aCons (cD .none) (aCons (oTup (aCons (cD (.str "any")) (aCons (cD (.str "x")) aNil))) (aCons (oTup (aCons (cD (.str "some")) (aCons (cD (.str "z")) aNil))) (aCons (lD (lLst (aCons (cD (.str "some")) (aCons (cD (.str "x")) aNil)))) (aCons (oTup (aCons (cD (.str "some")) (aCons (cD (.str "x")) (aCons (cD (.int 0)) aNil)))) (aCons (oTup (aCons (cD (.str "some")) (aCons (cD .none) aNil))) (aCons (oTup (aCons (cD .none) (aCons (cD (.str "x")) aNil))) aNil))))))))
def L8b : DSt := (sApp 6 (oTup (aCons (lD (lCat (lLst (aCons (vD 7) aNil)) (lSl (asL (vD 5)) (nSome (cD (.int 1))) nPart))) (aCons (vD 4) aNil))))
def L8 : DSt := (sFor (iD (lD oddL)) (gN 7) L8b)
def L9b : DSt := (sApp 6 (oTup (aCons (vD 5) (aCons (vD 8) aNil))))
def L9 : DSt := (sFor (iD (oC (F__law_bent 20) (aCons (vD 4) (aCons (vD 1) aNil)))) (gN 8) L9b)
def L10 : DSt := (sSet 9 (oTup (aCons (cD (.str "is")) (aCons (o2 fIx (vD 3) (cD (.int 0))) (aCons (cD (.str "<")) aNil)))))
def pickE : DE := (o2 fIx (lD (lLst (aCons (oTup (aCons (cD (.str "not")) (aCons (vD 11) aNil))) (aCons (oTup (aCons (cD (.str "and")) (aCons (lD (lLst (aCons (vD 11) (aCons (vD 9) aNil)))) aNil))) (aCons (oTup (aCons (cD (.str "or")) (aCons (lD (lLst (aCons (vD 9) (aCons (vD 11) aNil)))) aNil))) aNil))))) (o2 fMod (o2 fIx (vD 1) (o2 fAdd (cD (.int 4)) (o2 fMod (vD 12) (cD (.int 9))))) (cD (.int 3))))
def L11b : DSt := (sSeq (sSet 11 (vD 9))
    (sSeq (sFor (iR1 (aCons (vD 10) aNil)) (gN 12)
      (sSet 11 pickE))
    (sApp 6 (oTup (aCons (vD 5) (aCons (vD 11) aNil))))))
def L11 : DSt := (sFor (iD (lD (lLst (aCons (cD (.int 19)) (aCons (cD (.int 20)) (aCons (cD (.int 30)) aNil)))))) (gN 10) L11b)
def L12 : DSt := (sOwn 6 (lCat (vO 6) (lLst (aCons (oTup (aCons (vD 5) (aCons (oTup (aCons (cD (.str "and")) (aCons (lD (lRep (lLst (aCons (vD 9) aNil)) (cD (.int 59)))) aNil))) aNil))) (aCons (oTup (aCons (vD 5) (aCons (oTup (aCons (cD (.str "or")) (aCons (lD (lRep (lLst (aCons (vD 9) aNil)) (cD (.int 60)))) aNil))) aNil))) (aCons (oTup (aCons (vD 5) (aCons (oTup (aCons (cD (.str "and")) (aCons (lD (lCat (lRep (lLst (aCons (vD 9) aNil)) (cD (.int 60))) (lLst (aCons (cD .none) aNil)))) aNil))) aNil))) (aCons (oTup (aCons (vD 5) (aCons (oTup (aCons (cD (.str "or")) (aCons (lD (lCat (lRep (lLst (aCons (vD 9) aNil)) (cD (.int 20))) (lRep (lLst (aCons (oTup (aCons (cD (.str "not")) (aCons (cD .none) aNil))) aNil)) (cD (.int 41))))) aNil))) aNil))) aNil)))))))
def L13 : DSt := (sOwn 6 (lCat (vO 6) (lLst (aCons (oTup (aCons (vD 5) (aCons (oTup (aCons (cD (.str "and")) (aCons (lD (lCat (lRep (lLst (aCons (oTup (aCons (cD (.str "not")) (aCons (oTup (aCons (cD (.str "is")) (aCons (oTup (aCons (oTup aNil) (aCons (oTup (aCons (cD (.int 0)) (aCons (cD (.int 1)) aNil))) aNil))) (aCons (cD (.str "=")) aNil)))) aNil))) aNil)) (cD (.int 29))) (lLst (aCons (oTup (aCons (cD (.str "is")) (aCons (oTup (aCons (oTup (aCons (cD (.int 1)) (aCons (cD (.int 1)) aNil))) aNil)) (aCons (cD (.str ">")) aNil)))) aNil)))) aNil))) aNil))) aNil))))
theorem law_split : d_law = sSeq L1 (sSeq L2' (sSeq L3 (sSeq L4 (sSeq L5 (sSeq L6 (sSeq L7 (sSeq L8 (sSeq L9 (sSeq L10 (sSeq L11 (sSeq L12 (sSeq L13 (sSeq (sForO 6 (gN 13) ckBody) (sRet (cD (.bool true)))))))))))))))) := rfl
/-- the state: script, numbers, owns, forms, formula, both, values and the rest -/
abbrev S18 (s0 s1 s2 s3 s4 s5 s6 s7 s8 s9 s10 s11 s12 : Option Sl) : Rho := [s0, s1, s2, s3, s4, s5, s6, s7, s8, s9, s10, s11, s12, none, none, none, none, none]
theorem l3_eq {owns : List PyData} (ho : ∃ x1 y1 f1 x2 y2 f2, owns = [.tuple [.list x1, .list y1, .int f1], .tuple [.list x2, .list y2, .int f2]] ∧ IntL 2 (-4) 4 x1 ∧ IntL 2 (-4) 4 y1 ∧ (-3 ≤ f1 ∧ f1 ≤ 3) ∧ IntL 2 (-4) 4 x2 ∧ IntL 2 (-4) 4 y2 ∧ (-3 ≤ f2 ∧ f2 ≤ 3)) {n0 : Int} {nl : List PyData} (s0 : Option Sl) :
    ∃ b bs, bs.length ≤ 1 ∧ FineA 2 (b :: bs) ∧ L3 (S18 s0 (some (.dat (.list (.int n0 :: nl)))) (some (.dat (.list owns))) none none none none none none none none none none) = some (.nx (S18 s0 (some (.dat (.list (.int n0 :: nl)))) (some (.dat (.list owns))) (some (.dat (.list (b :: bs)))) none none none none none none none none none)) := by
  obtain ⟨x1, y1, f1, x2, y2, f2, rfl, a1, a2, a3, a4, a5, a6⟩ := ho
  obtain ⟨b1, e1, g1⟩ := grid_form_eq a1 a2 a3
  obtain ⟨b2, e2, g2⟩ := grid_form_eq a4 a5 a6
  obtain ⟨k, hk, hk'⟩ := nat_mod n0 2 (by omega)
  have hz2 : 2 ≤ sizeLine := size_ok (by decide)
  have hlc : lLc (iD (vD 2)) (gN 17) tYesD (oC F__law_grid_form (aCons (o2 fIx (vD 17) (cD (.int 0))) (aCons (o2 fIx (vD 17) (cD (.int 1))) (aCons (o2 fIx (vD 17) (cD (.int 2))) aNil)))) [17] (S18 s0 (some (.dat (.list (.int n0 :: nl)))) (some (.dat (.list [.tuple [.list x1, .list y1, .int f1], .tuple [.list x2, .list y2, .int f2]]))) none none none none none none none none none none) = some [b1, b2] := by
    simp only [runP, startR, sRet, sRetL, sSeq, sIf, sNil, sSet, oAnd, oOr, oNot, oIf, o1, o2, vD, cD, tB, tV, tNot, tAnd, tOr, aNil, aCons, oC, lD, iD, List.length_cons, List.length_nil, List.map_cons, List.map_nil, List.replicate, List.append_nil, List.cons_append, List.nil_append, List.getElem?_cons_zero, List.getElem?_cons_succ, List.set_cons_zero, List.set_cons_succ, List.set_nil, Option.bind_some, Option.bind_none, Option.map_some, Option.map_none, Nat.zero_add, Nat.reduceAdd, Nat.reduceSub, if_true, if_false, Bool.false_eq_true, reduceCtorEq, Bool.not_true, Bool.not_false, isi_tuple, isi_list, isi_str, isi_int, isi_bool, tyName, beq_self_eq_true, tr_b, tr_t, tr_l, fAdd_i, fSub_i, fLt_i, fLe_i, fGt_i, fGe_i, fNeg_i, fAbs_i, fLen_l, fLen_t, fIsN_n, fNotN_n, fInt_b, fIx_t, fIx_l, items_t, items_l, lLc, wipeR, Bool.not_not, Bool.and_true, Bool.true_and, Bool.and_false, Bool.false_and, Bool.or_true, Bool.true_or, Bool.or_false, Bool.false_or, hz2, lcGo, gN, tYesD, atI_0, atI_1, atI_2, e1, e2]
  have hk2 : k = 0 ∨ k = 1 := by omega
  rcases hk2 with rfl | rfl
  · refine ⟨b1, [], by simp, fa_cons g1 fa_nil, ?_⟩
    have hn : n0 % 2 = 0 := hk
    have hc : cutL [b1, b2] none (some (1 + 0)) = [b1] := rfl
    simp only [L3, sSet, lD, lSl, hlc, nPart, nSome, o2, cD, vD, List.getElem?_cons_succ, List.getElem?_cons_zero, Option.bind_some, Option.map_some, fIx_l, atI_0, mod_p (show (0 : Int) < 2 by omega), hn, fAdd_i, hc, List.set_cons_succ, List.set_cons_zero]
  · refine ⟨b1, [b2], by simp, fa_cons g1 (fa_cons g2 fa_nil), ?_⟩
    have hn : n0 % 2 = 1 := hk
    have hc : cutL [b1, b2] none (some (1 + 1)) = [b1, b2] := rfl
    simp only [L3, sSet, lD, lSl, hlc, nPart, nSome, o2, cD, vD, List.getElem?_cons_succ, List.getElem?_cons_zero, Option.bind_some, Option.map_some, fIx_l, atI_0, mod_p (show (0 : Int) < 2 by omega), hn, fAdd_i, hc, List.set_cons_succ, List.set_cons_zero]
theorem quant_pick (i : Int) : ∃ a : Str, (a = "some" ∨ a = "all") ∧ fMod (.int i) (.int 2) = some (.int (i % 2)) ∧ atI sa (i % 2) = some (.str a) := by
  obtain ⟨k, hk, hk'⟩ := nat_mod i 2 (by omega)
  have hk2 : k = 0 ∨ k = 1 := by omega
  rcases hk2 with rfl | rfl
  · exact ⟨"some", .inl rfl, mod_p (by omega), by rw [hk]; rfl⟩
  · exact ⟨"all", .inr rfl, mod_p (by omega), by rw [hk]; rfl⟩
theorem fine_qt {a b : Str} (ha : a = "some" ∨ a = "all") (hb : b = "x" ∨ b = "y") {n : Nat} : Fine (n + 1) (qt a b) := by
  refine f_tup (fa_cons ?_ (fa_cons ?_ fa_nil)) (by simp)
  · rcases ha with rfl | rfl <;> exact fine_s _ (by decide +kernel) (by decide +kernel)
  · rcases hb with rfl | rfl <;> exact fine_s _ (by decide +kernel) (by decide +kernel)
theorem l5_eq {nl : List PyData} (hl : nl.length = 20) (hn : ∀ y ∈ nl, InN 0 1008 y) (s0 s2 s3 s4 : Option Sl) : ∃ a b : Str, (a = "some" ∨ a = "all") ∧ (b = "some" ∨ b = "all") ∧
    L5 (S18 s0 (some (.dat (.list nl))) s2 s3 s4 none none none none none none none none) = some (.nx (S18 s0 (some (.dat (.list nl))) s2 s3 s4 (some (.dat (.list [qt a "x", qt b "y"]))) none none none none none none none)) := by
  obtain ⟨i1, e1, _⟩ := atI_in hn (show 1 < nl.length by omega)
  obtain ⟨i2, e2, _⟩ := atI_in hn (show 2 < nl.length by omega)
  have e1' : atI nl 1 = some (.int i1) := e1
  have e2' : atI nl 2 = some (.int i2) := e2
  obtain ⟨a, ha, q1, q2⟩ := quant_pick i1
  obtain ⟨b, hb, r1, r2⟩ := quant_pick i2
  have hz2 : 2 ≤ sizeLine := size_ok (by decide)
  refine ⟨a, b, ha, hb, ?_⟩
  simp only [L5, runP, startR, sRet, sRetL, sSeq, sIf, sNil, sSet, oAnd, oOr, oNot, oIf, o1, o2, vD, cD, tB, tV, tNot, tAnd, tOr, aNil, aCons, oC, lD, iD, List.length_cons, List.length_nil, List.map_cons, List.map_nil, List.replicate, List.append_nil, List.cons_append, List.nil_append, List.getElem?_cons_zero, List.getElem?_cons_succ, List.set_cons_zero, List.set_cons_succ, List.set_nil, Option.bind_some, Option.bind_none, Option.map_some, Option.map_none, Nat.zero_add, Nat.reduceAdd, Nat.reduceSub, if_true, if_false, Bool.false_eq_true, reduceCtorEq, Bool.not_true, Bool.not_false, isi_tuple, isi_list, isi_str, isi_int, isi_bool, tyName, beq_self_eq_true, tr_b, tr_t, tr_l, fAdd_i, fSub_i, fLt_i, fLe_i, fGt_i, fGe_i, fNeg_i, fAbs_i, fLen_l, fLen_t, fIsN_n, fNotN_n, fInt_b, fIx_t, fIx_l, items_t, items_l, lLc, wipeR, Bool.not_not, Bool.and_true, Bool.true_and, Bool.and_false, Bool.false_and, Bool.or_true, Bool.true_or, Bool.or_false, Bool.false_or, oTup, lLst, saL_eq, e1', e2', q1, q2, r1, r2, hz2, qt]
def V6 (p q f : PyData) : List PyData := [.tuple [.list [p, q], f], .tuple [.list [p], f], .tuple [.list [q], f], .tuple [.list [q, p], f], .tuple [.list [p, q, q], f], .tuple [.list [], f], .tuple [.tuple [p, q], f]]
def V7 (p q f : PyData) : List PyData := [.list [.list [p, q], f], .tuple [.list [p, q], f, .int 0], .tuple [.list [p, q]], .none, .str "a"]
theorem l6_eq (p q f : PyData) (s0 s1 s2 s3 s7 s8 s9 s10 s11 s12 : Option Sl) : L6 (S18 s0 s1 s2 s3 (some (.dat f)) (some (.dat (.list [p, q]))) none s7 s8 s9 s10 s11 s12) = some (.nx (S18 s0 s1 s2 s3 (some (.dat f)) (some (.dat (.list [p, q]))) (some (.own (V6 p q f))) s7 s8 s9 s10 s11 s12)) := rfl
theorem l7_eq (p q f : PyData) (s0 s1 s2 s3 s7 s8 s9 s10 s11 s12 : Option Sl) : L7 (S18 s0 s1 s2 s3 (some (.dat f)) (some (.dat (.list [p, q]))) (some (.own (V6 p q f))) s7 s8 s9 s10 s11 s12) = some (.nx (S18 s0 s1 s2 s3 (some (.dat f)) (some (.dat (.list [p, q]))) (some (.own (V6 p q f ++ V7 p q f))) s7 s8 s9 s10 s11 s12)) := rfl
def odds : List PyData := [.none, qt "any" "x", qt "some" "z", .list [.str "some", .str "x"], .tuple [.str "some", .str "x", .int 0], .tuple [.str "some", .none], .tuple [.none, .str "x"]]
theorem oddL_eq (ρ : Rho) : oddL ρ = some odds := rfl
theorem l8b_eq (p q f odd : PyData) {V : List PyData} (hV : V.length ≤ 900) (s0 s1 s2 s3 s8 s9 s10 s11 s12 : Option Sl) : L8b (S18 s0 s1 s2 s3 (some (.dat f)) (some (.dat (.list [p, q]))) (some (.own V)) (some (.dat odd)) s8 s9 s10 s11 s12) = some (.nx (S18 s0 s1 s2 s3 (some (.dat f)) (some (.dat (.list [p, q]))) (some (.own (V ++ [.tuple [.list [odd, q], f]]))) (some (.dat odd)) s8 s9 s10 s11 s12)) := by
  have hc : (oTup (aCons (lD (lCat (lLst (aCons (vD 7) aNil)) (lSl (asL (vD 5)) (nSome (cD (.int 1))) nPart))) (aCons (vD 4) aNil))) (S18 s0 s1 s2 s3 (some (.dat f)) (some (.dat (.list [p, q]))) (some (.own V)) (some (.dat odd)) s8 s9 s10 s11 s12) = some (.tuple [.list [odd, q], f]) := rfl
  simp only [L8b, sApp, hc, vO, List.getElem?_cons_succ, List.getElem?_cons_zero, Option.bind_some, if_pos (small_lt (show V.length < 1000 by omega)), List.set_cons_succ, List.set_cons_zero]
theorem l8_go (p q f : PyData) (s0 s1 s2 s3 s8 s9 s10 s11 s12 : Option Sl) : ∀ (ds V : List PyData) (s7 : Option Sl), V.length + ds.length ≤ 900 → ∃ y7, forGo (gN 7) L8b ds (S18 s0 s1 s2 s3 (some (.dat f)) (some (.dat (.list [p, q]))) (some (.own V)) s7 s8 s9 s10 s11 s12) = some (.nx (S18 s0 s1 s2 s3 (some (.dat f)) (some (.dat (.list [p, q]))) (some (.own (V ++ ds.map fun o => .tuple [.list [o, q], f]))) y7 s8 s9 s10 s11 s12))
  | [], V, s7, _ => ⟨s7, by rw [List.map_nil, List.append_nil]; rfl⟩
  | o :: ds, V, s7, h => by
    rw [List.length_cons] at h
    obtain ⟨y7, e⟩ := l8_go p q f s0 s1 s2 s3 s8 s9 s10 s11 s12 ds (V ++ [.tuple [.list [o, q], f]]) (some (.dat o)) (by rw [List.length_append, List.length_singleton]; omega)
    refine ⟨y7, ?_⟩
    show Option.bind (L8b (S18 s0 s1 s2 s3 (some (.dat f)) (some (.dat (.list [p, q]))) (some (.own V)) (some (.dat o)) s8 s9 s10 s11 s12)) _ = _
    rw [l8b_eq p q f o (by omega)]
    refine e.trans ?_
    rw [List.map_cons, List.append_assoc, List.singleton_append]
theorem l9b_eq (bo one : PyData) {V : List PyData} (hV : V.length ≤ 900) (s0 s1 s2 s3 s4 s7 s9 s10 s11 s12 : Option Sl) : L9b (S18 s0 s1 s2 s3 s4 (some (.dat bo)) (some (.own V)) s7 (some (.dat one)) s9 s10 s11 s12) = some (.nx (S18 s0 s1 s2 s3 s4 (some (.dat bo)) (some (.own (V ++ [.tuple [bo, one]]))) s7 (some (.dat one)) s9 s10 s11 s12)) := by
  have hc : (oTup (aCons (vD 5) (aCons (vD 8) aNil))) (S18 s0 s1 s2 s3 s4 (some (.dat bo)) (some (.own V)) s7 (some (.dat one)) s9 s10 s11 s12) = some (.tuple [bo, one]) := rfl
  simp only [L9b, sApp, hc, vO, List.getElem?_cons_succ, List.getElem?_cons_zero, Option.bind_some, if_pos (small_lt (show V.length < 1000 by omega)), List.set_cons_succ, List.set_cons_zero]
theorem l9_go (bo : PyData) (s0 s1 s2 s3 s4 s7 s9 s10 s11 s12 : Option Sl) : ∀ (ds V : List PyData) (s8 : Option Sl), V.length + ds.length ≤ 900 → ∃ y8, forGo (gN 8) L9b ds (S18 s0 s1 s2 s3 s4 (some (.dat bo)) (some (.own V)) s7 s8 s9 s10 s11 s12) = some (.nx (S18 s0 s1 s2 s3 s4 (some (.dat bo)) (some (.own (V ++ ds.map fun o => .tuple [bo, o]))) s7 y8 s9 s10 s11 s12))
  | [], V, s8, _ => ⟨s8, by rw [List.map_nil, List.append_nil]; rfl⟩
  | o :: ds, V, s8, h => by
    rw [List.length_cons] at h
    obtain ⟨y8, e⟩ := l9_go bo s0 s1 s2 s3 s4 s7 s9 s10 s11 s12 ds (V ++ [.tuple [bo, o]]) (some (.dat o)) (by rw [List.length_append, List.length_singleton]; omega)
    refine ⟨y8, ?_⟩
    show Option.bind (L9b (S18 s0 s1 s2 s3 s4 (some (.dat bo)) (some (.own V)) s7 (some (.dat o)) s9 s10 s11 s12)) _ = _
    rw [l9b_eq bo o (by omega)]
    refine e.trans ?_
    rw [List.map_cons, List.append_assoc, List.singleton_append]
/-! ### deep ones -/
theorem pick_eq {nl : List PyData} (hl : nl.length = 20) (hn : ∀ y ∈ nl, InN 0 1008 y) {n : Nat} {atom deep : PyData} (ha : Fine (n + 2) atom) (hd : Fine (n + 2) deep) (i : Nat) (s0 s2 s3 s4 s5 s6 s7 s8 s10 : Option Sl) :
    ∃ d', Fine (n + 4) d' ∧ pickE (S18 s0 (some (.dat (.list nl))) s2 s3 s4 s5 s6 s7 s8 (some (.dat atom)) s10 (some (.dat deep)) (some (.dat (.int (i : Int))))) = some d' := by
  obtain ⟨j, hj, hj'⟩ := nat_mod (i : Int) 9 (by omega)
  obtain ⟨v, e, _⟩ := atI_in hn (show 4 + j < nl.length by omega)
  have e' : atI nl (4 + (j : Int)) = some (.int v) := by
    have h4 : ((4 + j : Nat) : Int) = 4 + (j : Int) := by omega
    rw [← h4]
    exact e
  obtain ⟨k, hk, hk'⟩ := nat_mod v 3 (by omega)
  have hz2 : 2 ≤ sizeLine := size_ok (by decide)
  have hz3 : 3 ≤ sizeLine := size_ok (by decide)
  have hP : ∃ d', Fine (n + 4) d' ∧ atI [PyData.tuple [.str "not", deep], .tuple [.str "and", .list [deep, atom]], .tuple [.str "or", .list [atom, deep]]] (k : Int) = some d' := by
    rw [atI_n]
    have hk3 : k = 0 ∨ k = 1 ∨ k = 2 := by omega
    rcases hk3 with rfl | rfl | rfl
    · exact ⟨_, f_tup (fa_cons (fine_s _ (by decide +kernel) (by decide +kernel)) (fa_cons (hd.mono (by omega)) fa_nil)) (by simp), rfl⟩
    · exact ⟨_, f_tup (fa_cons (fine_s _ (by decide +kernel) (by decide +kernel)) (fa_cons (f_lst (fa_cons hd (fa_cons ha fa_nil)) (by simp)) fa_nil)) (by simp), rfl⟩
    · exact ⟨_, f_tup (fa_cons (fine_s _ (by decide +kernel) (by decide +kernel)) (fa_cons (f_lst (fa_cons ha (fa_cons hd fa_nil)) (by simp)) fa_nil)) (by simp), rfl⟩
  obtain ⟨d', h1, h2⟩ := hP
  refine ⟨d', h1, ?_⟩
  simp only [pickE, runP, startR, sRet, sRetL, sSeq, sIf, sNil, sSet, oAnd, oOr, oNot, oIf, o1, o2, vD, cD, tB, tV, tNot, tAnd, tOr, aNil, aCons, oC, lD, iD, List.length_cons, List.length_nil, List.map_cons, List.map_nil, List.replicate, List.append_nil, List.cons_append, List.nil_append, List.getElem?_cons_zero, List.getElem?_cons_succ, List.set_cons_zero, List.set_cons_succ, List.set_nil, Option.bind_some, Option.bind_none, Option.map_some, Option.map_none, Nat.zero_add, Nat.reduceAdd, Nat.reduceSub, if_true, if_false, Bool.false_eq_true, reduceCtorEq, Bool.not_true, Bool.not_false, isi_tuple, isi_list, isi_str, isi_int, isi_bool, tyName, beq_self_eq_true, tr_b, tr_t, tr_l, fAdd_i, fSub_i, fLt_i, fLe_i, fGt_i, fGe_i, fNeg_i, fAbs_i, fLen_l, fLen_t, fIsN_n, fNotN_n, fInt_b, fIx_t, fIx_l, items_t, items_l, lLc, wipeR, Bool.not_not, Bool.and_true, Bool.true_and, Bool.and_false, Bool.false_and, Bool.or_true, Bool.true_or, Bool.or_false, Bool.false_or, lLst, oTup, mod_p (show (0 : Int) < 9 by omega), hj, e', mod_p (show (0 : Int) < 3 by omega), hk, hz2, hz3, h2]
theorem l11_in {nl : List PyData} (hl : nl.length = 20) (hn : ∀ y ∈ nl, InN 0 1008 y) {atom : PyData} (ha : Fine 3 atom) (s0 s2 s3 s4 s5 s6 s7 s8 s10 : Option Sl) : ∀ (m i c : Nat) (deep : PyData) (s12 : Option Sl), Fine (c + 3) deep →
    ∃ d' y12, Fine (c + 2 * m + 3) d' ∧ forGo (gN 12) (sSet 11 pickE) (rng i m) (S18 s0 (some (.dat (.list nl))) s2 s3 s4 s5 s6 s7 s8 (some (.dat atom)) s10 (some (.dat deep)) s12) = some (.nx (S18 s0 (some (.dat (.list nl))) s2 s3 s4 s5 s6 s7 s8 (some (.dat atom)) s10 (some (.dat d')) y12))
  | 0, i, c, deep, s12, h => ⟨deep, s12, h, rfl⟩
  | m + 1, i, c, deep, s12, h => by
    obtain ⟨d1, h1, e1⟩ := pick_eq hl hn (n := c + 1) (ha.mono (by omega)) h i s0 s2 s3 s4 s5 s6 s7 s8 s10
    obtain ⟨d2, y12, h2, e2⟩ := l11_in hl hn ha s0 s2 s3 s4 s5 s6 s7 s8 s10 m (i + 1) (c + 2) d1 (some (.dat (.int (i : Int)))) (h1.mono (by omega))
    refine ⟨d2, y12, h2.mono (by omega), ?_⟩
    have eb : sSet 11 pickE (S18 s0 (some (.dat (.list nl))) s2 s3 s4 s5 s6 s7 s8 (some (.dat atom)) s10 (some (.dat deep)) (some (.dat (.int (i : Int))))) = some (.nx (S18 s0 (some (.dat (.list nl))) s2 s3 s4 s5 s6 s7 s8 (some (.dat atom)) s10 (some (.dat d1)) (some (.dat (.int (i : Int)))))) := by
      unfold sSet
      rw [e1]
      rfl
    have eg : ∀ bd : DSt, forGo (gN 12) bd (rng i (m + 1)) (S18 s0 (some (.dat (.list nl))) s2 s3 s4 s5 s6 s7 s8 (some (.dat atom)) s10 (some (.dat deep)) s12) = (bd (S18 s0 (some (.dat (.list nl))) s2 s3 s4 s5 s6 s7 s8 (some (.dat atom)) s10 (some (.dat deep)) (some (.dat (.int (i : Int)))))).bind (fun o => match o with
          | .nx ρ2 => forGo (gN 12) bd (rng (i + 1) m) ρ2
          | .ct ρ2 => forGo (gN 12) bd (rng (i + 1) m) ρ2
          | .bk ρ2 => some (.nx ρ2)
          | .rt d r => some (.rt d r)
          | .rtL d => some (.rtL d)) := fun _ => rfl
    rw [eg, eb]
    exact e2
theorem l11b_eq {nl : List PyData} (hl : nl.length = 20) (hn : ∀ y ∈ nl, InN 0 1008 y) {atom bo : PyData} (ha : Fine 3 atom) (hbo : Fine 2 bo) {V : List PyData} (hV : V.length ≤ 900) {count : Nat} (hc : count ≤ 30) (s0 s2 s3 s4 s7 s8 s11 s12 : Option Sl) :
    ∃ v y11 y12, Fine 64 v ∧ L11b (S18 s0 (some (.dat (.list nl))) s2 s3 s4 (some (.dat bo)) (some (.own V)) s7 s8 (some (.dat atom)) (some (.dat (.int (count : Int)))) s11 s12) = some (.nx (S18 s0 (some (.dat (.list nl))) s2 s3 s4 (some (.dat bo)) (some (.own (V ++ [v]))) s7 s8 (some (.dat atom)) (some (.dat (.int (count : Int)))) y11 y12)) := by
  obtain ⟨d', y12, h1, e⟩ := l11_in hl hn ha s0 s2 s3 s4 (some (.dat bo)) (some (.own V)) s7 s8 (some (.dat (.int (count : Int)))) count 0 0 atom s12 ha
  refine ⟨.tuple [bo, d'], some (.dat d'), y12, f_tup (fa_cons (hbo.mono (by omega)) (fa_cons (h1.mono (by omega)) fa_nil)) (by simp), ?_⟩
  have t1 : sSet 11 (vD 9) (S18 s0 (some (.dat (.list nl))) s2 s3 s4 (some (.dat bo)) (some (.own V)) s7 s8 (some (.dat atom)) (some (.dat (.int (count : Int)))) s11 s12) = some (.nx (S18 s0 (some (.dat (.list nl))) s2 s3 s4 (some (.dat bo)) (some (.own V)) s7 s8 (some (.dat atom)) (some (.dat (.int (count : Int)))) (some (.dat atom)) s12)) := rfl
  have hr : iR1 (aCons (vD 10) aNil) (S18 s0 (some (.dat (.list nl))) s2 s3 s4 (some (.dat bo)) (some (.own V)) s7 s8 (some (.dat atom)) (some (.dat (.int (count : Int)))) (some (.dat atom)) s12) = some (rng 0 count) := iR1_rng rfl (by omega)
  have t2 : sFor (iR1 (aCons (vD 10) aNil)) (gN 12) (sSet 11 pickE) (S18 s0 (some (.dat (.list nl))) s2 s3 s4 (some (.dat bo)) (some (.own V)) s7 s8 (some (.dat atom)) (some (.dat (.int (count : Int)))) (some (.dat atom)) s12) = some (.nx (S18 s0 (some (.dat (.list nl))) s2 s3 s4 (some (.dat bo)) (some (.own V)) s7 s8 (some (.dat atom)) (some (.dat (.int (count : Int)))) (some (.dat d')) y12)) := by
    unfold sFor
    rw [hr]
    exact e
  have hcc : (oTup (aCons (vD 5) (aCons (vD 11) aNil))) (S18 s0 (some (.dat (.list nl))) s2 s3 s4 (some (.dat bo)) (some (.own V)) s7 s8 (some (.dat atom)) (some (.dat (.int (count : Int)))) (some (.dat d')) y12) = some (.tuple [bo, d']) := rfl
  unfold L11b
  rw [seq_nx t1, seq_nx t2]
  simp only [sApp, hcc, vO, List.getElem?_cons_succ, List.getElem?_cons_zero, Option.bind_some, if_pos (small_lt (show V.length < 1000 by omega)), List.set_cons_succ, List.set_cons_zero]
theorem l11_eq {nl : List PyData} (hl : nl.length = 20) (hn : ∀ y ∈ nl, InN 0 1008 y) {atom bo : PyData} (ha : Fine 3 atom) (hbo : Fine 2 bo) {V : List PyData} (hV : V.length ≤ 800) (hf : FineA 64 V) (s0 s2 s3 s4 s7 s8 : Option Sl) :
    ∃ V' y10 y11 y12, V'.length ≤ V.length + 3 ∧ FineA 64 V' ∧ L11 (S18 s0 (some (.dat (.list nl))) s2 s3 s4 (some (.dat bo)) (some (.own V)) s7 s8 (some (.dat atom)) none none none) = some (.nx (S18 s0 (some (.dat (.list nl))) s2 s3 s4 (some (.dat bo)) (some (.own V')) s7 s8 (some (.dat atom)) y10 y11 y12)) := by
  obtain ⟨v1, a11, a12, g1, e1⟩ := l11b_eq hl hn ha hbo (V := V) (by omega) (show 19 ≤ 30 by omega) s0 s2 s3 s4 s7 s8 none none
  obtain ⟨v2, b11, b12, g2, e2⟩ := l11b_eq hl hn ha hbo (V := V ++ [v1]) (by rw [List.length_append, List.length_singleton]; omega) (show 20 ≤ 30 by omega) s0 s2 s3 s4 s7 s8 a11 a12
  obtain ⟨v3, c11, c12, g3, e3⟩ := l11b_eq hl hn ha hbo (V := V ++ [v1] ++ [v2]) (by rw [List.length_append, List.length_append, List.length_singleton, List.length_singleton]; omega) (show 30 ≤ 30 by omega) s0 s2 s3 s4 s7 s8 b11 b12
  refine ⟨V ++ [v1] ++ [v2] ++ [v3], some (.dat (.int ((30 : Nat) : Int))), c11, c12, by simp, fa_app (fa_app (fa_app hf (fa_cons g1 fa_nil)) (fa_cons g2 fa_nil)) (fa_cons g3 fa_nil), ?_⟩
  show Option.bind (L11b (S18 s0 (some (.dat (.list nl))) s2 s3 s4 (some (.dat bo)) (some (.own V)) s7 s8 (some (.dat atom)) (some (.dat (.int ((19 : Nat) : Int)))) none none)) _ = _
  rw [e1]
  show Option.bind (L11b (S18 s0 (some (.dat (.list nl))) s2 s3 s4 (some (.dat bo)) (some (.own (V ++ [v1]))) s7 s8 (some (.dat atom)) (some (.dat (.int ((20 : Nat) : Int)))) a11 a12)) _ = _
  rw [e2]
  show Option.bind (L11b (S18 s0 (some (.dat (.list nl))) s2 s3 s4 (some (.dat bo)) (some (.own (V ++ [v1] ++ [v2]))) s7 s8 (some (.dat atom)) (some (.dat (.int ((30 : Nat) : Int)))) b11 b12)) _ = _
  rw [e3]
  rfl
/-! ### wide ones -/
def rep (n : Nat) (a : PyData) : List PyData := (List.replicate n [a]).flatten
theorem rep_len (n : Nat) (a : PyData) : (rep n a).length = n := by
  unfold rep
  induction n with
  | zero => rfl
  | succ n ih => rw [List.replicate_succ, List.flatten_cons, List.length_append, ih, List.length_singleton, Nat.add_comm]
theorem rep_fine {n k : Nat} {a : PyData} (h : Fine k a) : FineA k (rep n a) := by
  unfold rep
  induction n with
  | zero => exact fa_nil
  | succ n ih => rw [List.replicate_succ, List.flatten_cons]; exact fa_app (fa_cons h fa_nil) ih
theorem lrep_eq {p : DLs} {ρ : Rho} {a : PyData} (n : Nat) (hp : p ρ = some [a]) (hn : n ≤ 1000) {q : DE} {j : Int} (hq : q ρ = some (.int j)) (hj : -(2 ^ 63) ≤ j ∧ j < 2 ^ 63) (hjn : j.toNat = n) : lRep p q ρ = some (rep n a) := by
  have hc : -(2 ^ 63) ≤ j ∧ j < 2 ^ 63 ∧ [a].length * j.toNat ≤ sizeLine := ⟨hj.1, hj.2, by rw [hjn, List.length_singleton, Nat.one_mul]; exact size_ok (by omega)⟩
  simp only [lRep, hp, hq, Option.bind_some, if_pos hc]
  rw [hjn]
  rfl
theorem ev_tup2 {A B : DE} {a b : PyData} {ρ : Rho} (h1 : A ρ = some a) (h2 : B ρ = some b) : oTup (aCons A (aCons B aNil)) ρ = some (.tuple [a, b]) := by
  have hz : 2 ≤ sizeLine := size_ok (by decide)
  simp only [oTup, aCons, h1, h2, aNil, Option.bind_some, Option.map_some, List.length_cons, List.length_nil, Nat.zero_add, Nat.reduceAdd, hz, if_true]
theorem ev_lst4 {A B C D : DE} {a b c d : PyData} {ρ : Rho} (h1 : A ρ = some a) (h2 : B ρ = some b) (h3 : C ρ = some c) (h4 : D ρ = some d) : lLst (aCons A (aCons B (aCons C (aCons D aNil)))) ρ = some [a, b, c, d] := by
  have hz : 4 ≤ sizeLine := size_ok (by decide)
  simp only [lLst, aCons, h1, h2, h3, h4, aNil, Option.bind_some, Option.map_some, List.length_cons, List.length_nil, Nat.zero_add, Nat.reduceAdd, hz, if_true]
theorem ev_lst1 {A : DE} {a : PyData} {ρ : Rho} (h1 : A ρ = some a) : lLst (aCons A aNil) ρ = some [a] := by
  have hz : 1 ≤ sizeLine := size_ok (by decide)
  simp only [lLst, aCons, h1, aNil, Option.bind_some, Option.map_some, List.length_cons, List.length_nil, Nat.zero_add, hz, if_true]
theorem ev_lD {p : DLs} {xs : List PyData} {ρ : Rho} (h : p ρ = some xs) : lD p ρ = some (.list xs) := by
  simp only [lD, h, Option.map_some]
theorem ev_cat {p q : DLs} {xs ys : List PyData} {ρ : Rho} (h1 : p ρ = some xs) (h2 : q ρ = some ys) (hz : xs.length + ys.length ≤ 1000000) : lCat p q ρ = some (xs ++ ys) := by
  simp only [lCat, h1, h2, Option.bind_some, if_pos (size_ok hz)]
theorem ev_own {i : Nat} {p : DLs} {xs : List PyData} {ρ : Rho} (h : p ρ = some xs) : sOwn i p ρ = some (.nx (ρ.set i (some (.own xs)))) := by
  simp only [sOwn, h, Option.map_some]
def atX : PyData := .tuple [.str "not", at1 (.tuple [.tuple [], r01]) (.str "=")]
def V12 (bo atom : PyData) : List PyData := [.tuple [bo, .tuple [.str "and", .list (rep 59 atom)]], .tuple [bo, .tuple [.str "or", .list (rep 60 atom)]], .tuple [bo, .tuple [.str "and", .list (rep 60 atom ++ [.none])]], .tuple [bo, .tuple [.str "or", .list (rep 20 atom ++ rep 41 (.tuple [.str "not", .none]))]]]
def V13 (bo : PyData) : List PyData := [.tuple [bo, .tuple [.str "and", .list (rep 29 atX ++ [at1 (.tuple [.tuple [.int 1, .int 1]]) (.str ">")])]]]
theorem l12_eq (bo atom : PyData) {V : List PyData} (hV : V.length ≤ 900) (s0 s1 s2 s3 s4 s7 s8 s10 s11 s12 : Option Sl) : L12 (S18 s0 s1 s2 s3 s4 (some (.dat bo)) (some (.own V)) s7 s8 (some (.dat atom)) s10 s11 s12) = some (.nx (S18 s0 s1 s2 s3 s4 (some (.dat bo)) (some (.own (V ++ V12 bo atom))) s7 s8 (some (.dat atom)) s10 s11 s12)) := by
  have r59 : lRep (lLst (aCons (vD 9) aNil)) (cD (.int 59)) (S18 s0 s1 s2 s3 s4 (some (.dat bo)) (some (.own V)) s7 s8 (some (.dat atom)) s10 s11 s12) = some (rep 59 atom) := lrep_eq 59 rfl (by omega) (j := 59) rfl (by decide) rfl
  have r60 : lRep (lLst (aCons (vD 9) aNil)) (cD (.int 60)) (S18 s0 s1 s2 s3 s4 (some (.dat bo)) (some (.own V)) s7 s8 (some (.dat atom)) s10 s11 s12) = some (rep 60 atom) := lrep_eq 60 rfl (by omega) (j := 60) rfl (by decide) rfl
  have r20 : lRep (lLst (aCons (vD 9) aNil)) (cD (.int 20)) (S18 s0 s1 s2 s3 s4 (some (.dat bo)) (some (.own V)) s7 s8 (some (.dat atom)) s10 s11 s12) = some (rep 20 atom) := lrep_eq 20 rfl (by omega) (j := 20) rfl (by decide) rfl
  have r41 : lRep (lLst (aCons (oTup (aCons (cD (.str "not")) (aCons (cD .none) aNil))) aNil)) (cD (.int 41)) (S18 s0 s1 s2 s3 s4 (some (.dat bo)) (some (.own V)) s7 s8 (some (.dat atom)) s10 s11 s12) = some (rep 41 (.tuple [.str "not", .none])) := lrep_eq 41 rfl (by omega) (j := 41) rfl (by decide) rfl
  exact ev_own (ev_cat rfl (ev_lst4 (ev_tup2 rfl (ev_tup2 rfl (ev_lD r59))) (ev_tup2 rfl (ev_tup2 rfl (ev_lD r60))) (ev_tup2 rfl (ev_tup2 rfl (ev_lD (ev_cat r60 (ev_lst1 rfl) (by rw [rep_len]; simp))))) (ev_tup2 rfl (ev_tup2 rfl (ev_lD (ev_cat r20 r41 (by rw [rep_len, rep_len]; omega)))))) (by show V.length + 4 ≤ 1000000; omega))
theorem l13_eq (bo : PyData) {V : List PyData} (hV : V.length ≤ 910) (s0 s1 s2 s3 s4 s7 s8 s9 s10 s11 s12 : Option Sl) : L13 (S18 s0 s1 s2 s3 s4 (some (.dat bo)) (some (.own V)) s7 s8 s9 s10 s11 s12) = some (.nx (S18 s0 s1 s2 s3 s4 (some (.dat bo)) (some (.own (V ++ V13 bo))) s7 s8 s9 s10 s11 s12)) := by
  have r29 : lRep (lLst (aCons (oTup (aCons (cD (.str "not")) (aCons (oTup (aCons (cD (.str "is")) (aCons (oTup (aCons (oTup aNil) (aCons (oTup (aCons (cD (.int 0)) (aCons (cD (.int 1)) aNil))) aNil))) (aCons (cD (.str "=")) aNil)))) aNil))) aNil)) (cD (.int 29)) (S18 s0 s1 s2 s3 s4 (some (.dat bo)) (some (.own V)) s7 s8 s9 s10 s11 s12) = some (rep 29 atX) := lrep_eq 29 rfl (by omega) (j := 29) rfl (by decide) rfl
  exact ev_own (ev_cat rfl (ev_lst1 (ev_tup2 rfl (ev_tup2 rfl (ev_lD (ev_cat r29 (ev_lst1 rfl) (by rw [rep_len]; simp)))))) (by show V.length + 1 ≤ 1000000; omega))
end K77

set_option Elab.async false
set_option linter.all false
set_option maxRecDepth 100000
set_option maxHeartbeats 4000000
/-! M19: the law is true. -/
namespace K77
open PySem DL
open L2 (atI ixN)
theorem v6_fine {p q f : PyData} (hp : Fine 1 p) (hq : Fine 1 q) (hf : Fine 13 f) : FineA 64 (V6 p q f) := by
  unfold V6
  repeat (first | exact fa_nil | refine fa_cons ?_ ?_ | exact hp.mono (by omega) | exact hq.mono (by omega) | exact hf.mono (by omega) | refine f_tup ?_ (by simp) | refine f_lst ?_ (by simp))
theorem v7_fine {p q f : PyData} (hp : Fine 1 p) (hq : Fine 1 q) (hf : Fine 13 f) : FineA 64 (V7 p q f) := by
  unfold V7
  repeat (first | exact fa_nil | refine fa_cons ?_ ?_ | exact .non | exact .int _ | exact fine_s _ (by decide +kernel) (by decide +kernel) | exact hp.mono (by omega) | exact hq.mono (by omega) | exact hf.mono (by omega) | refine f_tup ?_ (by simp) | refine f_lst ?_ (by simp))
theorem odds_fine : FineA 1 odds := by
  unfold odds qt
  repeat (first | exact fa_nil | refine fa_cons ?_ ?_ | exact .non | exact .int _ | exact fine_s _ (by decide +kernel) (by decide +kernel) | refine f_tup ?_ (by simp) | refine f_lst ?_ (by simp))
theorem v12_fine {bo atom : PyData} (hb : Fine 2 bo) (ha : Fine 3 atom) : FineA 64 (V12 bo atom) := by
  have hs : ∀ {n : Nat} (s : Str), PyData.strOk s = true → s.length ≤ 1000 → Fine n (.str s) := fun s h1 h2 => fine_s s h1 h2
  have hnn : Fine 3 (.tuple [.str "not", .none]) := f_tup (fa_cons (fine_s _ (by decide +kernel) (by decide +kernel)) (fa_cons .non fa_nil)) (by simp)
  unfold V12
  refine fa_cons ?_ (fa_cons ?_ (fa_cons ?_ (fa_cons ?_ fa_nil)))
  · exact f_tup (fa_cons (hb.mono (by omega)) (fa_cons (f_tup (fa_cons (fine_s _ (by decide +kernel) (by decide +kernel)) (fa_cons (f_lst (rep_fine (ha.mono (by omega))) (by rw [rep_len]; omega)) fa_nil)) (by simp)) fa_nil)) (by simp)
  · exact f_tup (fa_cons (hb.mono (by omega)) (fa_cons (f_tup (fa_cons (fine_s _ (by decide +kernel) (by decide +kernel)) (fa_cons (f_lst (rep_fine (ha.mono (by omega))) (by rw [rep_len]; omega)) fa_nil)) (by simp)) fa_nil)) (by simp)
  · exact f_tup (fa_cons (hb.mono (by omega)) (fa_cons (f_tup (fa_cons (fine_s _ (by decide +kernel) (by decide +kernel)) (fa_cons (f_lst (fa_app (rep_fine (ha.mono (by omega))) (fa_cons .non fa_nil)) (by rw [List.length_append, rep_len]; simp)) fa_nil)) (by simp)) fa_nil)) (by simp)
  · exact f_tup (fa_cons (hb.mono (by omega)) (fa_cons (f_tup (fa_cons (fine_s _ (by decide +kernel) (by decide +kernel)) (fa_cons (f_lst (fa_app (rep_fine (ha.mono (by omega))) (rep_fine (hnn.mono (by omega)))) (by rw [List.length_append, rep_len, rep_len]; omega)) fa_nil)) (by simp)) fa_nil)) (by simp)
theorem atX_fine : Fine 5 atX := by
  unfold atX at1 r01
  repeat (first | exact fa_nil | refine fa_cons ?_ ?_ | exact .non | exact .int _ | exact fine_s _ (by decide +kernel) (by decide +kernel) | refine f_tup ?_ (by simp) | refine f_lst ?_ (by simp))
theorem v13_fine {bo : PyData} (hb : Fine 2 bo) : FineA 64 (V13 bo) := by
  have h1 : Fine 61 (at1 (.tuple [.tuple [.int 1, .int 1]]) (.str ">")) := by
    unfold at1
    repeat (first | exact fa_nil | refine fa_cons ?_ ?_ | exact .int _ | exact fine_s _ (by decide +kernel) (by decide +kernel) | refine f_tup ?_ (by simp))
  unfold V13
  exact fa_cons (f_tup (fa_cons (hb.mono (by omega)) (fa_cons (f_tup (fa_cons (fine_s _ (by decide +kernel) (by decide +kernel)) (fa_cons (f_lst (fa_app (rep_fine (atX_fine.mono (by omega))) (fa_cons h1 fa_nil)) (by rw [List.length_append, rep_len]; simp)) fa_nil)) (by simp)) fa_nil)) (by simp)) fa_nil
theorem law_true (ns : List Int) : F_law [.list (ns.map PyData.int)] = some (.bool true) := by
  obtain ⟨nl, en, hl, hn⟩ := numbers_eq ns 0 20 (by omega)
  obtain ⟨x1, y1, f1, eg1, a1, a2, a3, a4⟩ := grid_eq ns 1
  obtain ⟨x2, y2, f2, eg2, b1, b2, b3, b4⟩ := grid_eq ns 2
  obtain ⟨pool, ep, hpl, hpn⟩ := numbers_eq ns 3 14 (by omega)
  generalize PyData.list (ns.map PyData.int) = vs at en eg1 eg2 ep ⊢
  have en' : F__law_numbers [vs, .int 0, .int 20] = some (.list nl) := en
  have eg1' : F__law_grid [vs, .int 1, .int 2, .int 2] = some (.tuple [.list x1, .list y1, .int f1]) := eg1
  have eg2' : F__law_grid [vs, .int 2, .int 2, .int 2] = some (.tuple [.list x2, .list y2, .int f2]) := eg2
  have ep' : F__law_numbers [vs, .int 3, .int 14] = some (.list pool) := ep
  have hz2 : 2 ≤ sizeLine := size_ok (by decide)
  have t1 : L1 (S18 (some (.dat vs)) none none none none none none none none none none none none) = some (.nx (S18 (some (.dat vs)) (some (.dat (.list nl))) none none none none none none none none none none none)) := by
    simp only [L1, runP, startR, sRet, sRetL, sSeq, sIf, sNil, sSet, oAnd, oOr, oNot, oIf, o1, o2, vD, cD, tB, tV, tNot, tAnd, tOr, aNil, aCons, oC, lD, iD, List.length_cons, List.length_nil, List.map_cons, List.map_nil, List.replicate, List.append_nil, List.cons_append, List.nil_append, List.getElem?_cons_zero, List.getElem?_cons_succ, List.set_cons_zero, List.set_cons_succ, List.set_nil, Option.bind_some, Option.bind_none, Option.map_some, Option.map_none, Nat.zero_add, Nat.reduceAdd, Nat.reduceSub, if_true, if_false, Bool.false_eq_true, reduceCtorEq, Bool.not_true, Bool.not_false, isi_tuple, isi_list, isi_str, isi_int, isi_bool, tyName, beq_self_eq_true, tr_b, tr_t, tr_l, fAdd_i, fSub_i, fLt_i, fLe_i, fGt_i, fGe_i, fNeg_i, fAbs_i, fLen_l, fLen_t, fIsN_n, fNotN_n, fInt_b, fIx_t, fIx_l, items_t, items_l, lLc, wipeR, Bool.not_not, Bool.and_true, Bool.true_and, Bool.and_false, Bool.false_and, Bool.or_true, Bool.true_or, Bool.or_false, Bool.false_or, en']
  have t2 : L2' (S18 (some (.dat vs)) (some (.dat (.list nl))) none none none none none none none none none none none) = some (.nx (S18 (some (.dat vs)) (some (.dat (.list nl))) (some (.dat (.list [.tuple [.list x1, .list y1, .int f1], .tuple [.list x2, .list y2, .int f2]]))) none none none none none none none none none none)) := by
    simp only [L2', runP, startR, sRet, sRetL, sSeq, sIf, sNil, sSet, oAnd, oOr, oNot, oIf, o1, o2, vD, cD, tB, tV, tNot, tAnd, tOr, aNil, aCons, oC, lD, iD, List.length_cons, List.length_nil, List.map_cons, List.map_nil, List.replicate, List.append_nil, List.cons_append, List.nil_append, List.getElem?_cons_zero, List.getElem?_cons_succ, List.set_cons_zero, List.set_cons_succ, List.set_nil, Option.bind_some, Option.bind_none, Option.map_some, Option.map_none, Nat.zero_add, Nat.reduceAdd, Nat.reduceSub, if_true, if_false, Bool.false_eq_true, reduceCtorEq, Bool.not_true, Bool.not_false, isi_tuple, isi_list, isi_str, isi_int, isi_bool, tyName, beq_self_eq_true, tr_b, tr_t, tr_l, fAdd_i, fSub_i, fLt_i, fLe_i, fGt_i, fGe_i, fNeg_i, fAbs_i, fLen_l, fLen_t, fIsN_n, fNotN_n, fInt_b, fIx_t, fIx_l, items_t, items_l, lLc, wipeR, Bool.not_not, Bool.and_true, Bool.true_and, Bool.and_false, Bool.false_and, Bool.or_true, Bool.true_or, Bool.or_false, Bool.false_or, eg1', eg2', lLst, hz2]
  match nl, hl, hn, t1, t2 with
  | n0 :: nr, hl, hn, t1, t2 =>
    obtain ⟨i0, rfl, _⟩ := hn n0 (List.mem_cons_self ..)
    obtain ⟨b, bs, hbl, hbf, t3⟩ := l3_eq (owns := [.tuple [.list x1, .list y1, .int f1], .tuple [.list x2, .list y2, .int f2]]) ⟨x1, y1, f1, x2, y2, f2, rfl, a1, a2, ⟨a3, a4⟩, b1, b2, ⟨b3, b4⟩⟩ (n0 := i0) (nl := nr) (some (.dat vs))
    have hpr : IntL 14 0 1008 pool.reverse := ⟨by rw [List.length_reverse]; omega, fun y hy => hpn y (List.mem_reverse.mp hy)⟩
    obtain ⟨f, pool', ef, hfm, _⟩ := formula_eq (forms := b :: bs) (by simp) (by rw [List.length_cons]; omega) hbf 5 10 5 pool.reverse rfl (by omega) hpr
    have t4 : L4 (S18 (some (.dat vs)) (some (.dat (.list (.int i0 :: nr)))) (some (.dat (.list [.tuple [.list x1, .list y1, .int f1], .tuple [.list x2, .list y2, .int f2]]))) (some (.dat (.list (b :: bs)))) none none none none none none none none none) = some (.nx (S18 (some (.dat vs)) (some (.dat (.list (.int i0 :: nr)))) (some (.dat (.list [.tuple [.list x1, .list y1, .int f1], .tuple [.list x2, .list y2, .int f2]]))) (some (.dat (.list (b :: bs)))) (some (.dat f)) none none none none none none none none)) := by
      simp only [L4, runP, startR, sRet, sRetL, sSeq, sIf, sNil, sSet, oAnd, oOr, oNot, oIf, o1, o2, vD, cD, tB, tV, tNot, tAnd, tOr, aNil, aCons, oC, lD, iD, List.length_cons, List.length_nil, List.map_cons, List.map_nil, List.replicate, List.append_nil, List.cons_append, List.nil_append, List.getElem?_cons_zero, List.getElem?_cons_succ, List.set_cons_zero, List.set_cons_succ, List.set_nil, Option.bind_some, Option.bind_none, Option.map_some, Option.map_none, Nat.zero_add, Nat.reduceAdd, Nat.reduceSub, if_true, if_false, Bool.false_eq_true, reduceCtorEq, Bool.not_true, Bool.not_false, isi_tuple, isi_list, isi_str, isi_int, isi_bool, tyName, beq_self_eq_true, tr_b, tr_t, tr_l, fAdd_i, fSub_i, fLt_i, fLe_i, fGt_i, fGe_i, fNeg_i, fAbs_i, fLen_l, fLen_t, fIsN_n, fNotN_n, fInt_b, fIx_t, fIx_l, items_t, items_l, lLc, wipeR, Bool.not_not, Bool.and_true, Bool.true_and, Bool.and_false, Bool.false_and, Bool.or_true, Bool.true_or, Bool.or_false, Bool.false_or, oCallT, lRev, asL, ep', ef]
    obtain ⟨qa, qb, hqa, hqb, t5⟩ := l5_eq (nl := .int i0 :: nr) hl hn (some (.dat vs)) (some (.dat (.list [.tuple [.list x1, .list y1, .int f1], .tuple [.list x2, .list y2, .int f2]]))) (some (.dat (.list (b :: bs)))) (some (.dat f))
    have hp1 : Fine 1 (qt qa "x") := fine_qt hqa (.inl rfl)
    have hq1 : Fine 1 (qt qb "y") := fine_qt hqb (.inr rfl)
    have hf13 : Fine 13 f := hfm.fine
    have hbo : Fine 2 (.list [qt qa "x", qt qb "y"]) := f_lst (fa_cons hp1 (fa_cons hq1 fa_nil)) (by simp)
    obtain ⟨items, ei, hi1, hi2⟩ := bent_eq 5 20 f (.int i0 :: nr) hfm (by omega) (by omega) (by rw [hl]; omega) hn
    have g7 : FineA 64 (V6 (qt qa "x") (qt qb "y") f ++ V7 (qt qa "x") (qt qb "y") f) := fa_app (v6_fine hp1 hq1 hf13) (v7_fine hp1 hq1 hf13)
    obtain ⟨y7, e8⟩ := l8_go (qt qa "x") (qt qb "y") f (some (.dat vs)) (some (.dat (.list (.int i0 :: nr)))) (some (.dat (.list [.tuple [.list x1, .list y1, .int f1], .tuple [.list x2, .list y2, .int f2]]))) (some (.dat (.list (b :: bs)))) none none none none none odds (V6 (qt qa "x") (qt qb "y") f ++ V7 (qt qa "x") (qt qb "y") f) none (by simp [V6, V7, odds])
    obtain ⟨W8, hW8⟩ : ∃ W, W = V6 (qt qa "x") (qt qb "y") f ++ V7 (qt qa "x") (qt qb "y") f ++ odds.map fun o => .tuple [.list [o, qt qb "y"], f] := ⟨_, rfl⟩
    have l8 : W8.length = 19 := by rw [hW8]; rfl
    have g8 : FineA 64 W8 := by
      rw [hW8]
      refine fa_app g7 fun x hx => ?_
      obtain ⟨o, ho, rfl⟩ := List.mem_map.mp hx
      exact f_tup (fa_cons (f_lst (fa_cons ((odds_fine o ho).mono (by omega)) (fa_cons (hq1.mono (by omega)) fa_nil)) (by simp)) (fa_cons (hf13.mono (by omega)) fa_nil)) (by simp)
    rw [← hW8] at e8
    have t8 : L8 (S18 (some (.dat vs)) (some (.dat (.list (.int i0 :: nr)))) (some (.dat (.list [.tuple [.list x1, .list y1, .int f1], .tuple [.list x2, .list y2, .int f2]]))) (some (.dat (.list (b :: bs)))) (some (.dat f)) (some (.dat (.list [qt qa "x", qt qb "y"]))) (some (.own (V6 (qt qa "x") (qt qb "y") f ++ V7 (qt qa "x") (qt qb "y") f))) none none none none none none) = some (.nx (S18 (some (.dat vs)) (some (.dat (.list (.int i0 :: nr)))) (some (.dat (.list [.tuple [.list x1, .list y1, .int f1], .tuple [.list x2, .list y2, .int f2]]))) (some (.dat (.list (b :: bs)))) (some (.dat f)) (some (.dat (.list [qt qa "x", qt qb "y"]))) (some (.own W8)) y7 none none none none none)) := by
      unfold L8 sFor iD lD
      rw [oddL_eq]
      exact e8
    obtain ⟨y8, e9⟩ := l9_go (.list [qt qa "x", qt qb "y"]) (some (.dat vs)) (some (.dat (.list (.int i0 :: nr)))) (some (.dat (.list [.tuple [.list x1, .list y1, .int f1], .tuple [.list x2, .list y2, .int f2]]))) (some (.dat (.list (b :: bs)))) (some (.dat f)) y7 none none none none items W8 none (by omega)
    obtain ⟨W9, hW9⟩ : ∃ W, W = W8 ++ items.map fun o => .tuple [.list [qt qa "x", qt qb "y"], o] := ⟨_, rfl⟩
    have l9 : W9.length ≤ 163 := by rw [hW9, List.length_append, List.length_map]; omega
    have g9 : FineA 64 W9 := by
      rw [hW9]
      refine fa_app g8 fun x hx => ?_
      obtain ⟨o, ho, rfl⟩ := List.mem_map.mp hx
      exact f_tup (fa_cons (hbo.mono (by omega)) (fa_cons ((hi2 o ho).mono (by omega)) fa_nil)) (by simp)
    rw [← hW9] at e9
    have t9 : L9 (S18 (some (.dat vs)) (some (.dat (.list (.int i0 :: nr)))) (some (.dat (.list [.tuple [.list x1, .list y1, .int f1], .tuple [.list x2, .list y2, .int f2]]))) (some (.dat (.list (b :: bs)))) (some (.dat f)) (some (.dat (.list [qt qa "x", qt qb "y"]))) (some (.own W8)) y7 none none none none none) = some (.nx (S18 (some (.dat vs)) (some (.dat (.list (.int i0 :: nr)))) (some (.dat (.list [.tuple [.list x1, .list y1, .int f1], .tuple [.list x2, .list y2, .int f2]]))) (some (.dat (.list (b :: bs)))) (some (.dat f)) (some (.dat (.list [qt qa "x", qt qb "y"]))) (some (.own W9)) y7 y8 none none none none)) := by
      have esrc : iD (oC (F__law_bent 20) (aCons (vD 4) (aCons (vD 1) aNil))) (S18 (some (.dat vs)) (some (.dat (.list (.int i0 :: nr)))) (some (.dat (.list [.tuple [.list x1, .list y1, .int f1], .tuple [.list x2, .list y2, .int f2]]))) (some (.dat (.list (b :: bs)))) (some (.dat f)) (some (.dat (.list [qt qa "x", qt qb "y"]))) (some (.own W8)) y7 none none none none none) = some items := by
        simp only [runP, startR, sRet, sRetL, sSeq, sIf, sNil, sSet, oAnd, oOr, oNot, oIf, o1, o2, vD, cD, tB, tV, tNot, tAnd, tOr, aNil, aCons, oC, lD, iD, List.length_cons, List.length_nil, List.map_cons, List.map_nil, List.replicate, List.append_nil, List.cons_append, List.nil_append, List.getElem?_cons_zero, List.getElem?_cons_succ, List.set_cons_zero, List.set_cons_succ, List.set_nil, Option.bind_some, Option.bind_none, Option.map_some, Option.map_none, Nat.zero_add, Nat.reduceAdd, Nat.reduceSub, if_true, if_false, Bool.false_eq_true, reduceCtorEq, Bool.not_true, Bool.not_false, isi_tuple, isi_list, isi_str, isi_int, isi_bool, tyName, beq_self_eq_true, tr_b, tr_t, tr_l, fAdd_i, fSub_i, fLt_i, fLe_i, fGt_i, fGe_i, fNeg_i, fAbs_i, fLen_l, fLen_t, fIsN_n, fNotN_n, fInt_b, fIx_t, fIx_l, items_t, items_l, lLc, wipeR, Bool.not_not, Bool.and_true, Bool.true_and, Bool.and_false, Bool.false_and, Bool.or_true, Bool.true_or, Bool.or_false, Bool.false_or, ei]
      unfold L9 sFor
      rw [esrc]
      exact e9
    obtain ⟨atom, hat⟩ : ∃ a : PyData, a = .tuple [.str "is", b, .str "<"] := ⟨_, rfl⟩
    have ha : Fine 3 atom := by
      rw [hat]
      exact f_tup (fa_cons (fine_s _ (by decide +kernel) (by decide +kernel)) (fa_cons (hbf b (List.mem_cons_self ..)) (fa_cons (fine_s _ (by decide +kernel) (by decide +kernel)) fa_nil))) (by simp)
    have t10 : L10 (S18 (some (.dat vs)) (some (.dat (.list (.int i0 :: nr)))) (some (.dat (.list [.tuple [.list x1, .list y1, .int f1], .tuple [.list x2, .list y2, .int f2]]))) (some (.dat (.list (b :: bs)))) (some (.dat f)) (some (.dat (.list [qt qa "x", qt qb "y"]))) (some (.own W9)) y7 y8 none none none none) = some (.nx (S18 (some (.dat vs)) (some (.dat (.list (.int i0 :: nr)))) (some (.dat (.list [.tuple [.list x1, .list y1, .int f1], .tuple [.list x2, .list y2, .int f2]]))) (some (.dat (.list (b :: bs)))) (some (.dat f)) (some (.dat (.list [qt qa "x", qt qb "y"]))) (some (.own W9)) y7 y8 (some (.dat atom)) none none none)) := by
      have hz3 : 3 ≤ sizeLine := size_ok (by decide)
      simp only [L10, runP, startR, sRet, sRetL, sSeq, sIf, sNil, sSet, oAnd, oOr, oNot, oIf, o1, o2, vD, cD, tB, tV, tNot, tAnd, tOr, aNil, aCons, oC, lD, iD, List.length_cons, List.length_nil, List.map_cons, List.map_nil, List.replicate, List.append_nil, List.cons_append, List.nil_append, List.getElem?_cons_zero, List.getElem?_cons_succ, List.set_cons_zero, List.set_cons_succ, List.set_nil, Option.bind_some, Option.bind_none, Option.map_some, Option.map_none, Nat.zero_add, Nat.reduceAdd, Nat.reduceSub, if_true, if_false, Bool.false_eq_true, reduceCtorEq, Bool.not_true, Bool.not_false, isi_tuple, isi_list, isi_str, isi_int, isi_bool, tyName, beq_self_eq_true, tr_b, tr_t, tr_l, fAdd_i, fSub_i, fLt_i, fLe_i, fGt_i, fGe_i, fNeg_i, fAbs_i, fLen_l, fLen_t, fIsN_n, fNotN_n, fInt_b, fIx_t, fIx_l, items_t, items_l, lLc, wipeR, Bool.not_not, Bool.and_true, Bool.true_and, Bool.and_false, Bool.false_and, Bool.or_true, Bool.true_or, Bool.or_false, Bool.false_or, oTup, atI_0, hz3, hat]
    obtain ⟨W11, y10, y11, y12, h11, g11, t11⟩ := l11_eq (nl := .int i0 :: nr) hl hn ha hbo (V := W9) (by omega) g9 (some (.dat vs)) (some (.dat (.list [.tuple [.list x1, .list y1, .int f1], .tuple [.list x2, .list y2, .int f2]]))) (some (.dat (.list (b :: bs)))) (some (.dat f)) y7 y8
    have t12 := l12_eq (.list [qt qa "x", qt qb "y"]) atom (V := W11) (by omega) (some (.dat vs)) (some (.dat (.list (.int i0 :: nr)))) (some (.dat (.list [.tuple [.list x1, .list y1, .int f1], .tuple [.list x2, .list y2, .int f2]]))) (some (.dat (.list (b :: bs)))) (some (.dat f)) y7 y8 y10 y11 y12
    have t13 := l13_eq (.list [qt qa "x", qt qb "y"]) (V := W11 ++ V12 (.list [qt qa "x", qt qb "y"]) atom) (by rw [List.length_append]; show W11.length + 4 ≤ 910; omega) (some (.dat vs)) (some (.dat (.list (.int i0 :: nr)))) (some (.dat (.list [.tuple [.list x1, .list y1, .int f1], .tuple [.list x2, .list y2, .int f2]]))) (some (.dat (.list (b :: bs)))) (some (.dat f)) y7 y8 (some (.dat atom)) y10 y11 y12
    obtain ⟨W, hW⟩ : ∃ W, W = W11 ++ V12 (.list [qt qa "x", qt qb "y"]) atom ++ V13 (.list [qt qa "x", qt qb "y"]) := ⟨_, rfl⟩
    have gW : FineA 64 W := by
      rw [hW]
      exact fa_app (fa_app g11 (v12_fine hbo ha)) (v13_fine hbo)
    rw [← hW] at t13
    obtain ⟨z13, z14, z15, z16, e14⟩ := ck_go (some (.dat vs)) (some (.dat (.list (.int i0 :: nr)))) (some (.dat (.list [.tuple [.list x1, .list y1, .int f1], .tuple [.list x2, .list y2, .int f2]]))) (some (.dat (.list (b :: bs)))) (some (.dat f)) (some (.dat (.list [qt qa "x", qt qb "y"]))) (some (.dat (.list W))) y7 y8 (some (.dat atom)) y10 y11 y12 none W none none none none gW
    have t14 : sForO 6 (gN 13) ckBody (S18 (some (.dat vs)) (some (.dat (.list (.int i0 :: nr)))) (some (.dat (.list [.tuple [.list x1, .list y1, .int f1], .tuple [.list x2, .list y2, .int f2]]))) (some (.dat (.list (b :: bs)))) (some (.dat f)) (some (.dat (.list [qt qa "x", qt qb "y"]))) (some (.own W)) y7 y8 (some (.dat atom)) y10 y11 y12) = some (.nx [some (.dat vs), some (.dat (.list (.int i0 :: nr))), some (.dat (.list [.tuple [.list x1, .list y1, .int f1], .tuple [.list x2, .list y2, .int f2]])), some (.dat (.list (b :: bs))), some (.dat f), some (.dat (.list [qt qa "x", qt qb "y"])), some (.dat (.list W)), y7, y8, some (.dat atom), y10, y11, y12, z13, z14, z15, z16, none]) := e14
    have hst : startR 18 [vs] = S18 (some (.dat vs)) none none none none none none none none none none none none := rfl
    have hl1 : ([vs] : List PyData).length = 1 := rfl
    unfold F_law runP
    rw [if_pos hl1, law_split, hst, seq_nx t1, seq_nx t2, seq_nx t3, seq_nx t4, seq_nx t5, seq_nx (l6_eq _ _ _ _ _ _ _ _ _ _ _ _ _), seq_nx (l7_eq _ _ _ _ _ _ _ _ _ _ _ _ _), seq_nx t8, seq_nx t9, seq_nx t10, seq_nx t11, seq_nx t12, seq_nx t13, seq_nx t14]
    rfl
end K77

set_option Elab.async false
set_option linter.all false
set_option maxRecDepth 100000
set_option maxHeartbeats 4000000
/-! each def keeps what it gives (printed by gen.py) -/
namespace K77
open PySem L2 PyProof.Rows DL
def top (i : Nat) : Stmt := PySem.Challenge.pw_rootsreckon_k77_sentences_checked.main.body.getD i (.Pass ⟨0, 0, 0, 0⟩)
abbrev s_is_whole : Stmt := top 5
abbrev s_is_row : Stmt := top 9
abbrev s_is_form : Stmt := top 10
abbrev s_is_plain_number : Stmt := top 11
abbrev s_within : Stmt := top 15
abbrev s_atoms_of : Stmt := top 16
abbrev s_forms_of : Stmt := top 17
abbrev s_uses_x : Stmt := top 18
abbrev s_uses_y : Stmt := top 19
abbrev s_is_quantifier : Stmt := top 29
abbrev s_are_quantifiers : Stmt := top 30
abbrev s_formula_fault : Stmt := top 31
abbrev s_has_free : Stmt := top 32
abbrev s_fault_of : Stmt := top 33
abbrev s_check_sentence : Stmt := top 35
abbrev s_is_sentence : Stmt := top 36
abbrev s_forms_in : Stmt := top 37
abbrev s__law_numbers : Stmt := top 39
abbrev s__law_is_integer : Stmt := top 40
abbrev s__law_copied : Stmt := top 41
abbrev s__law_pop : Stmt := top 42
abbrev s__law_expand : Stmt := top 43
abbrev s__law_grid_form : Stmt := top 44
abbrev s__law_formula : Stmt := top 45
abbrev s__law_grid : Stmt := top 46
abbrev s__law_refusal : Stmt := top 47
abbrev s__law_is_form : Stmt := top 48
abbrev s__law_within : Stmt := top 49
abbrev s__law_listed : Stmt := top 50
abbrev s__law_forms : Stmt := top 51
abbrev s__law_due : Stmt := top 52
abbrev s__law_bent : Stmt := top 53
abbrev s_law : Stmt := top 54
/-- what the written part says of names that are no defs -/
structure Txt (K : PySem.W.Frag) (mg : Str → Option Value) : Prop where
  b_abs : mg "abs" = none
  b_all : mg "all" = none
  b_any : mg "any" = none
  b_bool : mg "bool" = none
  b_int : mg "int" = none
  b_isinstance : mg "isinstance" = none
  b_len : mg "len" = none
  b_list : mg "list" = none
  b_range : mg "range" = none
  b_str : mg "str" = none
  b_tuple : mg "tuple" = none
  c_MOST_DEGREE : ∃ t, mg "MOST_DEGREE" = some (.int 2 t)
  c_MOST_COEFFICIENT : ∃ t, mg "MOST_COEFFICIENT" = some (.int 1000000 t)
  c_MOST_PARTS : ∃ t, mg "MOST_PARTS" = some (.int 60 t)
  c_MOST_DEEP : ∃ t, mg "MOST_DEEP" = some (.int 20 t)
  c_MOST_FORMS : ∃ t, mg "MOST_FORMS" = some (.int 2 t)
  c_IS : ∃ t, mg "IS" = some (.str "is" t)
  c_SOME : ∃ t, mg "SOME" = some (.str "some" t)
  c_ALL : ∃ t, mg "ALL" = some (.str "all" t)
  c_FORM : ∃ t, mg "FORM" = some (.str "form" t)
  c_FREE : ∃ t, mg "FREE" = some (.str "free" t)
  c_LARGE : ∃ t, mg "LARGE" = some (.str "large" t)
  c_RELATIONS : ∃ f xs, mg "RELATIONS" = some (.ref f) ∧ (∀ H, SqT K H f xs) ∧ ∀ H, DpAll K H xs [.str "=", .str "<", .str ">", .str "<=", .str ">=", .str "!="]
section
variable {X : Cx} {B0 : BZ} {H0 : Hp} {pos : Pos}
theorem dpv (i : Nat) {x : Str} (hN : X.N[i]? = some x := by rfl) (hv : Vis X.env.scope x := by first | exact Or.inl rfl | exact Or.inr (Or.inl rfl) | exact Or.inr (Or.inr rfl)) (hd : (x == ("__debug__" : Str)) = false := by decide) (hcd : (x == ("__classdict__" : Str)) = false := by decide) : DP X B0 H0 (.Name x pos) (vD i) := dp_var hN hv hd hcd
theorem dev (i : Nat) {x : Str} (hN : X.N[i]? = some x := by rfl) (hv : Vis X.env.scope x := by first | exact Or.inl rfl | exact Or.inr (Or.inl rfl) | exact Or.inr (Or.inr rfl)) (hd : (x == ("__debug__" : Str)) = false := by decide) (hcd : (x == ("__classdict__" : Str)) = false := by decide) : DEl X B0 H0 (.Name x pos) (vO i) := de_own hN hv hd hcd
theorem dp_gint {x : Str} {i : Int} (hg : Gl X x) (h : ∃ t, X.mg x = some (.int i t)) (hdb : (x == ("__debug__" : Str)) = false := by decide) : DP X B0 H0 (.Name x pos) (cD (.int i)) := by
  obtain ⟨t, h⟩ := h
  exact dp_glob (v := .int i) hg h ⟨t, rfl⟩ (fun H => .int i) hdb
theorem dp_gstr {x z : Str} (hg : Gl X x) (h : ∃ t, X.mg x = some (.str z t)) (hdb : (x == ("__debug__" : Str)) = false := by decide) : DP X B0 H0 (.Name x pos) (cD (.str z)) := by
  obtain ⟨t, h⟩ := h
  exact dp_glob (v := .str z) hg h ⟨t, rfl⟩ (fun H => .str z) hdb
theorem dp_gtp {x : Str} {ds : List PyData} (hg : Gl X x) (h : ∃ f xs, X.mg x = some (.ref f) ∧ (∀ H, SqT X.K H f xs) ∧ ∀ H, DpAll X.K H xs ds) (hdb : (x == ("__debug__" : Str)) = false := by decide) : DP X B0 H0 (.Name x pos) (cD (.tuple ds)) := by
  obtain ⟨f, xs, h1, h2, h3⟩ := h
  exact dp_gtup hg h1 h2 h3 hdb
theorem un65 {k : Nat} {A : Around} (r : Room k A) : A.units + 65 < cLine := by have := r.un; omega
theorem nz0 {i : Nat} (h : i ≠ 0) : NZ B0 i := fun e => absurd e h
theorem nzs {sl : List Nat} (h : 0 ∉ sl) : ∀ v ∈ sl, NZ B0 v := fun v hv e => absurd (e ▸ hv) h
theorem inz {is sl : List Nat} (h : ∀ i ∈ is, i ∈ sl) (h0 : 0 ∉ is) : ∀ i ∈ is, i ∈ sl ∧ NZ B0 i := fun i hi => ⟨h i hi, nzs h0 i hi⟩
theorem insl_nil : InSl X [] [] := True.intro
theorem insl_cons {n : Str} {ns : List Str} {i : Nat} {is : List Nat} (h1 : X.N[i]? = some n) (h2 : X.env.scope.names.lookup n = some .local) (h3 : InSl X ns is) : InSl X (n :: ns) (i :: is) := ⟨h1, h2, h3⟩
end
section
variable {P : Program} {w : World} {K : PySem.W.Frag} {mg : Str → Option Value} {base : Heap} {f : Addr} {fd : FuncData} {k : Nat}
theorem sc_is_whole : FnScope ["value"] ["value"] (defScope s_is_whole) := ⟨rfl, rfl, rfl, by decide +kernel, rfl, by decide +kernel, by decide +kernel⟩
theorem ok_is_whole (F : L2.Fun K "is_whole" "is_whole" s_is_whole f fd) (T : Txt K mg) : FnOk P w K mg base CX0 (k + 1) f fd ["value"] (spP K (runP 1 1 (d_is_whole))) :=
  fn_P F sc_is_whole fun cdv A outer s B0 H0 H E hz hr =>
  (dss_one (ds_ret (dp_and (dp_isi rfl T.b_isinstance rfl T.b_int (by decide +kernel) (dk_of (dpv 0))) (dp_one (dp_not (dk_of (dp_isi rfl T.b_isinstance rfl T.b_bool (by decide +kernel) (dk_of (dpv 0)))))))))
theorem sc_is_row : FnScope ["value", "c"] ["value"] (defScope s_is_row) := ⟨rfl, rfl, rfl, by decide +kernel, rfl, by decide +kernel, by decide +kernel⟩
theorem ok_is_row (F : L2.Fun K "is_row" "is_row" s_is_row f fd) (T : Txt K mg) (D_is_whole : Dfn P w K mg base k "is_whole" (spP K F_is_whole)) : FnOk P w K mg base CX0 (k + 1) f fd ["value"] (spP K (runP 1 2 (d_is_row))) :=
  fn_P F sc_is_row fun cdv A outer s B0 H0 H E hz hr =>
  (dss_cons (ds_if (PW.pt (dw_or (dt_not (dt_truth (dk_of (dp_isi rfl T.b_isinstance rfl T.b_tuple (by decide +kernel) (dk_of (dpv 0)))))) (dw_or1 (dt_cmp op_gt sc_int (dk_of (dp_len rfl T.b_len (dak_cons (dk_of (dpv 0)) dak_nil))) (dk_of (dp_add (dk_of (dp_gint rfl T.c_MOST_DEGREE)) (dk_of dp_int))) (nomark _)))))
    (dss_one (ds_ret dp_bl))
    dss_nil)
  (dss_cons (ds_if (dt_not (dt_truth (dk_of (dp_all rfl rfl T.b_all (dak_cons (dk_of (dp_ofL (dl_lc (own := [("c", 1)]) rfl sc_is_row.nd (di_data (dpv 0)) (blkOk_by (N := ["value", "c"]) (sc := defScope s_is_row) (by decide +kernel)) (dg_name (by decide) (nz0 (by decide))) (nzs (by decide)) (fun _ _ _ _ _ => (pg_name (i := 1) sc_is_row.nd rfl (Or.inl rfl))) (fun _ _ _ _ _ => dts_nil) (fun _ _ _ _ _ => (dp_and (dp_call D_is_whole hr rfl (da_cons (dpv 1) da_nil)) (dp_one (dp_cmp op_le sc_int (dk_of (dp_abs rfl T.b_abs (dak_cons (dk_of (dpv 1)) dak_nil))) (dk_of (dp_gint rfl T.c_MOST_COEFFICIENT)) (nomark _)))))))) dak_nil)))))
    (dss_one (ds_ret dp_bl))
    dss_nil)
  (dss_one (ds_ret (dp_or (dp_not (dk_of (dpv 0))) (dp_one (dp_cmp (op_neD hr.units) sc_ne (dk_of (dp_ix (dpv 0) (dk_of (dp_neg (dk_of dp_int))))) (dk_of dp_int) (nomark _))))))))
theorem sc_is_form : FnScope ["value", "row"] ["value"] (defScope s_is_form) := ⟨rfl, rfl, rfl, by decide +kernel, rfl, by decide +kernel, by decide +kernel⟩
theorem ok_is_form (F : L2.Fun K "is_form" "is_form" s_is_form f fd) (T : Txt K mg) (D_is_row : Dfn P w K mg base k "is_row" (spP K F_is_row)) : FnOk P w K mg base CX0 (k + 1) f fd ["value"] (spP K (runP 1 2 (d_is_form))) :=
  fn_P F sc_is_form fun cdv A outer s B0 H0 H E hz hr =>
  (dss_cons (ds_if (PW.pt (dw_or (dt_not (dt_truth (dk_of (dp_isi rfl T.b_isinstance rfl T.b_tuple (by decide +kernel) (dk_of (dpv 0)))))) (dw_or (dt_cmp op_gt sc_int (dk_of (dp_len rfl T.b_len (dak_cons (dk_of (dpv 0)) dak_nil))) (dk_of (dp_add (dk_of (dp_gint rfl T.c_MOST_DEGREE)) (dk_of dp_int))) (nomark _)) (dw_or1 (dt_not (dt_truth (dk_of (dp_all rfl rfl T.b_all (dak_cons (dk_of (dp_ofL (dl_lc (own := [("row", 1)]) rfl sc_is_form.nd (di_data (dpv 0)) (blkOk_by (N := ["value", "row"]) (sc := defScope s_is_form) (by decide +kernel)) (dg_name (by decide) (nz0 (by decide))) (nzs (by decide)) (fun _ _ _ _ _ => (pg_name (i := 1) sc_is_form.nd rfl (Or.inl rfl))) (fun _ _ _ _ _ => dts_nil) (fun _ _ _ _ _ => (dp_call D_is_row hr rfl (da_cons (dpv 1) da_nil)))))) dak_nil)))))))))
    (dss_one (ds_ret dp_bl))
    dss_nil)
  (dss_one (ds_ret (dp_or (dp_not (dk_of (dpv 0))) (dp_one (dp_cmp (op_neD hr.units) sc_ne (dk_of (dp_ix (dpv 0) (dk_of (dp_neg (dk_of dp_int))))) (dk_of (dp_tup da_nil)) (nomark _)))))))
theorem sc_is_plain_number : FnScope ["form"] ["form"] (defScope s_is_plain_number) := ⟨rfl, rfl, rfl, by decide +kernel, rfl, by decide +kernel, by decide +kernel⟩
theorem ok_is_plain_number (F : L2.Fun K "is_plain_number" "is_plain_number" s_is_plain_number f fd) (T : Txt K mg) : FnOk P w K mg base CX0 (k + 1) f fd ["form"] (spP K (runP 1 1 (d_is_plain_number))) :=
  fn_P F sc_is_plain_number fun cdv A outer s B0 H0 H E hz hr =>
  (dss_one (ds_ret (dp_and (dp_cmp op_lt sc_int (dk_of (dp_len rfl T.b_len (dak_cons (dk_of (dpv 0)) dak_nil))) (dk_of dp_int) (nomark _)) (dp_one (dp_or (dp_not (dk_of (dpv 0))) (dp_one (dp_cmp (op_eqD hr.units) sc_eq (dk_of (dp_len rfl T.b_len (dak_cons (dk_of (dp_ix (dpv 0) (dk_of dp_int))) dak_nil))) (dk_of dp_int) (nomark _))))))))
theorem sc_within : FnScope ["value", "form", "relation", "inner", "listed"] ["value"] (defScope s_within) := ⟨rfl, rfl, rfl, by decide +kernel, rfl, by decide +kernel, by decide +kernel⟩
theorem ok_within (F : L2.Fun K "within" "within" s_within f fd) (T : Txt K mg) (D_is_form : Dfn P w K mg base k "is_form" (spP K F_is_form)) : FnOk P w K mg base CX0 (k + 1) f fd ["value"] (spP K (runP 1 5 (d_within))) :=
  fn_P F sc_within fun cdv A outer s B0 H0 H E hz hr =>
  (dss_cons (ds_if (dt_not (dt_truth (dk_of (dp_isi rfl T.b_isinstance rfl T.b_tuple (by decide +kernel) (dk_of (dpv 0))))))
    (dss_one (ds_ret dp_non))
    dss_nil)
  (dss_one (ds_match (dpv 0) (dmc_cons (is := [1, 2]) sc_within.nd (dpt_seq rfl (dpe_cons (dpt_str hr.units) (dpe_cons dpt_cap (dpe_cons dpt_cap dpe_nil)))) (insl_cons rfl rfl (insl_cons rfl rfl insl_nil)) (nzs (by decide)) (dss_one (ds_ret (dp_if (PW.pt (dw_and (dt_truth (dk_of (dp_call D_is_form hr rfl (da_cons (dpv 1) da_nil)))) (dw_and (dt_truth (dk_of (dp_isi rfl T.b_isinstance rfl T.b_str (by decide +kernel) (dk_of (dpv 2))))) (dw_and1 (dt_cmp (op_inA (un65 hr)) sc_in (dk_of (dpv 2)) (dk_of (dp_gtp rfl T.c_RELATIONS)) (by with_unfolding_all rfl)))))) (dp_ofL (dl_lst da_nil)) dp_non)))
   (dmc_cons (is := [3]) sc_within.nd (dpt_seq rfl (dpe_cons (dpt_str hr.units) (dpe_cons dpt_cap dpe_nil))) (insl_cons rfl rfl insl_nil) (nzs (by decide)) (dss_one (ds_retL (dl_lst (da_cons (dpv 3) da_nil))))
   (dmc_cons (is := [4]) sc_within.nd (dpt_seq rfl (dpe_cons (dpt_or (dpo_cons (dpt_str hr.units) (dpo_cons (dpt_str hr.units) dpo_nil)) (hm := (mOr_nil (mOr_nil mNo_nil)))) (dpe_cons dpt_cap dpe_nil))) (insl_cons rfl rfl insl_nil) (nzs (by decide)) (dss_one (ds_ret (dp_if (PW.pt (dw_and (dt_truth (dk_of (dp_isi rfl T.b_isinstance rfl T.b_list (by decide +kernel) (dk_of (dpv 4))))) (dw_and1 (dt_cmp op_ge sc_int (dk_of (dp_len rfl T.b_len (dak_cons (dk_of (dpv 4)) dak_nil))) (dk_of dp_int) (nomark _))))) (dpv 4) dp_non)))
   (dmc_cons (is := []) sc_within.nd dpt_wild insl_nil (nzs (by decide)) (dss_one (ds_ret dp_non))
   dmc_nil)))))))
theorem sc_atoms_of : FnScope ["formula", "found", "waiting", "told"] ["formula"] (defScope s_atoms_of) := ⟨rfl, rfl, rfl, by decide +kernel, rfl, by decide +kernel, by decide +kernel⟩
theorem ok_atoms_of (F : L2.Fun K "atoms_of" "atoms_of" s_atoms_of f fd) (T : Txt K mg) (D_within : Dfn P w K mg base k "within" (spP K F_within)) : FnOk P w K mg base CX0 (k + 1) f fd ["formula"] (spP K (runP 1 4 (d_atoms_of))) :=
  fn_P F sc_atoms_of fun cdv A outer s B0 H0 H E hz hr =>
  (dss_cons (ds_own (i := 1) (nz0 (by decide)) sc_atoms_of.nd rfl (Or.inl rfl) (dl_lst da_nil))
  (dss_cons (ds_own (i := 2) (nz0 (by decide)) sc_atoms_of.nd rfl (Or.inl rfl) (dl_lst (da_cons (dpv 0) da_nil)))
  (dss_cons (ds_while 4000 PassesOwn.never (dt_truth (dk_ofE (dev 2)))
    (dss_cons (ds_pop (j := 2) (i := 3) (nz0 (by decide)) sc_atoms_of.nd rfl (Or.inl rfl) rfl (by first | exact Or.inl rfl | exact Or.inr (Or.inl rfl) | exact Or.inr (Or.inr rfl)) (hpe := (fun ho => pe_bm0 PySem.F.plainAttrs_list PySem.F.slot_list_pop PySem.F.type_list_pop mt_pop ho)))
    (dss_one (ds_if (dt_cmp (op_eqD hr.units) sc_eq (dk_of (dp_ix (dpv 3) (dk_of dp_int))) (dk_of (dp_gstr rfl T.c_IS)) (nomark _))
      (dss_one (ds_app (j := 1) rfl (by first | exact Or.inl rfl | exact Or.inr (Or.inl rfl) | exact Or.inr (Or.inr rfl)) (dpv 3) (hpe := (fun ho ha => pe_bm PySem.F.plainAttrs_list PySem.F.slot_list_append PySem.F.type_list_append mt_append ho ha)) (hpa := (da_cons (dpv 3) da_nil))))
      (dss_one (ds_ext (j := 2) rfl (by first | exact Or.inl rfl | exact Or.inr (Or.inl rfl) | exact Or.inr (Or.inr rfl)) (de_ofL (dl_rev (de_ofP (dp_call D_within hr rfl (da_cons (dpv 3) da_nil))))) (hpe := (fun ho ha => pe_bm PySem.F.plainAttrs_list PySem.F.slot_list_extend PySem.F.type_list_extend mt_extS ho ha))))))))
  (dss_one (ds_retO (i := 1) rfl (by first | exact Or.inl rfl | exact Or.inr (Or.inl rfl) | exact Or.inr (Or.inr rfl)))))))
theorem sc_forms_of : FnScope ["formula", "found", "_", "form"] ["formula"] (defScope s_forms_of) := ⟨rfl, rfl, rfl, by decide +kernel, rfl, by decide +kernel, by decide +kernel⟩
theorem ok_forms_of (F : L2.Fun K "forms_of" "forms_of" s_forms_of f fd) (T : Txt K mg) (D_is_plain_number : Dfn P w K mg base k "is_plain_number" (spP K F_is_plain_number)) (D_atoms_of : Dfn P w K mg base k "atoms_of" (spP K F_atoms_of)) : FnOk P w K mg base CX0 (k + 1) f fd ["formula"] (spL K (runL 1 4 (d_forms_of))) :=
  fn_L F sc_forms_of fun cdv A outer s B0 H0 H E hz hr =>
  (dss_cons (ds_own (i := 1) (nz0 (by decide)) sc_forms_of.nd rfl (Or.inl rfl) (dl_lst da_nil))
  (dss_cons (ds_for (sl := [2, 3]) PassesOwn.never rfl (di_data (dp_call D_atoms_of hr rfl (da_cons (dpv 0) da_nil))) (dg_tup (is := [2, 3, 2]) rfl (inz (by decide) (by decide))) (pg_tup rfl (pgs_cons (pg_name (i := 2) sc_forms_of.nd rfl (Or.inl rfl)) (pgs_cons (pg_name (i := 3) sc_forms_of.nd rfl (Or.inl rfl)) (pgs_cons (pg_name (i := 2) sc_forms_of.nd rfl (Or.inl rfl)) pgs_nil))))
    (dss_one (ds_if (PW.pt (dw_and (dt_not (dt_truth (dk_of (dp_call D_is_plain_number hr rfl (da_cons (dpv 3) da_nil))))) (dw_and1 (dt_cmp (op_notInA (un65 hr)) sc_in (dk_of (dpv 3)) (dk_ofE (dev 1)) (by with_unfolding_all rfl)))))
      (dss_one (ds_app (j := 1) rfl (by first | exact Or.inl rfl | exact Or.inr (Or.inl rfl) | exact Or.inr (Or.inr rfl)) (dpv 3) (hpe := (fun ho ha => pe_bm PySem.F.plainAttrs_list PySem.F.slot_list_append PySem.F.type_list_append mt_append ho ha)) (hpa := (da_cons (dpv 3) da_nil))))
      dss_nil)))
  (dss_one (ds_retO (i := 1) rfl (by first | exact Or.inl rfl | exact Or.inr (Or.inl rfl) | exact Or.inr (Or.inr rfl))))))
theorem sc_uses_x : FnScope ["form", "row"] ["form"] (defScope s_uses_x) := ⟨rfl, rfl, rfl, by decide +kernel, rfl, by decide +kernel, by decide +kernel⟩
theorem ok_uses_x (F : L2.Fun K "uses_x" "uses_x" s_uses_x f fd) (T : Txt K mg) : FnOk P w K mg base CX0 (k + 1) f fd ["form"] (spP K (runP 1 2 (d_uses_x))) :=
  fn_P F sc_uses_x fun cdv A outer s B0 H0 H E hz hr =>
  (dss_one (ds_ret (dp_any rfl rfl T.b_any (dak_cons (dk_of (dp_ofL (dl_lc (own := [("row", 1)]) rfl sc_uses_x.nd (di_data (dpv 0)) (blkOk_by (N := ["form", "row"]) (sc := defScope s_uses_x) (by decide +kernel)) (dg_name (by decide) (nz0 (by decide))) (nzs (by decide)) (fun _ _ _ _ _ => (pg_name (i := 1) sc_uses_x.nd rfl (Or.inl rfl))) (fun _ _ _ _ _ => dts_nil) (fun _ _ _ _ _ => (dp_cmp op_gt sc_int (dk_of (dp_len rfl T.b_len (dak_cons (dk_of (dpv 1)) dak_nil))) (dk_of dp_int) (nomark _)))))) dak_nil))))
theorem sc_uses_y : FnScope ["form"] ["form"] (defScope s_uses_y) := ⟨rfl, rfl, rfl, by decide +kernel, rfl, by decide +kernel, by decide +kernel⟩
theorem ok_uses_y (F : L2.Fun K "uses_y" "uses_y" s_uses_y f fd) (T : Txt K mg) : FnOk P w K mg base CX0 (k + 1) f fd ["form"] (spP K (runP 1 1 (d_uses_y))) :=
  fn_P F sc_uses_y fun cdv A outer s B0 H0 H E hz hr =>
  (dss_one (ds_ret (dp_cmp op_gt sc_int (dk_of (dp_len rfl T.b_len (dak_cons (dk_of (dpv 0)) dak_nil))) (dk_of dp_int) (nomark _))))
theorem sc_is_quantifier : FnScope ["value", "word"] ["value"] (defScope s_is_quantifier) := ⟨rfl, rfl, rfl, by decide +kernel, rfl, by decide +kernel, by decide +kernel⟩
theorem ok_is_quantifier (F : L2.Fun K "is_quantifier" "is_quantifier" s_is_quantifier f fd) (T : Txt K mg) : FnOk P w K mg base CX0 (k + 1) f fd ["value"] (spP K (runP 1 2 (d_is_quantifier))) :=
  fn_P F sc_is_quantifier fun cdv A outer s B0 H0 H E hz hr =>
  (dss_cons (ds_if (PW.pt (dw_or (dt_not (dt_truth (dk_of (dp_isi rfl T.b_isinstance rfl T.b_tuple (by decide +kernel) (dk_of (dpv 0)))))) (dw_or (dt_cmp (op_neD hr.units) sc_ne (dk_of (dp_len rfl T.b_len (dak_cons (dk_of (dpv 0)) dak_nil))) (dk_of dp_int) (nomark _)) (dw_or1 (dt_not (dt_truth (dk_of (dp_all rfl rfl T.b_all (dak_cons (dk_of (dp_ofL (dl_lc (own := [("word", 1)]) rfl sc_is_quantifier.nd (di_data (dpv 0)) (blkOk_by (N := ["value", "word"]) (sc := defScope s_is_quantifier) (by decide +kernel)) (dg_name (by decide) (nz0 (by decide))) (nzs (by decide)) (fun _ _ _ _ _ => (pg_name (i := 1) sc_is_quantifier.nd rfl (Or.inl rfl))) (fun _ _ _ _ _ => dts_nil) (fun _ _ _ _ _ => (dp_isi rfl T.b_isinstance rfl T.b_str (by decide +kernel) (dk_of (dpv 1))))))) dak_nil)))))))))
    (dss_one (ds_ret dp_bl))
    dss_nil)
  (dss_one (ds_ret (dp_and (dp_cmp (op_inA (un65 hr)) sc_in (dk_of (dp_ix (dpv 0) (dk_of dp_int))) (dk_of (dp_tup (da_cons (dp_gstr rfl T.c_SOME) (da_cons (dp_gstr rfl T.c_ALL) da_nil)))) (by with_unfolding_all rfl)) (dp_one (dp_cmp (op_inA (un65 hr)) sc_in (dk_of (dp_ix (dpv 0) (dk_of dp_int))) (dk_of (dp_tup (da_cons dp_str (da_cons dp_str da_nil)))) (by with_unfolding_all rfl)))))))
theorem sc_are_quantifiers : FnScope ["value", "_", "unknown", "own"] ["value"] (defScope s_are_quantifiers) := ⟨rfl, rfl, rfl, by decide +kernel, rfl, by decide +kernel, by decide +kernel⟩
theorem ok_are_quantifiers (F : L2.Fun K "are_quantifiers" "are_quantifiers" s_are_quantifiers f fd) (T : Txt K mg) (D_is_quantifier : Dfn P w K mg base k "is_quantifier" (spP K F_is_quantifier)) : FnOk P w K mg base CX0 (k + 1) f fd ["value"] (spP K (runP 1 4 (d_are_quantifiers))) :=
  fn_P F sc_are_quantifiers fun cdv A outer s B0 H0 H E hz hr =>
  (dss_cons (ds_if (PW.pt (dw_or (dt_not (dt_truth (dk_of (dp_isi rfl T.b_isinstance rfl T.b_list (by decide +kernel) (dk_of (dpv 0)))))) (dw_or1 (dt_not (dt_truth (dk_of (dp_all rfl rfl T.b_all (dak_cons (dk_of (dp_ofL (dl_lc (own := [("own", 3)]) rfl sc_are_quantifiers.nd (di_data (dpv 0)) (blkOk_by (N := ["value", "_", "unknown", "own"]) (sc := defScope s_are_quantifiers) (by decide +kernel)) (dg_name (by decide) (nz0 (by decide))) (nzs (by decide)) (fun _ _ _ _ _ => (pg_name (i := 3) sc_are_quantifiers.nd rfl (Or.inl rfl))) (fun _ _ _ _ _ => dts_nil) (fun _ _ _ _ _ => (dp_call D_is_quantifier hr rfl (da_cons (dpv 3) da_nil)))))) dak_nil))))))))
    (dss_one (ds_ret dp_bl))
    dss_nil)
  (dss_one (ds_ret (dp_cmp (op_inA (un65 hr)) sc_in (dk_of (dp_ofL (dl_lc (own := [("_", 1), ("unknown", 2)]) rfl sc_are_quantifiers.nd (di_data (dpv 0)) (blkOk_by (N := ["value", "_", "unknown", "own"]) (sc := defScope s_are_quantifiers) (by decide +kernel)) (dg_tup (is := [1, 2]) rfl (inz (by decide) (by decide))) (nzs (by decide)) (fun _ _ _ _ _ => (pg_tup rfl (pgs_cons (pg_name (i := 1) sc_are_quantifiers.nd rfl (Or.inl rfl)) (pgs_cons (pg_name (i := 2) sc_are_quantifiers.nd rfl (Or.inl rfl)) pgs_nil)))) (fun _ _ _ _ _ => dts_nil) (fun _ _ _ _ _ => (dpv 2))))) (dk_of (dp_tup (da_cons (dp_ofL (dl_lst (da_cons dp_str da_nil))) (da_cons (dp_ofL (dl_lst (da_cons dp_str da_nil))) (da_cons (dp_ofL (dl_lst (da_cons dp_str (da_cons dp_str da_nil)))) da_nil))))) (by with_unfolding_all rfl)))))
theorem sc_formula_fault : FnScope ["value", "level", "count", "deep", "deeper", "told", "parts"] ["value"] (defScope s_formula_fault) := ⟨rfl, rfl, rfl, by decide +kernel, rfl, by decide +kernel, by decide +kernel⟩
theorem ok_formula_fault (F : L2.Fun K "formula_fault" "formula_fault" s_formula_fault f fd) (T : Txt K mg) (D_within : Dfn P w K mg base k "within" (spP K F_within)) : FnOk P w K mg base CX0 (k + 1) f fd ["value"] (spP K (runP 1 7 (d_formula_fault))) :=
  fn_P F sc_formula_fault fun cdv A outer s B0 H0 H E hz hr =>
  (dss_cons (ds_set (i := 1) (nz0 (by decide)) sc_formula_fault.nd rfl (Or.inl rfl) (dp_ofL (dl_lst (da_cons (dpv 0) da_nil))))
  (dss_cons (ds_set (i := 2) (nz0 (by decide)) sc_formula_fault.nd rfl (Or.inl rfl) dp_int)
  (dss_cons (ds_set (i := 3) (nz0 (by decide)) sc_formula_fault.nd rfl (Or.inl rfl) dp_int)
  (dss_cons (ds_while 30 PassesOwn.never (dt_truth (dk_of (dpv 1)))
    (dss_cons (ds_own (i := 4) (nz0 (by decide)) sc_formula_fault.nd rfl (Or.inl rfl) (dl_lst da_nil))
    (dss_cons (ds_for (sl := [5]) PassesOwn.never rfl (di_data (dpv 1)) (dg_name (by decide) (nz0 (by decide))) (pg_name (i := 5) sc_formula_fault.nd rfl (Or.inl rfl))
      (dss_cons (ds_set (i := 6) (nz0 (by decide)) sc_formula_fault.nd rfl (Or.inl rfl) (dp_call D_within hr rfl (da_cons (dpv 5) da_nil)))
      (dss_cons (ds_if (dt_cmp op_isN sc_isN (dk_of (dpv 6)) (dk_of dp_non) (nomark _))
        (dss_one (ds_ret (dp_gstr rfl T.c_FORM)))
        dss_nil)
      (dss_one (ds_ext (j := 4) rfl (by first | exact Or.inl rfl | exact Or.inr (Or.inl rfl) | exact Or.inr (Or.inr rfl)) (de_ofP (dpv 6)) (hpe := (fun ho ha => pe_bm PySem.F.plainAttrs_list PySem.F.slot_list_extend PySem.F.type_list_extend mt_extS ho ha)))))))
    (dss_cons (ds_aug (i := 2) (nz0 (by decide)) sc_formula_fault.nd rfl (Or.inl rfl) (dk_of (dp_len rfl T.b_len (dak_cons (dk_of (dpv 1)) dak_nil))))
    (dss_cons (ds_aug (i := 3) (nz0 (by decide)) sc_formula_fault.nd rfl (Or.inl rfl) (dk_of dp_int))
    (dss_cons (ds_if (PW.pt (dw_or (dt_cmp op_gt sc_int (dk_of (dpv 2)) (dk_of (dp_gint rfl T.c_MOST_PARTS)) (nomark _)) (dw_or1 (dt_cmp op_gt sc_int (dk_of (dpv 3)) (dk_of (dp_gint rfl T.c_MOST_DEEP)) (nomark _)))))
      (dss_one (ds_ret (dp_gstr rfl T.c_LARGE)))
      dss_nil)
    (dss_one (ds_frz (j := 4) (i := 1) (nz0 (by decide)) sc_formula_fault.nd rfl (Or.inl rfl) rfl (by first | exact Or.inl rfl | exact Or.inr (Or.inl rfl) | exact Or.inr (Or.inr rfl))))))))))
  (dss_one (ds_ret dp_non))))))
theorem sc_has_free : FnScope ["quantifiers", "forms", "known", "_", "unknown", "form"] ["quantifiers", "forms"] (defScope s_has_free) := ⟨rfl, rfl, rfl, by decide +kernel, rfl, by decide +kernel, by decide +kernel⟩
theorem ok_has_free (F : L2.Fun K "has_free" "has_free" s_has_free f fd) (T : Txt K mg) (D_uses_x : Dfn P w K mg base k "uses_x" (spP K F_uses_x)) (D_uses_y : Dfn P w K mg base k "uses_y" (spP K F_uses_y)) : FnOk P w K mg base CX0 (k + 1) f fd ["quantifiers", "forms"] (spP K (runP 2 6 (d_has_free))) :=
  fn_P F sc_has_free fun cdv A outer s B0 H0 H E hz hr =>
  (dss_cons (ds_set (i := 2) (nz0 (by decide)) sc_has_free.nd rfl (Or.inr rfl) (dp_ofL (dl_lc (own := [("_", 3), ("unknown", 4)]) rfl sc_has_free.nd (di_data (dpv 0)) (blkOk_by (N := ["quantifiers", "forms", "known", "_", "unknown", "form"]) (sc := defScope s_has_free) (by decide +kernel)) (dg_tup (is := [3, 4]) rfl (inz (by decide) (by decide))) (nzs (by decide)) (fun _ _ _ _ _ => (pg_tup rfl (pgs_cons (pg_name (i := 3) sc_has_free.nd rfl (Or.inl rfl)) (pgs_cons (pg_name (i := 4) sc_has_free.nd rfl (Or.inl rfl)) pgs_nil)))) (fun _ _ _ _ _ => dts_nil) (fun _ _ _ _ _ => (dpv 4)))))
  (dss_one (ds_ret (dp_any rfl rfl T.b_any (dak_cons (dk_of (dp_ofL (dl_lc (own := [("form", 5)]) rfl sc_has_free.nd (di_data (dpv 1)) (blkOk_by (N := ["quantifiers", "forms", "known", "_", "unknown", "form"]) (sc := defScope s_has_free) (by decide +kernel)) (dg_name (by decide) (nz0 (by decide))) (nzs (by decide)) (fun _ _ _ _ _ => (pg_name (i := 5) sc_has_free.nd rfl (Or.inl rfl))) (fun _ _ _ _ _ => dts_nil) (fun _ _ _ _ _ => (dp_or (dp_and (dp_call D_uses_x hr rfl (da_cons (dpv 5) da_nil)) (dp_one (dp_cmp (op_notInA (un65 hr)) sc_in (dk_of dp_str) (dk_of (dpv 2)) (by with_unfolding_all rfl)))) (dp_one (dp_and (dp_call D_uses_y hr rfl (da_cons (dpv 5) da_nil)) (dp_one (dp_cmp (op_notInA (un65 hr)) sc_in (dk_of dp_str) (dk_of (dpv 2)) (by with_unfolding_all rfl)))))))))) dak_nil)))))
theorem sc_fault_of : FnScope ["value", "reason", "forms"] ["value"] (defScope s_fault_of) := ⟨rfl, rfl, rfl, by decide +kernel, rfl, by decide +kernel, by decide +kernel⟩
theorem ok_fault_of (F : L2.Fun K "fault_of" "fault_of" s_fault_of f fd) (T : Txt K mg) (D_are_quantifiers : Dfn P w K mg base k "are_quantifiers" (spP K F_are_quantifiers)) (D_formula_fault : Dfn P w K mg base k "formula_fault" (spP K F_formula_fault)) (D_forms_of : Dfn P w K mg base k "forms_of" (spL K F_forms_of)) (D_has_free : Dfn P w K mg base k "has_free" (spP K F_has_free)) : FnOk P w K mg base CX0 (k + 1) f fd ["value"] (spP K (runP 1 3 (d_fault_of))) :=
  fn_P F sc_fault_of fun cdv A outer s B0 H0 H E hz hr =>
  (dss_cons (ds_if (PW.pt (dw_or (dt_not (dt_truth (dk_of (dp_isi rfl T.b_isinstance rfl T.b_tuple (by decide +kernel) (dk_of (dpv 0)))))) (dw_or (dt_cmp (op_neD hr.units) sc_ne (dk_of (dp_len rfl T.b_len (dak_cons (dk_of (dpv 0)) dak_nil))) (dk_of dp_int) (nomark _)) (dw_or1 (dt_not (dt_truth (dk_of (dp_call D_are_quantifiers hr rfl (da_cons (dp_ix (dpv 0) (dk_of dp_int)) da_nil)))))))))
    (dss_one (ds_ret (dp_gstr rfl T.c_FORM)))
    dss_nil)
  (dss_cons (ds_set (i := 1) (nz0 (by decide)) sc_fault_of.nd rfl (Or.inl rfl) (dp_call D_formula_fault hr rfl (da_cons (dp_ix (dpv 0) (dk_of dp_int)) da_nil)))
  (dss_cons (ds_if (dt_cmp op_notN sc_notN (dk_of (dpv 1)) (dk_of dp_non) (nomark _))
    (dss_one (ds_ret (dpv 1)))
    dss_nil)
  (dss_cons (ds_set (i := 2) (nz0 (by decide)) sc_fault_of.nd rfl (Or.inl rfl) (dp_ofL (dl_call D_forms_of hr rfl (da_cons (dp_ix (dpv 0) (dk_of dp_int)) da_nil))))
  (dss_cons (ds_if (dt_truth (dk_of (dp_call D_has_free hr rfl (da_cons (dp_ix (dpv 0) (dk_of dp_int)) (da_cons (dpv 2) da_nil)))))
    (dss_one (ds_ret (dp_gstr rfl T.c_FREE)))
    dss_nil)
  (dss_one (ds_ret (dp_if (dt_cmp op_gt sc_int (dk_of (dp_len rfl T.b_len (dak_cons (dk_of (dpv 2)) dak_nil))) (dk_of (dp_gint rfl T.c_MOST_FORMS)) (nomark _)) (dp_gstr rfl T.c_LARGE) dp_non))))))))
theorem sc_is_sentence : FnScope ["value"] ["value"] (defScope s_is_sentence) := ⟨rfl, rfl, rfl, by decide +kernel, rfl, by decide +kernel, by decide +kernel⟩
theorem ok_is_sentence (F : L2.Fun K "is_sentence" "is_sentence" s_is_sentence f fd) (T : Txt K mg) (D_fault_of : Dfn P w K mg base k "fault_of" (spP K F_fault_of)) : FnOk P w K mg base CX0 (k + 1) f fd ["value"] (spP K (runP 1 1 (d_is_sentence))) :=
  fn_P F sc_is_sentence fun cdv A outer s B0 H0 H E hz hr =>
  (dss_one (ds_ret (dp_cmp op_isN sc_isN (dk_of (dp_call D_fault_of hr rfl (da_cons (dpv 0) da_nil))) (dk_of dp_non) (nomark _))))
theorem sc_forms_in : FnScope ["sentence"] ["sentence"] (defScope s_forms_in) := ⟨rfl, rfl, rfl, by decide +kernel, rfl, by decide +kernel, by decide +kernel⟩
theorem ok_forms_in (F : L2.Fun K "forms_in" "forms_in" s_forms_in f fd) (T : Txt K mg) (D_forms_of : Dfn P w K mg base k "forms_of" (spL K F_forms_of)) : FnOk P w K mg base CX0 (k + 1) f fd ["sentence"] (spL K (runL 1 1 (d_forms_in))) :=
  fn_L F sc_forms_in fun cdv A outer s B0 H0 H E hz hr =>
  (dss_one (ds_retL (dl_call D_forms_of hr rfl (da_cons (dp_ix (dpv 0) (dk_of dp_int)) da_nil))))
theorem sc__law_numbers : FnScope ["script", "at", "many", "cell", "numbers", "k", "mixed"] ["script", "at", "many"] (defScope s__law_numbers) := ⟨rfl, rfl, rfl, by decide +kernel, rfl, by decide +kernel, by decide +kernel⟩
theorem ok__law_numbers (F : L2.Fun K "_law_numbers" "_law_numbers" s__law_numbers f fd) (T : Txt K mg) : FnOk P w K mg base CX0 (k + 1) f fd ["script", "at", "many"] (spP K (runP 3 7 (d__law_numbers))) :=
  fn_P F sc__law_numbers fun cdv A outer s B0 H0 H E hz hr =>
  (dss_cons (ds_set (i := 3) (nz0 (by decide)) sc__law_numbers.nd rfl (Or.inl rfl) (dp_mul (dk_of dp_int) (dk_of (dp_add (dk_of (dpv 1)) (dk_of dp_int)))))
  (dss_cons (ds_if (dt_cmp op_lt sc_int (dk_of (dpv 1)) (dk_of (dp_len rfl T.b_len (dak_cons (dk_of (dpv 0)) dak_nil))) (nomark _))
    (dss_one (ds_set (i := 3) (nz0 (by decide)) sc__law_numbers.nd rfl (Or.inl rfl) (dp_intc rfl T.b_int (dak_cons (dk_of (dp_ix (dpv 0) (dk_of (dpv 1)))) dak_nil))))
    dss_nil)
  (dss_cons (ds_if (dt_cmp op_lt sc_int (dk_of (dpv 3)) (dk_of dp_int) (nomark _))
    (dss_one (ds_set (i := 3) (nz0 (by decide)) sc__law_numbers.nd rfl (Or.inl rfl) (dp_sub (dk_of dp_int) (dk_of (dp_mul (dk_of dp_int) (dk_of (dpv 3)))))))
    dss_nil)
  (dss_cons (ds_own (i := 4) (nz0 (by decide)) sc__law_numbers.nd rfl (Or.inl rfl) (dl_lst da_nil))
  (dss_cons (ds_for (sl := [5]) PassesOwn.never rfl (di_range1 rfl T.b_range (dak_cons (dk_of (dpv 2)) dak_nil)) (dg_name (by decide) (nz0 (by decide))) (pg_name (i := 5) sc__law_numbers.nd rfl (Or.inl rfl))
    (dss_one (ds_if (dt_cmp op_ge sc_int (dk_of (dpv 3)) (dk_of (dp_pow (dk_of dp_int) (dk_of dp_int))) (nomark _))
      (dss_cons (ds_app (j := 4) rfl (by first | exact Or.inl rfl | exact Or.inr (Or.inl rfl) | exact Or.inr (Or.inr rfl)) (dp_mod (dk_of (dpv 3)) (dk_of dp_int)) (hpe := (fun ho ha => pe_bm PySem.F.plainAttrs_list PySem.F.slot_list_append PySem.F.type_list_append mt_append ho ha)) (hpa := (da_cons (dp_mod (dk_of (dpv 3)) (dk_of dp_int)) da_nil)))
      (dss_one (ds_set (i := 3) (nz0 (by decide)) sc__law_numbers.nd rfl (Or.inl rfl) (dp_div (dk_of (dpv 3)) (dk_of dp_int)))))
      (dss_cons (ds_set (i := 6) (nz0 (by decide)) sc__law_numbers.nd rfl (Or.inl rfl) (dp_mod (dk_of (dp_add (dk_of (dp_add (dk_of (dp_mul (dk_of (dpv 3)) (dk_of dp_int))) (dk_of (dp_mul (dk_of (dp_add (dk_of (dpv 5)) (dk_of dp_int))) (dk_of dp_int))))) (dk_of (dp_mul (dk_of (dpv 1)) (dk_of dp_int))))) (dk_of dp_int)))
      (dss_cons (ds_set (i := 6) (nz0 (by decide)) sc__law_numbers.nd rfl (Or.inl rfl) (dp_mod (dk_of (dp_add (dk_of (dp_mul (dk_of (dpv 6)) (dk_of (dpv 6)))) (dk_of (dp_mul (dk_of dp_int) (dk_of (dp_add (dk_of (dpv 5)) (dk_of dp_int))))))) (dk_of dp_int)))
      (dss_one (ds_app (j := 4) rfl (by first | exact Or.inl rfl | exact Or.inr (Or.inl rfl) | exact Or.inr (Or.inr rfl)) (dp_mod (dk_of (dp_div (dk_of (dpv 6)) (dk_of dp_int))) (dk_of dp_int)) (hpe := (fun ho ha => pe_bm PySem.F.plainAttrs_list PySem.F.slot_list_append PySem.F.type_list_append mt_append ho ha)) (hpa := (da_cons (dp_mod (dk_of (dp_div (dk_of (dpv 6)) (dk_of dp_int))) (dk_of dp_int)) da_nil)))))))))
  (dss_one (ds_retO (i := 4) rfl (by first | exact Or.inl rfl | exact Or.inr (Or.inl rfl) | exact Or.inr (Or.inr rfl)))))))))
theorem sc__law_is_integer : FnScope ["value"] ["value"] (defScope s__law_is_integer) := ⟨rfl, rfl, rfl, by decide +kernel, rfl, by decide +kernel, by decide +kernel⟩
theorem ok__law_is_integer (F : L2.Fun K "_law_is_integer" "_law_is_integer" s__law_is_integer f fd) (T : Txt K mg) : FnOk P w K mg base CX0 (k + 1) f fd ["value"] (spP K (runP 1 1 (d__law_is_integer))) :=
  fn_P F sc__law_is_integer fun cdv A outer s B0 H0 H E hz hr =>
  (dss_one (ds_ret (dp_and (dp_isi rfl T.b_isinstance rfl T.b_int (by decide +kernel) (dk_of (dpv 0))) (dp_one (dp_not (dk_of (dp_isi rfl T.b_isinstance rfl T.b_bool (by decide +kernel) (dk_of (dpv 0)))))))))
theorem sc__law_copied : FnScope ["value", "one"] ["value"] (defScope s__law_copied) := ⟨rfl, rfl, rfl, by decide +kernel, rfl, by decide +kernel, by decide +kernel⟩
theorem ok__law_copied (F : L2.Fun K "_law_copied" "_law_copied" s__law_copied f fd) (T : Txt K mg) {Fs : List PyData → Option PyData} (Ds : Dfn P w K mg base k "_law_copied" (spP K Fs)) : FnOk P w K mg base CX0 (k + 1) f fd ["value"] (spP K (runP 1 2 (d__law_copied Fs))) :=
  fn_P F sc__law_copied fun cdv A outer s B0 H0 H E hz hr =>
  (dss_cons (ds_if (dt_truth (dk_of (dp_isi rfl T.b_isinstance rfl T.b_list (by decide +kernel) (dk_of (dpv 0)))))
    (dss_one (ds_retL (dl_lc (own := [("one", 1)]) rfl sc__law_copied.nd (di_data (dpv 0)) (blkOk_by (N := ["value", "one"]) (sc := defScope s__law_copied) (by decide +kernel)) (dg_name (by decide) (nz0 (by decide))) (nzs (by decide)) (fun _ _ _ _ _ => (pg_name (i := 1) sc__law_copied.nd rfl (Or.inl rfl))) (fun _ _ _ _ _ => dts_nil) (fun _ _ _ _ _ => (dp_call Ds hr rfl (da_cons (dpv 1) da_nil))))))
    dss_nil)
  (dss_cons (ds_if (dt_truth (dk_of (dp_isi rfl T.b_isinstance rfl T.b_tuple (by decide +kernel) (dk_of (dpv 0)))))
    (dss_one (ds_ret (dp_tuple rfl T.b_tuple (de_ofL (dl_lc (own := [("one", 1)]) rfl sc__law_copied.nd (di_data (dpv 0)) (blkOk_by (N := ["value", "one"]) (sc := defScope s__law_copied) (by decide +kernel)) (dg_name (by decide) (nz0 (by decide))) (nzs (by decide)) (fun _ _ _ _ _ => (pg_name (i := 1) sc__law_copied.nd rfl (Or.inl rfl))) (fun _ _ _ _ _ => dts_nil) (fun _ _ _ _ _ => (dp_call Ds hr rfl (da_cons (dpv 1) da_nil))))))))
    dss_nil)
  (dss_one (ds_ret (dpv 0)))))
theorem sc__law_pop : FnScope ["pool"] ["pool"] (defScope s__law_pop) := ⟨rfl, rfl, rfl, by decide +kernel, rfl, by decide +kernel, by decide +kernel⟩
theorem ok__law_pop (F : L2.Fun K "_law_pop" "_law_pop" s__law_pop f fd) (T : Txt K mg) : FnOk P w K mg base CX0 (k + 1) f fd ["pool"] (spO K (runO 1 1 (d__law_pop))) :=
  fn_O F sc__law_pop fun cdv A outer s B0 H0 H E hz hr =>
  (dss_cons (ds_if (dt_cmp (op_eqD hr.units) sc_eq (dk_ofE (dev 0)) (dk_of (dp_ofL (dl_lst da_nil))) (nomark _))
    (dss_one (ds_ret dp_int))
    dss_nil)
  (dss_one (ds_retX (dx_pop (j := 0) rfl (by first | exact Or.inl rfl | exact Or.inr (Or.inl rfl) | exact Or.inr (Or.inr rfl)) (hpe := (fun ho => pe_bm0 PySem.F.plainAttrs_list PySem.F.slot_list_pop PySem.F.type_list_pop mt_pop ho))))))
theorem sc__law_expand : FnScope ["roots", "row", "root", "longer", "k"] ["roots"] (defScope s__law_expand) := ⟨rfl, rfl, rfl, by decide +kernel, rfl, by decide +kernel, by decide +kernel⟩
theorem ok__law_expand (F : L2.Fun K "_law_expand" "_law_expand" s__law_expand f fd) (T : Txt K mg) : FnOk P w K mg base CX0 (k + 1) f fd ["roots"] (spP K (runP 1 5 (d__law_expand))) :=
  fn_P F sc__law_expand fun cdv A outer s B0 H0 H E hz hr =>
  (dss_cons (ds_set (i := 1) (nz0 (by decide)) sc__law_expand.nd rfl (Or.inl rfl) (dp_ofL (dl_lst (da_cons dp_int da_nil))))
  (dss_cons (ds_for (sl := [2]) PassesOwn.never rfl (di_data (dpv 0)) (dg_name (by decide) (nz0 (by decide))) (pg_name (i := 2) sc__law_expand.nd rfl (Or.inl rfl))
    (dss_cons (ds_own (i := 3) (nz0 (by decide)) sc__law_expand.nd rfl (Or.inl rfl) (dl_cat' (de_ofL (dl_lst (da_cons dp_int da_nil))) (de_ofP (dpv 1))))
    (dss_cons (ds_for (sl := [4]) PassesOwn.never rfl (di_range1 rfl T.b_range (dak_cons (dk_of (dp_len rfl T.b_len (dak_cons (dk_of (dpv 1)) dak_nil))) dak_nil)) (dg_name (by decide) (nz0 (by decide))) (pg_name (i := 4) sc__law_expand.nd rfl (Or.inl rfl))
      (dss_one (ds_setI (j := 3) rfl (by first | exact Or.inl rfl | exact Or.inr (Or.inl rfl) | exact Or.inr (Or.inr rfl)) (dk_of (dpv 4)) (dp_sub (dk_of (dp_ixE (dev 3) (dk_of (dpv 4)))) (dk_of (dp_mul (dk_of (dpv 2)) (dk_of (dp_ix (dpv 1) (dk_of (dpv 4))))))) (hpg := (pg_sub (pv 3) (dk_of (dpv 4)) set_list)))))
    (dss_one (ds_frz (j := 3) (i := 1) (nz0 (by decide)) sc__law_expand.nd rfl (Or.inl rfl) rfl (by first | exact Or.inl rfl | exact Or.inr (Or.inl rfl) | exact Or.inr (Or.inr rfl)))))))
  (dss_one (ds_ret (dpv 1)))))
theorem sc__law_grid_form : FnScope ["xs", "ys", "factor", "rows", "c", "d"] ["xs", "ys", "factor"] (defScope s__law_grid_form) := ⟨rfl, rfl, rfl, by decide +kernel, rfl, by decide +kernel, by decide +kernel⟩
theorem ok__law_grid_form (F : L2.Fun K "_law_grid_form" "_law_grid_form" s__law_grid_form f fd) (T : Txt K mg) (D__law_expand : Dfn P w K mg base k "_law_expand" (spP K F__law_expand)) : FnOk P w K mg base CX0 (k + 1) f fd ["xs", "ys", "factor"] (spP K (runP 3 6 (d__law_grid_form))) :=
  fn_P F sc__law_grid_form fun cdv A outer s B0 H0 H E hz hr =>
  (dss_cons (ds_own (i := 3) (nz0 (by decide)) sc__law_grid_form.nd rfl (Or.inl rfl) (dl_lst da_nil))
  (dss_cons (ds_for (sl := [4]) PassesOwn.never rfl (di_data (dp_call D__law_expand hr rfl (da_cons (dpv 1) da_nil))) (dg_name (by decide) (nz0 (by decide))) (pg_name (i := 4) sc__law_grid_form.nd rfl (Or.inr rfl))
    (dss_one (ds_app (j := 3) rfl (by first | exact Or.inl rfl | exact Or.inr (Or.inl rfl) | exact Or.inr (Or.inr rfl)) (dp_rep01 (dp_tuple rfl T.b_tuple (de_ofL (dl_lc (own := [("d", 5)]) rfl sc__law_grid_form.nd (di_data (dp_call D__law_expand hr rfl (da_cons (dpv 0) da_nil))) (blkOk_by (N := ["xs", "ys", "factor", "rows", "c", "d"]) (sc := defScope s__law_grid_form) (by decide +kernel)) (dg_name (by decide) (nz0 (by decide))) (nzs (by decide)) (fun _ _ _ _ _ => (pg_name (i := 5) sc__law_grid_form.nd rfl (Or.inl rfl))) (fun _ _ _ _ _ => dts_nil) (fun _ _ _ _ _ => (dp_mul (dk_of (dp_mul (dk_of (dpv 2)) (dk_of (dpv 4)))) (dk_of (dpv 5))))))) (dk_of (dp_intc rfl T.b_int (dak_cons (dk_of (dp_cmp (op_neD hr.units) sc_ne (dk_of (dpv 4)) (dk_of dp_int) (nomark _))) dak_nil)))) (hpe := (fun ho ha => pe_bm PySem.F.plainAttrs_list PySem.F.slot_list_append PySem.F.type_list_append mt_append ho ha)) (hpa := (da_cons (dp_rep01 (dp_tuple rfl T.b_tuple (de_ofL (dl_lc (own := [("d", 5)]) rfl sc__law_grid_form.nd (di_data (dp_call D__law_expand hr rfl (da_cons (dpv 0) da_nil))) (blkOk_by (N := ["xs", "ys", "factor", "rows", "c", "d"]) (sc := defScope s__law_grid_form) (by decide +kernel)) (dg_name (by decide) (nz0 (by decide))) (nzs (by decide)) (fun _ _ _ _ _ => (pg_name (i := 5) sc__law_grid_form.nd rfl (Or.inl rfl))) (fun _ _ _ _ _ => dts_nil) (fun _ _ _ _ _ => (dp_mul (dk_of (dp_mul (dk_of (dpv 2)) (dk_of (dpv 4)))) (dk_of (dpv 5))))))) (dk_of (dp_intc rfl T.b_int (dak_cons (dk_of (dp_cmp (op_neD hr.units) sc_ne (dk_of (dpv 4)) (dk_of dp_int) (nomark _))) dak_nil)))) da_nil)))))
  (dss_one (ds_ret (dp_tuple rfl T.b_tuple (dev 3))))))
theorem sc__law_formula : FnScope ["pool", "forms", "deep", "number", "k"] ["pool", "forms", "deep"] (defScope s__law_formula) := ⟨rfl, rfl, rfl, by decide +kernel, rfl, by decide +kernel, by decide +kernel⟩
theorem ok__law_formula (F : L2.Fun K "_law_formula" "_law_formula" s__law_formula f fd) (T : Txt K mg) {Fs : List PyData → List PyData → Option (PyData × List PyData)} (Ds : Dfn P w K mg base k "_law_formula" (spO K Fs)) (D__law_pop : Dfn P w K mg base k "_law_pop" (spO K F__law_pop)) : FnOk P w K mg base CX0 (k + 1) f fd ["pool", "forms", "deep"] (spO K (runO 3 5 (d__law_formula Fs))) :=
  fn_O F sc__law_formula fun cdv A outer s B0 H0 H E hz hr =>
  (dss_cons (ds_setX (i := 3) (nz0 (by decide)) sc__law_formula.nd rfl (Or.inl rfl) (dx_call (j := 0) D__law_pop hr rfl rfl (by first | exact Or.inl rfl | exact Or.inr (Or.inl rfl) | exact Or.inr (Or.inr rfl)) da_nil))
  (dss_cons (ds_if (PW.pt (dw_or (dt_cmp (op_eqD hr.units) sc_eq (dk_of (dpv 2)) (dk_of dp_int) (nomark _)) (dw_or (dt_cmp (op_eqD hr.units) sc_eq (dk_ofE (dev 0)) (dk_of (dp_ofL (dl_lst da_nil))) (nomark _)) (dw_or1 (dt_cmp op_lt sc_int (dk_of (dp_mod (dk_of (dpv 3)) (dk_of dp_int))) (dk_of dp_int) (nomark _))))))
    (dss_one (ds_ret (dp_tup (da_cons dp_str (da_cons (dp_ix (dpv 1) (dk_of (dp_mod (dk_of (dp_div (dk_of (dpv 3)) (dk_of dp_int))) (dk_of (dp_len rfl T.b_len (dak_cons (dk_of (dpv 1)) dak_nil)))))) (da_cons (dp_ix (dp_ofL (dl_lst (da_cons dp_str (da_cons dp_str (da_cons dp_str (da_cons dp_str (da_cons dp_str (da_cons dp_str da_nil)))))))) (dk_of (dp_mod (dk_of (dp_div (dk_of (dp_div (dk_of (dpv 3)) (dk_of dp_int))) (dk_of (dp_len rfl T.b_len (dak_cons (dk_of (dpv 1)) dak_nil))))) (dk_of dp_int)))) da_nil))))))
    dss_nil)
  (dss_cons (ds_if (dt_cmp (op_eqD hr.units) sc_eq (dk_of (dp_mod (dk_of (dpv 3)) (dk_of dp_int))) (dk_of dp_int) (nomark _))
    (dss_one (ds_retX (dx_tup (dxa_cons (dx_of dp_str) (dxa_cons (dx_call (j := 0) Ds hr rfl rfl (by first | exact Or.inl rfl | exact Or.inr (Or.inl rfl) | exact Or.inr (Or.inr rfl)) (da_cons (dpv 1) (da_cons (dp_sub (dk_of (dpv 2)) (dk_of dp_int)) da_nil))) dxa_nil)))))
    dss_nil)
  (dss_one (ds_retX (dx_tup (dxa_cons (dx_of (dp_ix (dp_ofL (dl_lst (da_cons dp_str (da_cons dp_str da_nil)))) (dk_of (dp_mod (dk_of (dpv 3)) (dk_of dp_int))))) (dxa_cons (dx_lc (y := "k") (i := 4) (nz0 (by decide)) rfl sc__law_formula.nd (di_range1 rfl T.b_range (dak_cons (dk_of (dp_add (dk_of dp_int) (dk_of (dp_mod (dk_of (dp_div (dk_of (dpv 3)) (dk_of dp_int))) (dk_of dp_int))))) dak_nil)) (blkOk_by (N := ["pool", "forms", "deep", "number", "k"]) (sc := defScope s__law_formula) (by decide +kernel)) (fun _ _ _ _ _ => (pg_name (i := 4) sc__law_formula.nd rfl (Or.inl rfl))) (fun _ _ _ _ _ => (dx_call (j := 0) Ds hr rfl rfl (by first | exact Or.inl rfl | exact Or.inr (Or.inl rfl) | exact Or.inr (Or.inr rfl)) (da_cons (dpv 1) (da_cons (dp_sub (dk_of (dpv 2)) (dk_of dp_int)) da_nil))))) dxa_nil))))))))
theorem sc__law_grid : FnScope ["script", "at", "xmost", "ymost", "numbers", "xs", "ys", "k"] ["script", "at", "xmost", "ymost"] (defScope s__law_grid) := ⟨rfl, rfl, rfl, by decide +kernel, rfl, by decide +kernel, by decide +kernel⟩
theorem ok__law_grid (F : L2.Fun K "_law_grid" "_law_grid" s__law_grid f fd) (T : Txt K mg) (D__law_numbers : Dfn P w K mg base k "_law_numbers" (spP K F__law_numbers)) : FnOk P w K mg base CX0 (k + 1) f fd ["script", "at", "xmost", "ymost"] (spP K (runP 4 8 (d__law_grid))) :=
  fn_P F sc__law_grid fun cdv A outer s B0 H0 H E hz hr =>
  (dss_cons (ds_set (i := 4) (nz0 (by decide)) sc__law_grid.nd rfl (Or.inr rfl) (dp_call D__law_numbers hr rfl (da_cons (dpv 0) (da_cons (dpv 1) (da_cons dp_int da_nil)))))
  (dss_cons (ds_setLc (own := [("k", 7)]) (i := 5) (nz0 (by decide)) rfl sc__law_grid.nd rfl rfl rfl (di_range1 rfl T.b_range (dak_cons (dk_of (dp_mod (dk_of (dp_ix (dpv 4) (dk_of dp_int))) (dk_of (dp_add (dk_of (dpv 2)) (dk_of dp_int))))) dak_nil)) (blkOk_by (N := ["script", "at", "xmost", "ymost", "numbers", "xs", "ys", "k"]) (sc := defScope s__law_grid) (by decide +kernel)) (dg_name (by decide) (nz0 (by decide))) (nzs (by decide)) (fun _ _ _ _ _ => (pg_name (i := 7) sc__law_grid.nd rfl (Or.inl rfl))) (fun _ _ _ _ _ => dts_nil) (fun _ _ _ _ _ => (dp_sub (dk_of (dp_mod (dk_of (dp_ix (dpv 4) (dk_of (dpv 7)))) (dk_of dp_int))) (dk_of dp_int))))
  (dss_cons (ds_setLc (own := [("k", 7)]) (i := 6) (nz0 (by decide)) rfl sc__law_grid.nd rfl rfl rfl (di_range1 rfl T.b_range (dak_cons (dk_of (dp_mod (dk_of (dp_ix (dpv 4) (dk_of dp_int))) (dk_of (dp_add (dk_of (dpv 3)) (dk_of dp_int))))) dak_nil)) (blkOk_by (N := ["script", "at", "xmost", "ymost", "numbers", "xs", "ys", "k"]) (sc := defScope s__law_grid) (by decide +kernel)) (dg_name (by decide) (nz0 (by decide))) (nzs (by decide)) (fun _ _ _ _ _ => (pg_name (i := 7) sc__law_grid.nd rfl (Or.inl rfl))) (fun _ _ _ _ _ => dts_nil) (fun _ _ _ _ _ => (dp_sub (dk_of (dp_mod (dk_of (dp_ix (dpv 4) (dk_of (dp_add (dk_of dp_int) (dk_of (dpv 7)))))) (dk_of dp_int))) (dk_of dp_int))))
  (dss_cons (ds_if (PW.pt (dw_and (dt_cmp (op_eqD hr.units) sc_eq (dk_of (dpv 5)) (dk_of (dp_ofL (dl_lst da_nil))) (nomark _)) (dw_and1 (dt_cmp (op_eqD hr.units) sc_eq (dk_of (dpv 6)) (dk_of (dp_ofL (dl_lst da_nil))) (nomark _)))))
    (dss_one (ds_if (dt_cmp op_gt sc_int (dk_of (dpv 2)) (dk_of dp_int) (nomark _))
      (dss_one (ds_set (i := 5) (nz0 (by decide)) sc__law_grid.nd rfl (Or.inl rfl) (dp_ofL (dl_lst (da_cons (dp_sub (dk_of (dp_mod (dk_of (dp_ix (dpv 4) (dk_of dp_int))) (dk_of dp_int))) (dk_of dp_int)) da_nil)))))
      (dss_one (ds_set (i := 6) (nz0 (by decide)) sc__law_grid.nd rfl (Or.inl rfl) (dp_ofL (dl_lst (da_cons (dp_sub (dk_of (dp_mod (dk_of (dp_ix (dpv 4) (dk_of dp_int))) (dk_of dp_int))) (dk_of dp_int)) da_nil)))))))
    dss_nil)
  (dss_one (ds_ret (dp_tup (da_cons (dpv 5) (da_cons (dpv 6) (da_cons (dp_ix (dp_ofL (dl_lst (da_cons dp_int (da_cons (dp_neg (dk_of dp_int)) (da_cons dp_int (da_cons (dp_neg (dk_of dp_int)) da_nil)))))) (dk_of (dp_mod (dk_of (dp_ix (dpv 4) (dk_of dp_int))) (dk_of dp_int)))) da_nil))))))))))
theorem sc__law_is_form : FnScope ["value", "row", "c"] ["value"] (defScope s__law_is_form) := ⟨rfl, rfl, rfl, by decide +kernel, rfl, by decide +kernel, by decide +kernel⟩
theorem ok__law_is_form (F : L2.Fun K "_law_is_form" "_law_is_form" s__law_is_form f fd) (T : Txt K mg) (D__law_is_integer : Dfn P w K mg base k "_law_is_integer" (spP K F__law_is_integer)) : FnOk P w K mg base CX0 (k + 1) f fd ["value"] (spP K (runP 1 3 (d__law_is_form))) :=
  fn_P F sc__law_is_form fun cdv A outer s B0 H0 H E hz hr =>
  (dss_cons (ds_if (PW.pt (dw_or (dt_not (dt_truth (dk_of (dp_isi rfl T.b_isinstance rfl T.b_tuple (by decide +kernel) (dk_of (dpv 0)))))) (dw_or (dt_cmp op_gt sc_int (dk_of (dp_len rfl T.b_len (dak_cons (dk_of (dpv 0)) dak_nil))) (dk_of dp_int) (nomark _)) (dw_or1 (PW.pt (dw_and (dt_cmp (op_neD hr.units) sc_ne (dk_of (dpv 0)) (dk_of (dp_tup da_nil)) (nomark _)) (dw_and1 (dt_cmp (op_eqD hr.units) sc_eq (dk_of (dp_ix (dpv 0) (dk_of (dp_neg (dk_of dp_int))))) (dk_of (dp_tup da_nil)) (nomark _)))))))))
    (dss_one (ds_ret dp_bl))
    dss_nil)
  (dss_cons (ds_for (sl := [1]) PassesOwn.never rfl (di_data (dpv 0)) (dg_name (by decide) (nz0 (by decide))) (pg_name (i := 1) sc__law_is_form.nd rfl (Or.inl rfl))
    (dss_one (ds_if (PW.pt (dw_or (dt_not (dt_truth (dk_of (dp_isi rfl T.b_isinstance rfl T.b_tuple (by decide +kernel) (dk_of (dpv 1)))))) (dw_or (dt_cmp op_gt sc_int (dk_of (dp_len rfl T.b_len (dak_cons (dk_of (dpv 1)) dak_nil))) (dk_of dp_int) (nomark _)) (dw_or (dt_cmp (op_neD hr.units) sc_ne (dk_of (dp_ofL (dl_lc (own := [("c", 2)]) rfl sc__law_is_form.nd (di_data (dpv 1)) (blkOk_by (N := ["value", "row", "c"]) (sc := defScope s__law_is_form) (by decide +kernel)) (dg_name (by decide) (nz0 (by decide))) (nzs (by decide)) (fun _ _ _ _ _ => (pg_name (i := 2) sc__law_is_form.nd rfl (Or.inl rfl))) (fun _ _ _ _ _ => (dts_one (PW.pt (dw_or (dt_not (dt_truth (dk_of (dp_call D__law_is_integer hr rfl (da_cons (dpv 2) da_nil))))) (dw_or1 (dt_cmp op_gt sc_int (dk_of (dp_abs rfl T.b_abs (dak_cons (dk_of (dpv 2)) dak_nil))) (dk_of dp_int) (nomark _))))))) (fun _ _ _ _ _ => (dpv 2))))) (dk_of (dp_ofL (dl_lst da_nil))) (nomark _)) (dw_or1 (PW.pt (dw_and (dt_cmp (op_neD hr.units) sc_ne (dk_of (dpv 1)) (dk_of (dp_tup da_nil)) (nomark _)) (dw_and1 (dt_cmp (op_eqD hr.units) sc_eq (dk_of (dp_ix (dpv 1) (dk_of (dp_neg (dk_of dp_int))))) (dk_of dp_int) (nomark _))))))))))
      (dss_one (ds_ret dp_bl))
      dss_nil)))
  (dss_one (ds_ret dp_bl))))
theorem sc__law_within : FnScope ["value"] ["value"] (defScope s__law_within) := ⟨rfl, rfl, rfl, by decide +kernel, rfl, by decide +kernel, by decide +kernel⟩
theorem ok__law_within (F : L2.Fun K "_law_within" "_law_within" s__law_within f fd) (T : Txt K mg) (D__law_is_form : Dfn P w K mg base k "_law_is_form" (spP K F__law_is_form)) : FnOk P w K mg base CX0 (k + 1) f fd ["value"] (spP K (runP 1 1 (d__law_within))) :=
  fn_P F sc__law_within fun cdv A outer s B0 H0 H E hz hr =>
  (dss_cons (ds_if (PW.pt (dw_or (dt_not (dt_truth (dk_of (dp_isi rfl T.b_isinstance rfl T.b_tuple (by decide +kernel) (dk_of (dpv 0)))))) (dw_or (dt_not (dt_chain op_le op_le sc_int sc_int (dk_of dp_int) (dk_of (dp_len rfl T.b_len (dak_cons (dk_of (dpv 0)) dak_nil))) (dk_of dp_int))) (dw_or1 (dt_not (dt_truth (dk_of (dp_isi rfl T.b_isinstance rfl T.b_str (by decide +kernel) (dk_of (dp_ix (dpv 0) (dk_of dp_int)))))))))))
    (dss_one (ds_ret dp_non))
    dss_nil)
  (dss_cons (ds_if (PW.pt (dw_and (dt_cmp (op_eqD hr.units) sc_eq (dk_of (dp_ix (dpv 0) (dk_of dp_int))) (dk_of dp_str) (nomark _)) (dw_and (dt_cmp (op_eqD hr.units) sc_eq (dk_of (dp_len rfl T.b_len (dak_cons (dk_of (dpv 0)) dak_nil))) (dk_of dp_int) (nomark _)) (dw_and (dt_truth (dk_of (dp_call D__law_is_form hr rfl (da_cons (dp_ix (dpv 0) (dk_of dp_int)) da_nil)))) (dw_and1 (dt_truth (dk_of (dp_isi rfl T.b_isinstance rfl T.b_str (by decide +kernel) (dk_of (dp_ix (dpv 0) (dk_of dp_int)))))))))))
    (dss_one (ds_ret (dp_ix (dp_ofL (dl_lst (da_cons (dp_ofL (dl_lst da_nil)) (da_cons dp_non da_nil)))) (dk_of (dp_intc rfl T.b_int (dak_cons (dk_of (dp_cmp (op_notInA (un65 hr)) sc_in (dk_of (dp_ix (dpv 0) (dk_of dp_int))) (dk_of (dp_ofL (dl_lst (da_cons dp_str (da_cons dp_str (da_cons dp_str (da_cons dp_str (da_cons dp_str (da_cons dp_str da_nil))))))))) (by with_unfolding_all rfl))) dak_nil))))))
    dss_nil)
  (dss_cons (ds_if (PW.pt (dw_and (dt_cmp (op_eqD hr.units) sc_eq (dk_of (dp_ix (dpv 0) (dk_of dp_int))) (dk_of dp_str) (nomark _)) (dw_and1 (dt_cmp (op_eqD hr.units) sc_eq (dk_of (dp_len rfl T.b_len (dak_cons (dk_of (dpv 0)) dak_nil))) (dk_of dp_int) (nomark _)))))
    (dss_one (ds_retL (dl_lst (da_cons (dp_ix (dpv 0) (dk_of dp_int)) da_nil))))
    dss_nil)
  (dss_cons (ds_if (PW.pt (dw_and (dt_cmp (op_inA (un65 hr)) sc_in (dk_of (dp_ix (dpv 0) (dk_of dp_int))) (dk_of (dp_tup (da_cons dp_str (da_cons dp_str da_nil)))) (by with_unfolding_all rfl)) (dw_and (dt_cmp (op_eqD hr.units) sc_eq (dk_of (dp_len rfl T.b_len (dak_cons (dk_of (dpv 0)) dak_nil))) (dk_of dp_int) (nomark _)) (dw_and (dt_truth (dk_of (dp_isi rfl T.b_isinstance rfl T.b_list (by decide +kernel) (dk_of (dp_ix (dpv 0) (dk_of dp_int)))))) (dw_and1 (dt_cmp op_gt sc_int (dk_of (dp_len rfl T.b_len (dak_cons (dk_of (dp_ix (dpv 0) (dk_of dp_int))) dak_nil))) (dk_of dp_int) (nomark _)))))))
    (dss_one (ds_ret (dp_ix (dpv 0) (dk_of dp_int))))
    dss_nil)
  (dss_one (ds_ret dp_non))))))
theorem sc__law_listed : FnScope ["formula", "found", "one"] ["formula"] (defScope s__law_listed) := ⟨rfl, rfl, rfl, by decide +kernel, rfl, by decide +kernel, by decide +kernel⟩
theorem ok__law_listed (F : L2.Fun K "_law_listed" "_law_listed" s__law_listed f fd) (T : Txt K mg) {Fs : List PyData → Option PyData} (Ds : Dfn P w K mg base k "_law_listed" (spP K Fs)) (D__law_within : Dfn P w K mg base k "_law_within" (spP K F__law_within)) : FnOk P w K mg base CX0 (k + 1) f fd ["formula"] (spP K (runP 1 3 (d__law_listed Fs))) :=
  fn_P F sc__law_listed fun cdv A outer s B0 H0 H E hz hr =>
  (dss_cons (ds_if (dt_cmp (op_eqD hr.units) sc_eq (dk_of (dp_ix (dpv 0) (dk_of dp_int))) (dk_of dp_str) (nomark _))
    (dss_one (ds_retL (dl_lst (da_cons (dp_ix (dpv 0) (dk_of dp_int)) da_nil))))
    dss_nil)
  (dss_cons (ds_set (i := 1) (nz0 (by decide)) sc__law_listed.nd rfl (Or.inl rfl) (dp_ofL (dl_lst da_nil)))
  (dss_cons (ds_for (sl := [2]) PassesOwn.never rfl (di_data (dp_call D__law_within hr rfl (da_cons (dpv 0) da_nil))) (dg_name (by decide) (nz0 (by decide))) (pg_name (i := 2) sc__law_listed.nd rfl (Or.inl rfl))
    (dss_one (ds_set (i := 1) (nz0 (by decide)) sc__law_listed.nd rfl (Or.inl rfl) (dp_ofL (dl_cat' (de_ofP (dpv 1)) (de_ofP (dp_call Ds hr rfl (da_cons (dpv 2) da_nil))))))))
  (dss_one (ds_ret (dpv 1))))))
theorem sc__law_forms : FnScope ["formula", "found", "form"] ["formula"] (defScope s__law_forms) := ⟨rfl, rfl, rfl, by decide +kernel, rfl, by decide +kernel, by decide +kernel⟩
theorem ok__law_forms (F : L2.Fun K "_law_forms" "_law_forms" s__law_forms f fd) (T : Txt K mg) (D__law_listed : Dfn P w K mg base k "_law_listed" (spP K (F__law_listed 40))) : FnOk P w K mg base CX0 (k + 1) f fd ["formula"] (spP K (runP 1 3 (d__law_forms))) :=
  fn_P F sc__law_forms fun cdv A outer s B0 H0 H E hz hr =>
  (dss_cons (ds_own (i := 1) (nz0 (by decide)) sc__law_forms.nd rfl (Or.inl rfl) (dl_lst da_nil))
  (dss_cons (ds_for (sl := [2]) PassesOwn.never rfl (di_data (dp_call D__law_listed hr rfl (da_cons (dpv 0) da_nil))) (dg_name (by decide) (nz0 (by decide))) (pg_name (i := 2) sc__law_forms.nd rfl (Or.inl rfl))
    (dss_one (ds_if (PW.pt (dw_and (dt_cmp (op_notInA (un65 hr)) sc_in (dk_of (dpv 2)) (dk_ofE (dev 1)) (by with_unfolding_all rfl)) (dw_and1 (PW.pt (dw_or (dt_cmp op_gt sc_int (dk_of (dp_len rfl T.b_len (dak_cons (dk_of (dpv 2)) dak_nil))) (dk_of dp_int) (nomark _)) (dw_or1 (PW.pt (dw_and (dt_cmp (op_neD hr.units) sc_ne (dk_of (dpv 2)) (dk_of (dp_tup da_nil)) (nomark _)) (dw_and1 (dt_cmp op_gt sc_int (dk_of (dp_len rfl T.b_len (dak_cons (dk_of (dp_ix (dpv 2) (dk_of dp_int))) dak_nil))) (dk_of dp_int) (nomark _)))))))))))
      (dss_one (ds_app (j := 1) rfl (by first | exact Or.inl rfl | exact Or.inr (Or.inl rfl) | exact Or.inr (Or.inr rfl)) (dpv 2) (hpe := (fun ho ha => pe_bm PySem.F.plainAttrs_list PySem.F.slot_list_append PySem.F.type_list_append mt_append ho ha)) (hpa := (da_cons (dpv 2) da_nil))))
      dss_nil)))
  (dss_one (ds_retO (i := 1) rfl (by first | exact Or.inl rfl | exact Or.inr (Or.inl rfl) | exact Or.inr (Or.inr rfl))))))
theorem sc__law_due : FnScope ["value", "whole", "first", "level", "count", "deep", "longer", "one", "parts", "forms", "known", "form", "pair", "row"] ["value"] (defScope s__law_due) := ⟨rfl, rfl, rfl, by decide +kernel, rfl, by decide +kernel, by decide +kernel⟩
theorem ok__law_due (F : L2.Fun K "_law_due" "_law_due" s__law_due f fd) (T : Txt K mg) (D__law_within : Dfn P w K mg base k "_law_within" (spP K F__law_within)) (D__law_forms : Dfn P w K mg base k "_law_forms" (spP K F__law_forms)) : FnOk P w K mg base CX0 (k + 1) f fd ["value"] (spP K (runP 1 14 (d__law_due))) :=
  fn_P F sc__law_due fun cdv A outer s B0 H0 H E hz hr =>
  (dss_cons (ds_if (PW.pt (dw_or (dt_not (dt_truth (dk_of (dp_isi rfl T.b_isinstance rfl T.b_tuple (by decide +kernel) (dk_of (dpv 0)))))) (dw_or (dt_cmp (op_neD hr.units) sc_ne (dk_of (dp_len rfl T.b_len (dak_cons (dk_of (dpv 0)) dak_nil))) (dk_of dp_int) (nomark _)) (dw_or1 (dt_not (dt_truth (dk_of (dp_isi rfl T.b_isinstance rfl T.b_list (by decide +kernel) (dk_of (dp_ix (dpv 0) (dk_of dp_int)))))))))))
    (dss_one (ds_ret dp_str))
    dss_nil)
  (dss_cons (ds_set (i := 1) (nz0 (by decide)) sc__law_due.nd rfl (Or.inl rfl) (dp_ofL (dl_lst da_nil)))
  (dss_cons (ds_for (sl := [2]) PassesOwn.never rfl (di_data (dp_ofL (dl_lst (da_cons dp_str (da_cons dp_str da_nil))))) (dg_name (by decide) (nz0 (by decide))) (pg_name (i := 2) sc__law_due.nd rfl (Or.inl rfl))
    (dss_one (ds_set (i := 1) (nz0 (by decide)) sc__law_due.nd rfl (Or.inl rfl) (dp_ofL (dl_cat' (de_ofP (dpv 1)) (de_ofL (dl_lst (da_cons (dp_ofL (dl_lst (da_cons (dp_tup (da_cons (dpv 2) (da_cons dp_str da_nil))) da_nil))) (da_cons (dp_ofL (dl_lst (da_cons (dp_tup (da_cons (dpv 2) (da_cons dp_str da_nil))) da_nil))) (da_cons (dp_ofL (dl_lst (da_cons (dp_tup (da_cons (dpv 2) (da_cons dp_str da_nil))) (da_cons (dp_tup (da_cons dp_str (da_cons dp_str da_nil))) da_nil)))) (da_cons (dp_ofL (dl_lst (da_cons (dp_tup (da_cons (dpv 2) (da_cons dp_str da_nil))) (da_cons (dp_tup (da_cons dp_str (da_cons dp_str da_nil))) da_nil)))) da_nil)))))))))))
  (dss_cons (ds_if (dt_cmp (op_notInA (un65 hr)) sc_in (dk_of (dp_ix (dpv 0) (dk_of dp_int))) (dk_of (dpv 1)) (by with_unfolding_all rfl))
    (dss_one (ds_ret dp_str))
    dss_nil)
  (dss_cons (ds_set (i := 3) (nz0 (by decide)) sc__law_due.nd rfl (Or.inl rfl) (dp_ofL (dl_lst (da_cons (dp_ix (dpv 0) (dk_of dp_int)) da_nil))))
  (dss_cons (ds_set (i := 4) (nz0 (by decide)) sc__law_due.nd rfl (Or.inl rfl) dp_int)
  (dss_cons (ds_for (sl := [5]) PassesOwn.never rfl (di_range1 rfl T.b_range (dak_cons (dk_of dp_int) dak_nil)) (dg_name (by decide) (nz0 (by decide))) (pg_name (i := 5) sc__law_due.nd rfl (Or.inl rfl))
    (dss_cons (ds_set (i := 6) (nz0 (by decide)) sc__law_due.nd rfl (Or.inl rfl) (dp_ofL (dl_lst da_nil)))
    (dss_cons (ds_for (sl := [7]) PassesOwn.never rfl (di_data (dpv 3)) (dg_name (by decide) (nz0 (by decide))) (pg_name (i := 7) sc__law_due.nd rfl (Or.inl rfl))
      (dss_cons (ds_set (i := 8) (nz0 (by decide)) sc__law_due.nd rfl (Or.inl rfl) (dp_call D__law_within hr rfl (da_cons (dpv 7) da_nil)))
      (dss_cons (ds_if (dt_cmp op_isN sc_isN (dk_of (dpv 8)) (dk_of dp_non) (nomark _))
        (dss_one (ds_ret dp_str))
        dss_nil)
      (dss_one (ds_set (i := 6) (nz0 (by decide)) sc__law_due.nd rfl (Or.inl rfl) (dp_ofL (dl_cat' (de_ofP (dpv 6)) (de_ofP (dpv 8)))))))))
    (dss_cons (ds_set (i := 4) (nz0 (by decide)) sc__law_due.nd rfl (Or.inl rfl) (dp_add (dk_of (dpv 4)) (dk_of (dp_len rfl T.b_len (dak_cons (dk_of (dpv 3)) dak_nil)))))
    (dss_cons (ds_if (PW.pt (dw_and (dt_cmp (op_neD hr.units) sc_ne (dk_of (dpv 3)) (dk_of (dp_ofL (dl_lst da_nil))) (nomark _)) (dw_and1 (PW.pt (dw_or (dt_cmp op_gt sc_int (dk_of (dpv 4)) (dk_of dp_int) (nomark _)) (dw_or1 (dt_cmp (op_eqD hr.units) sc_eq (dk_of (dpv 5)) (dk_of dp_int) (nomark _))))))))
      (dss_one (ds_ret dp_str))
      dss_nil)
    (dss_one (ds_set (i := 3) (nz0 (by decide)) sc__law_due.nd rfl (Or.inl rfl) (dpv 6))))))))
  (dss_cons (ds_set (i := 9) (nz0 (by decide)) sc__law_due.nd rfl (Or.inl rfl) (dp_call D__law_forms hr rfl (da_cons (dp_ix (dpv 0) (dk_of dp_int)) da_nil)))
  (dss_cons (ds_setLc (own := [("pair", 12)]) (i := 10) (nz0 (by decide)) rfl sc__law_due.nd rfl rfl rfl (di_data (dp_ix (dpv 0) (dk_of dp_int))) (blkOk_by (N := ["value", "whole", "first", "level", "count", "deep", "longer", "one", "parts", "forms", "known", "form", "pair", "row"]) (sc := defScope s__law_due) (by decide +kernel)) (dg_name (by decide) (nz0 (by decide))) (nzs (by decide)) (fun _ _ _ _ _ => (pg_name (i := 12) sc__law_due.nd rfl (Or.inl rfl))) (fun _ _ _ _ _ => dts_nil) (fun _ _ _ _ _ => (dp_ix (dpv 12) (dk_of dp_int))))
  (dss_cons (ds_for (sl := [11]) PassesOwn.never rfl (di_data (dpv 9)) (dg_name (by decide) (nz0 (by decide))) (pg_name (i := 11) sc__law_due.nd rfl (Or.inl rfl))
    (dss_one (ds_if (PW.pt (dw_or (PW.pt (dw_and (dt_cmp op_gt sc_int (dk_of (dp_len rfl T.b_len (dak_cons (dk_of (dpv 11)) dak_nil))) (dk_of dp_int) (nomark _)) (dw_and1 (dt_cmp (op_notInA (un65 hr)) sc_in (dk_of dp_str) (dk_of (dpv 10)) (by with_unfolding_all rfl))))) (dw_or1 (PW.pt (dw_and (dt_cmp (op_neD hr.units) sc_ne (dk_of (dp_ofL (dl_lc (own := [("row", 13)]) rfl sc__law_due.nd (di_data (dpv 11)) (blkOk_by (N := ["value", "whole", "first", "level", "count", "deep", "longer", "one", "parts", "forms", "known", "form", "pair", "row"]) (sc := defScope s__law_due) (by decide +kernel)) (dg_name (by decide) (nz0 (by decide))) (nzs (by decide)) (fun _ _ _ _ _ => (pg_name (i := 13) sc__law_due.nd rfl (Or.inl rfl))) (fun _ _ _ _ _ => (dts_one (dt_cmp op_gt sc_int (dk_of (dp_len rfl T.b_len (dak_cons (dk_of (dpv 13)) dak_nil))) (dk_of dp_int) (nomark _)))) (fun _ _ _ _ _ => (dpv 13))))) (dk_of (dp_ofL (dl_lst da_nil))) (nomark _)) (dw_and1 (dt_cmp (op_notInA (un65 hr)) sc_in (dk_of dp_str) (dk_of (dpv 10)) (by with_unfolding_all rfl))))))))
      (dss_one (ds_ret dp_str))
      dss_nil)))
  (dss_one (ds_ret (dp_ix (dp_ofL (dl_lst (da_cons dp_str (da_cons dp_str da_nil)))) (dk_of (dp_intc rfl T.b_int (dak_cons (dk_of (dp_cmp op_gt sc_int (dk_of (dp_len rfl T.b_len (dak_cons (dk_of (dpv 9)) dak_nil))) (dk_of dp_int) (nomark _))) dak_nil))))))))))))))))
theorem sc__law_bent : FnScope ["formula", "numbers", "found", "parts", "k", "one"] ["formula", "numbers"] (defScope s__law_bent) := ⟨rfl, rfl, rfl, by decide +kernel, rfl, by decide +kernel, by decide +kernel⟩
theorem ok__law_bent (F : L2.Fun K "_law_bent" "_law_bent" s__law_bent f fd) (T : Txt K mg) {Fs : List PyData → Option PyData} (Ds : Dfn P w K mg base k "_law_bent" (spP K Fs)) (D__law_within : Dfn P w K mg base k "_law_within" (spP K F__law_within)) : FnOk P w K mg base CX0 (k + 1) f fd ["formula", "numbers"] (spP K (runP 2 6 (d__law_bent Fs))) :=
  fn_P F sc__law_bent fun cdv A outer s B0 H0 H E hz hr =>
  (dss_cons (ds_own (i := 2) (nz0 (by decide)) sc__law_bent.nd rfl (Or.inl rfl) (dl_lst (da_cons dp_non (da_cons dp_str (da_cons (dp_tup da_nil) (da_cons (dp_ofL (dl_lst (da_cons (dpv 0) da_nil))) (da_cons (dp_ofL (dl_list rfl T.b_list (dpv 0))) (da_cons (dp_catT (dpv 0) (dp_tup (da_cons dp_int da_nil))) (da_cons (dp_slT (dpv 0) do_none (do_some (dk_of (dp_neg (dk_of dp_int))))) (da_cons (dp_catT (dp_tup (da_cons dp_str da_nil)) (dp_slT (dpv 0) (do_some (dk_of dp_int)) do_none)) (da_cons (dp_catT (dp_tup (da_cons dp_non da_nil)) (dp_slT (dpv 0) (do_some (dk_of dp_int)) do_none)) (da_cons (dp_tup (da_cons dp_str (da_cons (dpv 0) da_nil))) (da_cons (dp_tup (da_cons dp_str (da_cons (dp_ofL (dl_lst (da_cons (dpv 0) da_nil))) da_nil))) (da_cons (dp_tup (da_cons dp_str (da_cons (dp_tup (da_cons (dpv 0) (da_cons (dpv 0) da_nil))) da_nil))) da_nil))))))))))))))
  (dss_cons (ds_own (i := 2) (nz0 (by decide)) sc__law_bent.nd rfl (Or.inl rfl) (dl_cat' (dev 2) (de_ofL (dl_lst (da_cons (dp_tup (da_cons dp_str (da_cons (dp_tup (da_cons (dp_tup (da_cons dp_int (da_cons dp_int da_nil))) da_nil)) (da_cons dp_str da_nil)))) (da_cons (dp_tup (da_cons dp_str (da_cons (dp_tup (da_cons (dp_tup (da_cons dp_int (da_cons dp_int da_nil))) da_nil)) (da_cons dp_non da_nil)))) (da_cons (dp_tup (da_cons dp_str (da_cons (dp_tup (da_cons (dp_tup (da_cons dp_int (da_cons dp_int da_nil))) da_nil)) (da_cons dp_str da_nil)))) (da_cons (dp_tup (da_cons dp_str (da_cons (dp_tup (da_cons (dp_tup (da_cons (dp_tup (da_cons dp_int (da_cons dp_int da_nil))) da_nil)) da_nil)) (da_cons dp_str da_nil)))) (da_cons (dp_tup (da_cons dp_str (da_cons (dp_ofL (dl_lst (da_cons (dp_tup (da_cons dp_int (da_cons dp_int da_nil))) da_nil))) (da_cons dp_str da_nil)))) (da_cons (dp_tup (da_cons dp_str (da_cons (dp_tup (da_cons (dp_tup (da_cons dp_int (da_cons dp_int (da_cons dp_int (da_cons dp_int da_nil))))) da_nil)) (da_cons dp_str da_nil)))) da_nil))))))))))
  (dss_cons (ds_own (i := 2) (nz0 (by decide)) sc__law_bent.nd rfl (Or.inl rfl) (dl_cat' (dev 2) (de_ofL (dl_lst (da_cons (dp_tup (da_cons dp_str (da_cons (dp_tup (da_cons (dp_tup (da_cons dp_int da_nil)) da_nil)) (da_cons dp_str da_nil)))) da_nil)))))
  (dss_cons (ds_own (i := 2) (nz0 (by decide)) sc__law_bent.nd rfl (Or.inl rfl) (dl_cat' (dev 2) (de_ofL (dl_lst (da_cons (dp_tup (da_cons dp_str (da_cons (dp_tup (da_cons (dp_tup da_nil) (da_cons (dp_tup da_nil) (da_cons (dp_tup (da_cons dp_int da_nil)) da_nil)))) (da_cons dp_str da_nil)))) (da_cons (dp_tup (da_cons dp_str (da_cons (dp_tup (da_cons (dp_tup (da_cons dp_int da_nil)) da_nil)) (da_cons dp_str da_nil)))) (da_cons (dp_tup (da_cons dp_str (da_cons (dp_tup da_nil) (da_cons dp_str da_nil)))) (da_cons (dp_tup (da_cons dp_str (da_cons (dp_ofL (dl_lst (da_cons (dpv 0) (da_cons dp_non da_nil)))) da_nil))) (da_cons (dp_tup (da_cons dp_str (da_cons (dp_ofL (dl_lst (da_cons (dpv 0) (da_cons (dpv 0) (da_cons (dp_tup (da_cons dp_str (da_cons (dp_tup (da_cons (dp_tup (da_cons dp_int (da_cons dp_int da_nil))) da_nil)) (da_cons dp_str da_nil)))) da_nil))))) da_nil))) da_nil)))))))))
  (dss_cons (ds_if (dt_cmp (op_neD hr.units) sc_ne (dk_of (dp_ix (dpv 0) (dk_of dp_int))) (dk_of dp_str) (nomark _))
    (dss_cons (ds_set (i := 3) (nz0 (by decide)) sc__law_bent.nd rfl (Or.inl rfl) (dp_call D__law_within hr rfl (da_cons (dpv 0) da_nil)))
    (dss_cons (ds_set (i := 4) (nz0 (by decide)) sc__law_bent.nd rfl (Or.inl rfl) (dp_mod (dk_of (dp_ix (dpv 1) (dk_of dp_int))) (dk_of (dp_len rfl T.b_len (dak_cons (dk_of (dpv 3)) dak_nil)))))
    (dss_one (ds_for (sl := [5]) PassesOwn.never rfl (di_data (dp_ofL (dl_slS (de_ofP (dp_call Ds hr rfl (da_cons (dp_ix (dpv 3) (dk_of (dpv 4))) (da_cons (dp_ofL (dl_sl (de_ofP (dpv 1)) (do_some (dk_of dp_int)) do_none)) da_nil)))) (do_some (dk_of (dp_mod (dk_of (dp_ix (dpv 1) (dk_of dp_int))) (dk_of dp_int)))) do_none (do_some (dk_of dp_int))))) (dg_name (by decide) (nz0 (by decide))) (pg_name (i := 5) sc__law_bent.nd rfl (Or.inl rfl))
      (dss_one (ds_app (j := 2) rfl (by first | exact Or.inl rfl | exact Or.inr (Or.inl rfl) | exact Or.inr (Or.inr rfl)) (dp_ix (dp_ofL (dl_lst (da_cons (dp_tup (da_cons (dp_ix (dpv 0) (dk_of dp_int)) (da_cons (dp_ofL (dl_cat' (de_ofL (dl_cat' (de_ofL (dl_sl (de_ofP (dpv 3)) do_none (do_some (dk_of (dpv 4))))) (de_ofL (dl_lst (da_cons (dpv 5) da_nil))))) (de_ofL (dl_sl (de_ofP (dpv 3)) (do_some (dk_of (dp_add (dk_of (dpv 4)) (dk_of dp_int)))) do_none)))) da_nil))) (da_cons (dp_tup (da_cons dp_str (da_cons (dpv 5) da_nil))) da_nil)))) (dk_of (dp_intc rfl T.b_int (dak_cons (dk_of (dp_cmp (op_eqD hr.units) sc_eq (dk_of (dp_ix (dpv 0) (dk_of dp_int))) (dk_of dp_str) (nomark _))) dak_nil)))) (hpe := (fun ho ha => pe_bm PySem.F.plainAttrs_list PySem.F.slot_list_append PySem.F.type_list_append mt_append ho ha)) (hpa := (da_cons (dp_ix (dp_ofL (dl_lst (da_cons (dp_tup (da_cons (dp_ix (dpv 0) (dk_of dp_int)) (da_cons (dp_ofL (dl_cat' (de_ofL (dl_cat' (de_ofL (dl_sl (de_ofP (dpv 3)) do_none (do_some (dk_of (dpv 4))))) (de_ofL (dl_lst (da_cons (dpv 5) da_nil))))) (de_ofL (dl_sl (de_ofP (dpv 3)) (do_some (dk_of (dp_add (dk_of (dpv 4)) (dk_of dp_int)))) do_none)))) da_nil))) (da_cons (dp_tup (da_cons dp_str (da_cons (dpv 5) da_nil))) da_nil)))) (dk_of (dp_intc rfl T.b_int (dak_cons (dk_of (dp_cmp (op_eqD hr.units) sc_eq (dk_of (dp_ix (dpv 0) (dk_of dp_int))) (dk_of dp_str) (nomark _))) dak_nil)))) da_nil))))))))
    dss_nil)
  (dss_one (ds_retO (i := 2) rfl (by first | exact Or.inl rfl | exact Or.inr (Or.inl rfl) | exact Or.inr (Or.inr rfl)))))))))
theorem sc_law : FnScope ["script", "numbers", "owns", "forms", "formula", "both", "values", "odd", "one", "atom", "count", "deep", "turn", "value", "due", "told", "listed", "own"] ["script"] (defScope s_law) := ⟨rfl, rfl, rfl, by decide +kernel, rfl, by decide +kernel, by decide +kernel⟩
theorem ok_law (F : L2.Fun K "law" "law" s_law f fd) (T : Txt K mg) (D__law_numbers : Dfn P w K mg base k "_law_numbers" (spP K F__law_numbers)) (D__law_grid : Dfn P w K mg base k "_law_grid" (spP K F__law_grid)) (D__law_grid_form : Dfn P w K mg base k "_law_grid_form" (spP K F__law_grid_form)) (D__law_formula : Dfn P w K mg base k "_law_formula" (spO K (F__law_formula 10))) (D__law_bent : Dfn P w K mg base k "_law_bent" (spP K (F__law_bent 20))) (D__law_due : Dfn P w K mg base k "_law_due" (spP K F__law_due)) (D_is_sentence : Dfn P w K mg base k "is_sentence" (spP K F_is_sentence)) (D__law_copied : Dfn P w K mg base k "_law_copied" (spP K (F__law_copied 80))) (D__law_refusal : Dfn P w K mg base k "_law_refusal" (spP K F__law_refusal)) (D_forms_in : Dfn P w K mg base k "forms_in" (spL K F_forms_in)) (D__law_forms : Dfn P w K mg base k "_law_forms" (spP K F__law_forms)) : FnOk P w K mg base CX0 (k + 1) f fd ["script"] (spP K (runP 1 18 (d_law))) :=
  fn_P F sc_law fun cdv A outer s B0 H0 H E hz hr =>
  (dss_cons (ds_set (i := 1) (nz0 (by decide)) sc_law.nd rfl (Or.inl rfl) (dp_call D__law_numbers hr rfl (da_cons (dpv 0) (da_cons dp_int (da_cons dp_int da_nil)))))
  (dss_cons (ds_set (i := 2) (nz0 (by decide)) sc_law.nd rfl (Or.inl rfl) (dp_ofL (dl_lst (da_cons (dp_call D__law_grid hr rfl (da_cons (dpv 0) (da_cons dp_int (da_cons dp_int (da_cons dp_int da_nil))))) (da_cons (dp_call D__law_grid hr rfl (da_cons (dpv 0) (da_cons dp_int (da_cons dp_int (da_cons dp_int da_nil))))) da_nil)))))
  (dss_cons (ds_set (i := 3) (nz0 (by decide)) sc_law.nd rfl (Or.inl rfl) (dp_ofL (dl_sl (de_ofL (dl_lc (own := [("own", 17)]) rfl sc_law.nd (di_data (dpv 2)) (blkOk_by (N := ["script", "numbers", "owns", "forms", "formula", "both", "values", "odd", "one", "atom", "count", "deep", "turn", "value", "due", "told", "listed", "own"]) (sc := defScope s_law) (by decide +kernel)) (dg_name (by decide) (nz0 (by decide))) (nzs (by decide)) (fun _ _ _ _ _ => (pg_name (i := 17) sc_law.nd rfl (Or.inl rfl))) (fun _ _ _ _ _ => dts_nil) (fun _ _ _ _ _ => (dp_call D__law_grid_form hr rfl (da_cons (dp_ix (dpv 17) (dk_of dp_int)) (da_cons (dp_ix (dpv 17) (dk_of dp_int)) (da_cons (dp_ix (dpv 17) (dk_of dp_int)) da_nil))))))) do_none (do_some (dk_of (dp_add (dk_of dp_int) (dk_of (dp_mod (dk_of (dp_ix (dpv 1) (dk_of dp_int))) (dk_of dp_int)))))))))
  (dss_cons (ds_set (i := 4) (nz0 (by decide)) sc_law.nd rfl (Or.inl rfl) (dp_callT D__law_formula hr rfl (dl_rev (de_ofP (dp_call D__law_numbers hr rfl (da_cons (dpv 0) (da_cons dp_int (da_cons dp_int da_nil)))))) (da_cons (dpv 3) (da_cons dp_int da_nil))))
  (dss_cons (ds_set (i := 5) (nz0 (by decide)) sc_law.nd rfl (Or.inl rfl) (dp_ofL (dl_lst (da_cons (dp_tup (da_cons (dp_ix (dp_ofL (dl_lst (da_cons dp_str (da_cons dp_str da_nil)))) (dk_of (dp_mod (dk_of (dp_ix (dpv 1) (dk_of dp_int))) (dk_of dp_int)))) (da_cons dp_str da_nil))) (da_cons (dp_tup (da_cons (dp_ix (dp_ofL (dl_lst (da_cons dp_str (da_cons dp_str da_nil)))) (dk_of (dp_mod (dk_of (dp_ix (dpv 1) (dk_of dp_int))) (dk_of dp_int)))) (da_cons dp_str da_nil))) da_nil)))))
  (dss_cons (ds_own (i := 6) (nz0 (by decide)) sc_law.nd rfl (Or.inl rfl) (dl_lst (da_cons (dp_tup (da_cons (dpv 5) (da_cons (dpv 4) da_nil))) (da_cons (dp_tup (da_cons (dp_ofL (dl_sl (de_ofP (dpv 5)) do_none (do_some (dk_of dp_int)))) (da_cons (dpv 4) da_nil))) (da_cons (dp_tup (da_cons (dp_ofL (dl_sl (de_ofP (dpv 5)) (do_some (dk_of dp_int)) do_none)) (da_cons (dpv 4) da_nil))) (da_cons (dp_tup (da_cons (dp_ofL (dl_rev (de_ofP (dpv 5)))) (da_cons (dpv 4) da_nil))) (da_cons (dp_tup (da_cons (dp_ofL (dl_cat' (de_ofP (dpv 5)) (de_ofL (dl_sl (de_ofP (dpv 5)) (do_some (dk_of dp_int)) do_none)))) (da_cons (dpv 4) da_nil))) (da_cons (dp_tup (da_cons (dp_ofL (dl_lst da_nil)) (da_cons (dpv 4) da_nil))) (da_cons (dp_tup (da_cons (dp_tuple rfl T.b_tuple (de_ofP (dpv 5))) (da_cons (dpv 4) da_nil))) da_nil)))))))))
  (dss_cons (ds_own (i := 6) (nz0 (by decide)) sc_law.nd rfl (Or.inl rfl) (dl_cat' (dev 6) (de_ofL (dl_lst (da_cons (dp_ofL (dl_lst (da_cons (dpv 5) (da_cons (dpv 4) da_nil)))) (da_cons (dp_tup (da_cons (dpv 5) (da_cons (dpv 4) (da_cons dp_int da_nil)))) (da_cons (dp_tup (da_cons (dpv 5) da_nil)) (da_cons dp_non (da_cons dp_str da_nil)))))))))
  (dss_cons (ds_for (sl := [7]) PassesOwn.never rfl (di_data (dp_ofL (dl_lst (da_cons dp_non (da_cons (dp_tup (da_cons dp_str (da_cons dp_str da_nil))) (da_cons (dp_tup (da_cons dp_str (da_cons dp_str da_nil))) (da_cons (dp_ofL (dl_lst (da_cons dp_str (da_cons dp_str da_nil)))) (da_cons (dp_tup (da_cons dp_str (da_cons dp_str (da_cons dp_int da_nil)))) (da_cons (dp_tup (da_cons dp_str (da_cons dp_non da_nil))) (da_cons (dp_tup (da_cons dp_non (da_cons dp_str da_nil))) da_nil)))))))))) (dg_name (by decide) (nz0 (by decide))) (pg_name (i := 7) sc_law.nd rfl (Or.inl rfl))
    (dss_one (ds_app (j := 6) rfl (by first | exact Or.inl rfl | exact Or.inr (Or.inl rfl) | exact Or.inr (Or.inr rfl)) (dp_tup (da_cons (dp_ofL (dl_cat' (de_ofL (dl_lst (da_cons (dpv 7) da_nil))) (de_ofL (dl_sl (de_ofP (dpv 5)) (do_some (dk_of dp_int)) do_none)))) (da_cons (dpv 4) da_nil))) (hpe := (fun ho ha => pe_bm PySem.F.plainAttrs_list PySem.F.slot_list_append PySem.F.type_list_append mt_append ho ha)) (hpa := (da_cons (dp_tup (da_cons (dp_ofL (dl_cat' (de_ofL (dl_lst (da_cons (dpv 7) da_nil))) (de_ofL (dl_sl (de_ofP (dpv 5)) (do_some (dk_of dp_int)) do_none)))) (da_cons (dpv 4) da_nil))) da_nil)))))
  (dss_cons (ds_for (sl := [8]) PassesOwn.never rfl (di_data (dp_call D__law_bent hr rfl (da_cons (dpv 4) (da_cons (dpv 1) da_nil)))) (dg_name (by decide) (nz0 (by decide))) (pg_name (i := 8) sc_law.nd rfl (Or.inl rfl))
    (dss_one (ds_app (j := 6) rfl (by first | exact Or.inl rfl | exact Or.inr (Or.inl rfl) | exact Or.inr (Or.inr rfl)) (dp_tup (da_cons (dpv 5) (da_cons (dpv 8) da_nil))) (hpe := (fun ho ha => pe_bm PySem.F.plainAttrs_list PySem.F.slot_list_append PySem.F.type_list_append mt_append ho ha)) (hpa := (da_cons (dp_tup (da_cons (dpv 5) (da_cons (dpv 8) da_nil))) da_nil)))))
  (dss_cons (ds_set (i := 9) (nz0 (by decide)) sc_law.nd rfl (Or.inl rfl) (dp_tup (da_cons dp_str (da_cons (dp_ix (dpv 3) (dk_of dp_int)) (da_cons dp_str da_nil)))))
  (dss_cons (ds_for (sl := [10]) PassesOwn.never rfl (di_data (dp_ofL (dl_lst (da_cons dp_int (da_cons dp_int (da_cons dp_int da_nil)))))) (dg_name (by decide) (nz0 (by decide))) (pg_name (i := 10) sc_law.nd rfl (Or.inl rfl))
    (dss_cons (ds_set (i := 11) (nz0 (by decide)) sc_law.nd rfl (Or.inl rfl) (dpv 9))
    (dss_cons (ds_for (sl := [12]) PassesOwn.never rfl (di_range1 rfl T.b_range (dak_cons (dk_of (dpv 10)) dak_nil)) (dg_name (by decide) (nz0 (by decide))) (pg_name (i := 12) sc_law.nd rfl (Or.inl rfl))
      (dss_one (ds_set (i := 11) (nz0 (by decide)) sc_law.nd rfl (Or.inl rfl) (dp_ix (dp_ofL (dl_lst (da_cons (dp_tup (da_cons dp_str (da_cons (dpv 11) da_nil))) (da_cons (dp_tup (da_cons dp_str (da_cons (dp_ofL (dl_lst (da_cons (dpv 11) (da_cons (dpv 9) da_nil)))) da_nil))) (da_cons (dp_tup (da_cons dp_str (da_cons (dp_ofL (dl_lst (da_cons (dpv 9) (da_cons (dpv 11) da_nil)))) da_nil))) da_nil))))) (dk_of (dp_mod (dk_of (dp_ix (dpv 1) (dk_of (dp_add (dk_of dp_int) (dk_of (dp_mod (dk_of (dpv 12)) (dk_of dp_int))))))) (dk_of dp_int)))))))
    (dss_one (ds_app (j := 6) rfl (by first | exact Or.inl rfl | exact Or.inr (Or.inl rfl) | exact Or.inr (Or.inr rfl)) (dp_tup (da_cons (dpv 5) (da_cons (dpv 11) da_nil))) (hpe := (fun ho ha => pe_bm PySem.F.plainAttrs_list PySem.F.slot_list_append PySem.F.type_list_append mt_append ho ha)) (hpa := (da_cons (dp_tup (da_cons (dpv 5) (da_cons (dpv 11) da_nil))) da_nil)))))))
  (dss_cons (ds_own (i := 6) (nz0 (by decide)) sc_law.nd rfl (Or.inl rfl) (dl_cat' (dev 6) (de_ofL (dl_lst (da_cons (dp_tup (da_cons (dpv 5) (da_cons (dp_tup (da_cons dp_str (da_cons (dp_ofL (dl_rep (dl_lst (da_cons (dpv 9) da_nil)) (dk_of dp_int))) da_nil))) da_nil))) (da_cons (dp_tup (da_cons (dpv 5) (da_cons (dp_tup (da_cons dp_str (da_cons (dp_ofL (dl_rep (dl_lst (da_cons (dpv 9) da_nil)) (dk_of dp_int))) da_nil))) da_nil))) (da_cons (dp_tup (da_cons (dpv 5) (da_cons (dp_tup (da_cons dp_str (da_cons (dp_ofL (dl_cat' (de_ofL (dl_rep (dl_lst (da_cons (dpv 9) da_nil)) (dk_of dp_int))) (de_ofL (dl_lst (da_cons dp_non da_nil))))) da_nil))) da_nil))) (da_cons (dp_tup (da_cons (dpv 5) (da_cons (dp_tup (da_cons dp_str (da_cons (dp_ofL (dl_cat' (de_ofL (dl_rep (dl_lst (da_cons (dpv 9) da_nil)) (dk_of dp_int))) (de_ofL (dl_rep (dl_lst (da_cons (dp_tup (da_cons dp_str (da_cons dp_non da_nil))) da_nil)) (dk_of dp_int))))) da_nil))) da_nil))) da_nil))))))))
  (dss_cons (ds_own (i := 6) (nz0 (by decide)) sc_law.nd rfl (Or.inl rfl) (dl_cat' (dev 6) (de_ofL (dl_lst (da_cons (dp_tup (da_cons (dpv 5) (da_cons (dp_tup (da_cons dp_str (da_cons (dp_ofL (dl_cat' (de_ofL (dl_rep (dl_lst (da_cons (dp_tup (da_cons dp_str (da_cons (dp_tup (da_cons dp_str (da_cons (dp_tup (da_cons (dp_tup da_nil) (da_cons (dp_tup (da_cons dp_int (da_cons dp_int da_nil))) da_nil))) (da_cons dp_str da_nil)))) da_nil))) da_nil)) (dk_of dp_int))) (de_ofL (dl_lst (da_cons (dp_tup (da_cons dp_str (da_cons (dp_tup (da_cons (dp_tup (da_cons dp_int (da_cons dp_int da_nil))) da_nil)) (da_cons dp_str da_nil)))) da_nil))))) da_nil))) da_nil))) da_nil)))))
  (dss_cons (ds_forO (j := 6) (sl := [13]) PassesOwn.never rfl rfl (by first | exact Or.inl rfl | exact Or.inr (Or.inl rfl) | exact Or.inr (Or.inr rfl)) (dg_name (by decide) (nz0 (by decide))) (pg_name (i := 13) sc_law.nd rfl (Or.inl rfl))
    (dss_cons (ds_set (i := 14) (nz0 (by decide)) sc_law.nd rfl (Or.inl rfl) (dp_call D__law_due hr rfl (da_cons (dpv 13) da_nil)))
    (dss_cons (ds_set (i := 15) (nz0 (by decide)) sc_law.nd rfl (Or.inl rfl) (dp_call D_is_sentence hr rfl (da_cons (dp_call D__law_copied hr rfl (da_cons (dpv 13) da_nil)) da_nil)))
    (dss_cons (ds_if (PW.pt (dw_or (dt_cmp (op_neD hr.units) sc_ne (dk_of (dp_call D__law_refusal hr rfl (da_cons (dp_call D__law_copied hr rfl (da_cons (dpv 13) da_nil)) da_nil))) (dk_of (dpv 14)) (nomark _)) (dw_or (dt_not (dt_truth (dk_of (dp_isi rfl T.b_isinstance rfl T.b_bool (by decide +kernel) (dk_of (dpv 15)))))) (dw_or1 (dt_cmp (op_neD hr.units) sc_ne (dk_of (dpv 15)) (dk_of (dp_cmp (op_eqD hr.units) sc_eq (dk_of (dpv 14)) (dk_of dp_str) (nomark _))) (nomark _))))))
      (dss_one (ds_ret dp_bl))
      dss_nil)
    (dss_one (ds_if (dt_cmp (op_eqD hr.units) sc_eq (dk_of (dpv 14)) (dk_of dp_str) (nomark _))
      (dss_cons (ds_own (i := 16) (nz0 (by decide)) sc_law.nd rfl (Or.inl rfl) (dl_call D_forms_in hr rfl (da_cons (dpv 13) da_nil)))
      (dss_cons (ds_if (dt_cmp (op_neD hr.units) sc_ne (dk_ofE (dev 16)) (dk_of (dp_call D__law_forms hr rfl (da_cons (dp_ix (dpv 13) (dk_of dp_int)) da_nil))) (nomark _))
        (dss_one (ds_ret dp_bl))
        dss_nil)
      (dss_one (ds_app (j := 16) rfl (by first | exact Or.inl rfl | exact Or.inr (Or.inl rfl) | exact Or.inr (Or.inr rfl)) dp_non (hpe := (fun ho ha => pe_bm PySem.F.plainAttrs_list PySem.F.slot_list_append PySem.F.type_list_append mt_append ho ha)) (hpa := (da_cons dp_non da_nil))))))
      dss_nil))))))
  (dss_one (ds_ret dp_bl))))))))))))))))
end
end K77

set_option Elab.async false
set_option linter.all false
set_option maxRecDepth 100000
set_option maxHeartbeats 4000000
/-! W2: check_sentence raises its own error; _law_refusal catches it and reads its field. -/
namespace K77
open PySem L2 PyProof.Rows DL
def clsBody : Stmt → List Stmt
  | .ClassDef (body := b) .. => b
  | _ => []
abbrev s_init : Stmt := (clsBody (top 2)).getD 0 (.Pass ⟨0, 0, 0, 0⟩)
abbrev rs : Str := "reason"
/-- what the written part says of BadTree at C (its __init__ at fI) and of BadSystem at D -/
structure BadTxt (K : PySem.W.Frag) (mg : Str → Option Value) (C fI D : Addr) : Prop where
  gC : mg "BadTree" = some (.ref C)
  gD : mg "BadSystem" = some (.ref D)
  ox : OexC K C
  noN : PySem.W.findIn K (.ref C) rs = some none
  iC : PySem.W.findIn K (.ref C) "__init__" = some (some (.ref fI))
  tI : PySem.W.typeIn K (.ref fI) = some (.type "function")
  ga : PySem.W.findIn K (.ref C) "__getattribute__" = some (some (.builtin "BaseException.__getattribute__"))
  gg : PySem.W.findIn K (.ref C) "__getattr__" = some none
  hd : PySem.W.hasDictIn K C = true
  cl : (PySem.W.clsIn K C).isSome = true
  ca : PySem.W.findIn K (.ref C) "__class__" = some (some (.builtin "object.__class__"))
  cg : PySem.W.specialIn K (.builtin "object.__class__") "__get__" = some (some (.builtin "getset_descriptor.__get__"))
  ct : PySem.W.takesIn K (.builtin "object.__class__") = some true
  mo : PySem.W.mroIn K C (.type "object") = some true
  te : PySem.W.exmOne K (.ref C) (.ref C) = some true
  no : PySem.W.kitOne K (.ref C) (.ref D) = some false
section
variable {P : Program} {w : World} {K : PySem.W.Frag} {mg : Str → Option Value} {base : Heap} {f fI C D : Addr} {fd fdI : FuncData} {k : Nat}
/-! ### __init__ -/
def spInit (K : PySem.W.Frag) (C : Addr) : Sp := fun vs H Q _ => ∃ (a : Addr) (v : V), vs = [.ref a, v] ∧ H a = some (exo a C none) ∧ OexC K C ∧ PySem.W.findIn K (.ref C) rs = some none ∧
  ∀ dx, H dx = none → dx ≠ a → Q .non (upd (upd H dx (exd dx [(rs, v)])) a (exo a C (some dx)))
theorem sc_init : FnScope ["self", "reason"] ["self", "reason"] (defScope s_init) := ⟨rfl, rfl, rfl, by decide +kernel, rfl, by decide +kernel, by decide +kernel⟩
theorem ok_init (F : L2.Fun K "__init__" "BadTree.__init__" s_init f fd) : FnOk P w K mg base CX0 (k + 1) f fd ["self", "reason"] (spInit K C) := by
  refine F.ok sc_init (fun vs H Q E h => ?_) (fun cdv A outer s H vs Q E hr h => ?_)
  · obtain ⟨a, v, rfl, _⟩ := h
    rfl
  · obtain ⟨a, v, rfl, h1, h2, h3, q⟩ := h
    refine ⟨_, pss_one (ps_ost (pv 0) (pv 1)), ?_⟩
    exact ⟨_, rfl, _, rfl, a, C, rfl, h2, h3, .inl ⟨h1, q⟩⟩
theorem mk_heap {H : Hp} {a d : Addr} {o : HO} {x : HO} (ha : H a = none) : upd (del (upd (upd (upd H a x) d o) a x) a) d o = upd H d o := by
  funext b
  by_cases hb : b = d
  · subst hb; rw [upd_same, upd_same]
  · rw [upd_ne hb, upd_ne hb]
    by_cases hba : b = a
    · subst hba; rw [del_same, ha]
    · rw [del_ne hba, upd_ne hba, upd_ne hb, upd_ne hba]
theorem mk_heap2 {H : Hp} {a d : Addr} {o u x y : HO} (ha : H a = none) : upd (del (upd (upd (upd H a x) d o) a y) a) d u = upd H d u := by
  funext b
  by_cases hb : b = d
  · subst hb; rw [upd_same, upd_same]
  · rw [upd_ne hb, upd_ne hb]
    by_cases hba : b = a
    · subst hba; rw [del_same, ha]
    · rw [del_ne hba, upd_ne hba, upd_ne hb, upd_ne hba]
/-! ### check_sentence -/
def spCheck (K : PySem.W.Frag) (C : Addr) : Sp := fun vs H Q E => ∃ B ds, Ex B H ∧ DpAll K B vs ds ∧ ds.length = 1 ∧
  ((F_fault_of ds = some .none ∧ ∀ B' H', Stp B H B' H' → Q .non H') ∨ ∃ s : Str, F_fault_of ds = some (.str s) ∧ ∀ B' H' d, Stp B H B' H' → H' d = none → E (.ref C) (some d) (upd H' d (.xd [(rs, .str s)])))
theorem sc_check_sentence : FnScope ["value", "reason"] ["value"] (defScope s_check_sentence) := ⟨rfl, rfl, rfl, by decide +kernel, rfl, by decide +kernel, by decide +kernel⟩
theorem ok_check (F : L2.Fun K "check_sentence" "check_sentence" s_check_sentence f fd) (T : BadTxt K mg C fI D) (FI : FnOk P w K mg base CX0 k fI fdI ["self", "reason"] (spInit K C)) (bI : Binds K fdI ["self", "reason"] [])
    (D_fault_of : Dfn P w K mg base k "fault_of" (spP K F_fault_of)) : FnOk P w K mg base (L2.CX P w) (k + 1 + 1) f fd ["value"] (spCheck K C) := by
  refine F.okX sc_check_sentence (fun vs H Q E h => ?_) (fun cdv A outer s H vs Q E hr h => ?_)
  · obtain ⟨B, ds, _, h1, h2, _⟩ := h
    rw [dps_len h1, h2]
    rfl
  · obtain ⟨B, ds, e, h1, hl, q⟩ := h
    refine ⟨_, pss_cons (ds_set (B0 := ⟨B, fun _ => False⟩) (H0 := H) (i := 1) (p := oC F_fault_of (aCons (vD 0) aNil)) (nz0 (by decide)) sc_check_sentence.nd rfl (Or.inl rfl) (dp_call D_fault_of (hr.mono (by omega)) rfl (da_cons (dpv 0) da_nil)))
      (pss_one (ps_if (dt_cmp (B0 := ⟨B, fun _ => False⟩) (H0 := H) op_notN sc_notN (dk_of (dpv 1)) (dk_of dp_non) (nomark _)) (pss_one (ps_raise rfl (takes_of rfl rfl rfl rfl) (pmk_oex T.ox T.iC T.tI FI hr bI .nil pass0 rfl T.gC (da_cons (B0 := ⟨B, fun _ => False⟩) (H0 := H) (dpv 1) da_nil)))) pss_nil)), ?_⟩
    have hw : ∀ r : PyData, F_fault_of ds = some r → (sSet 1 (oC F_fault_of (aCons (vD 0) aNil))) (startR 2 ds) = some (.nx ((startR 2 ds).set 1 (some (.dat r)))) := fun r hr => by
      match ds, hl with
      | [d], _ =>
        show Option.map _ (F_fault_of [d]) = _
        rw [hr]
        rfl
    have hv : ∀ r : PyData, ∃ d, ds = [d] ∧ (startR 2 ds).set 1 (some (.dat r)) = [some (.dat d), some (.dat r)] := fun r => by
      match ds, hl with
      | [d], _ => exact ⟨d, rfl, rfl⟩
    rcases q with ⟨hn, q⟩ | ⟨x, hx, q⟩
    · refine ⟨B, startR 2 ds, _, start_rel (N := ["value", "reason"]) e h1, hw _ hn, ?_⟩
      intro σ' B' H' R' e'
      obtain ⟨d, _, hρ⟩ := hv .none
      refine ⟨B', _, false, R', ?_, fun B2 H2 s2 => ?_⟩
      · rw [hρ]; rfl
      · show (if (false : Bool) = true then _ else _)
        rw [if_neg Bool.false_ne_true]
        exact q B2 H2 (R'.stp.trans s2)
    · refine ⟨B, startR 2 ds, _, start_rel (N := ["value", "reason"]) e h1, hw _ hx, ?_⟩
      intro σ' B' H' R' e'
      obtain ⟨d, _, hρ⟩ := hv (.str x)
      refine ⟨B', _, true, R', ?_, fun B2 H2 s2 => ?_⟩
      · rw [hρ]; rfl
      · show (if (true : Bool) = true then _ else _)
        rw [if_pos rfl]
        have R2 := R'.step s2
        refine ⟨B2, _, [.str x], R2, by rw [hρ]; rfl, fun vs B3 H3 s3 h3 => ?_⟩
        obtain ⟨v, rfl, hv3⟩ := one_of h3
        have ev := dp_str' hv3
        subst ev
        refine ⟨by simp, fun a ha => ?_⟩
        refine ⟨a, .str x, rfl, upd_same, T.ox, T.noN, fun dx hdx hne => ⟨rfl, dx, [(rs, .str x)], upd_same, by rw [upd_ne hne, upd_same], ?_, ?_⟩⟩
        · rw [upd_ne hne] at hdx; exact hdx
        · rw [mk_heap2 ha]
          rw [upd_ne hne] at hdx
          exact q B3 H3 dx (R2.stp.trans s3) hdx
/-! ### isinstance of the error that the suite holds; its field -/
def rIsD (K : PySem.W.Frag) (C a : Addr) (cls : Value) (d : Option Addr) : List V → Hp → VK → Prop := fun xs H Q => cls = .ref C ∧ ∃ (dd cv : Addr) (b : Bool) (fs : List (Str × V)), d = some dd ∧ xs = [.ref a, .ref cv] ∧ PySem.W.kitOne K (.ref C) (.ref cv) = some b ∧ H dd = some (.xd fs) ∧ Q (.bl b) H
theorem call_isD {X : Cx} {a : Addr} {d : Option Addr} {cls : Value} {oe : Obj} {pn : List (Addr × Obj)} (T : BadTxt X.K X.mg C fI D) (hz : Zc cls d oe) (hf : ∃ vs, oe.data = .fields vs) : CallR (X.suite a ((a, oe) :: pn)) (.builtin "isinstance") (rIsD X.K C a cls d) := by
  intro pins s σ H xs us Q I r h
  obtain ⟨ec, dd, cv, b, fs, ed, rfl, e, hx, q⟩ := h
  subst ec
  subst ed
  cases r with
  | cons rx rr =>
    cases rr with
    | cons rt rr =>
      cases rr
      cases rx
      cases rt
      obtain ⟨hget, _⟩ := I.pin (a, oe) (List.mem_append.mpr (.inl List.mem_cons_self))
      obtain ⟨vs, hv⟩ := hf
      have hxd : ObjOk X.prog X.w H s.heap dd (.xd fs) := I.hok dd _ hx
      obtain ⟨mA, hns, _⟩ := hxd
      obtain ⟨od, ho, _⟩ := lookIn_ns hns
      have J : PySem.W.InstAt s.heap a oe C (some od) := ⟨hget, hz.1, by unfold PySem.W.notCls; rw [hv] <;> rfl, by rw [hz.2]; exact ho⟩
      exact PySem.W.kia_one (PySem.W.kitx_exc T.cl T.ga T.gg T.ox.exC T.ca T.cg T.ct T.mo) I.kIn J e (fun z => nomatch z) fun tk => ⟨.bl b, H, I.kept (t' := tk) fun _ _ z => z, rfl, q⟩
def tField (C : Addr) (a : Addr) (cls : Value) (d : Option Addr) (te : TE) : TE := fun σ H Q => te σ H fun x H1 => x = .ref a ∧ cls = .ref C ∧ ∃ (dd : Addr) (v : V), d = some dd ∧ H1 dd = some (.xd [(rs, v)]) ∧ Q v H1
theorem pe_field {X : Cx} {a : Addr} {oe : Obj} {cls : Value} {d : Option Addr} {pn : List (Addr × Obj)} {e : Expr} {te : TE} {pos : Pos} (T : BadTxt X.K X.mg C fI D) (hz : Zc cls d oe) (hf : ∃ vs, oe.data = .fields vs) (he : PE (X.suite a ((a, oe) :: pn)) e te)
    (hb : attributeBase e rs X.env (eval e X.env) = eval e X.env := by rfl) : PE (X.suite a ((a, oe) :: pn)) (.Attribute e rs pos) (tField C a cls d te) := by
  refine ⟨fun pins s σ H Q I h => ?_⟩
  refine attr_of hb (thn (he.run pins s σ H _ I h) fun u s1 hh => ?_)
  obtain ⟨x, H1, I1, rx, ex, ec, dd, v, ed, ea, q⟩ := hh
  subst ex
  obtain rfl : u = Value.ref a := rx
  subst ec
  subst ed
  obtain ⟨ha, _⟩ := I1.pin (a, oe) (List.mem_append_left _ List.mem_cons_self)
  obtain ⟨vs, hd⟩ := hf
  have hx : ObjOk X.prog X.w H1 s1.heap dd (.xd [(rs, v)]) := I1.hok dd _ ea
  obtain ⟨mA, hns, hr⟩ := hx
  obtain ⟨od, ho, hl⟩ := lookIn_ns hns
  have l : List.lookup rs [(rs, v)] = some v := by simp [List.lookup]
  obtain ⟨u, hu, ru⟩ := RelO.some_of (v := v) (o := mA rs) (by rw [← l]; exact hr rs)
  have J : PySem.W.InstAt s1.heap a oe C (some od) := ⟨ha, hz.1, by unfold PySem.W.notCls; rw [hd] <;> rfl, by rw [hz.2]; exact ho⟩
  exact PySem.HandSPX.exc_get I1.kIn J T.ga T.gg T.ox.exC (PySem.W.findObj_own T.hd T.noN rfl (by rw [hl, hu])) (handed_of ru) ⟨v, H1, I1.tok _, ru, q⟩
/-! ### _law_refusal -/
theorem sc_refusal : FnScope ["value", "e"] ["value"] (defScope s__law_refusal) := ⟨rfl, rfl, rfl, by decide +kernel, rfl, by decide +kernel, by decide +kernel⟩
def tIs (K : PySem.W.Frag) (C D a : Addr) (cls : Value) (d : Option Addr) : TT := fun σ H Q => tCB (rIsD K C a cls d) (tCons (tVar 1) (tCons (tC (.ref D)) tNil)) σ H fun x H' => ∃ k, TruV K x H' k ∧ Q k H'
def tSuite (K : PySem.W.Frag) (C D : Addr) : Addr → Value → Option Addr → TS := fun a cls d =>
  tSeq (tIfS (tIs K C D a cls d) (tRet (tC (.str "mixed"))) tNext) (tRet (tField C a cls d (tVar 1)))
theorem slot1 {σ : L2.St} {v : V} (h : σ.length = 2) : (σ.set 1 (some v))[1]? = some (some v) := by
  rw [List.getElem?_set, if_pos rfl, if_pos (by omega)]
theorem ok__law_refusal {fC : Addr} {fdC : FuncData} {k2 : Nat} (F : L2.Fun K "_law_refusal" "_law_refusal" s__law_refusal f fd) (TT : Txt K mg) (T : BadTxt K mg C fI D) (FC : FnOk P w K mg base (L2.CX P w) k2 fC fdC ["value"] (spCheck K C)) (bC : Binds K fdC ["value"] []) (mC : mg "check_sentence" = some (.ref fC)) (kC : PySem.W.keepIn K (.ref fC) = true) :
    FnOk P w K mg base CX0 (k2 + 1) f fd ["value"] (spP K F__law_refusal) := by
  refine F.ok sc_refusal (fun vs H Q E h => ?_) (fun cdv A outer s H vs Q E hr h => ?_)
  · obtain ⟨B, ds, d, e, h1, h2, _⟩ := h
    have hl : ds.length = 1 := by
      unfold F__law_refusal F_fault_of runP at h2
      by_cases hc : ds.length = 1
      · exact hc
      · rw [if_neg hc] at h2; cases h2
    rw [dps_len h1, hl]
    rfl
  · obtain ⟨B, ds, d, e, h1, h2, q⟩ := h
    have hl : ds.length = 1 := by
      unfold F__law_refusal F_fault_of runP at h2
      by_cases hc : ds.length = 1
      · exact hc
      · rw [if_neg hc] at h2; cases h2
    obtain ⟨d0, rfl⟩ : ∃ d0, ds = [d0] := by
      match ds, hl with
      | [d0], _ => exact ⟨d0, rfl⟩
    refine ⟨_, pss_cons (ps_try_as (i := 1) (tb := fun W => tDrop (tCallS (spCheck K C) (WE W) (rdA K ⟨B, fun _ => False⟩ H (aCons (vD 0) aNil)))) (ts := tSuite K C D) (Wout := fun _ _ _ _ => False) rfl rfl sc_refusal.nd rfl rfl ⟨rfl, by decide, .inl T.gC⟩ takes0
        (fun W pn xe tk _ => pss_one (ps_expr (by exact (pe_callS FC hr rfl mC kC bC (fun σ => passAt tk σ) (da_cons (B0 := ⟨B, fun _ => False⟩) (H0 := H) (dpv 0) da_nil)))))
        (fun a oe cls d pn hz hf => pss_cons (ps_if (pt_truth (by exact (pe_callB (call_isD T hz hf) rfl TT.b_isinstance (by decide +kernel) (pa_cons (pv 1) (pa_cons (pe_glob (v := .ref D) rfl T.gD rfl) pa_nil)))) (fun _ => rfl)) (pss_one (ps_ret pe_str)) pss_nil) (pss_one (ps_ret (pe_field T hz hf (pv 1))))))
      (pss_one (ds_ret (B0 := ⟨B, fun _ => False⟩) (H0 := H) dp_str)), ?_⟩
    have R := start_rel (K := K) (N := ["value", "e"]) e h1
    have hsl : (start ["value", "e"] vs).length = 2 := by
      have := R.len
      rw [← this]
      rfl
    refine ⟨B, startR 2 [d0], [d0], R, rfl, fun vs1 B1 H1 s1 hv1 => ⟨B1, [d0], s1.bh, hv1, rfl, ?_⟩⟩
    obtain ⟨r, hr1, hr2⟩ := bind_some h2
    cases r with
    | none =>
      cases hr2
      refine .inl ⟨hr1, fun B2 H2 s2 => ?_⟩
      exact ⟨B2, startR 2 [d0], _, (R.step s1).step s2, rfl, fun σ' v B' H' R' e' hv => q v B' H' R'.stp hv⟩
    | str x =>
      cases hr2
      refine .inr ⟨x, hr1, fun B2 H2 dd s2 hd => ?_⟩
      have s3 := s1.trans s2
      have s4 := Stp.add s3.bh (.xd [(rs, .str x)]) hd
      refine ⟨true, T.te, fun _ a ha => ?_, fun z => nomatch z⟩
      refine ⟨.ref a, slot1 hsl, rfl, dd, D, false, [(rs, .str x)], rfl, rfl, T.no, upd_same, false, rfl, ?_⟩
      refine ⟨.ref a, slot1 hsl, rfl, rfl, dd, .str x, rfl, upd_same, ?_⟩
      exact q (.str x) B2 _ (s3.trans s4) (.str x)
    | _ => cases hr2
end
end K77

set_option Elab.async false
set_option linter.all false
set_option maxRecDepth 100000
set_option maxHeartbeats 4000000
/-! the defs joined (printed by gen.py) -/
namespace K77
open PySem L2 PyProof.Rows DL
/-- a def stands among the globals -/
abbrev FnAt (K : PySem.W.Frag) (x : Str) (st : Stmt) : Prop := ∃ (f : Addr) (oc : Value) (od : Option Addr) (kV doc pm : Value) (an : Option Addr) (cdv ct : Value) (osl : Array (Option Value)), PySem.W.nsIn K mainGlobals x = some (some (.ref f)) ∧ K.lookup f = some ⟨oc, od, .func (PySem.W.fnOf x x (defArgs st) (defBody st) (defScope st) .none kV doc pm an cdv ct), osl⟩ ∧ PySem.W.codeIn K cdv x = true ∧ PySem.W.keepIn K (.ref f) = true
theorem fn_at {K : PySem.W.Frag} {h : Heap} {mg : Str → Option Value} {x : Str} {st : Stmt} (X : K.In h) (G : h.Ns mainGlobals mg) (A : FnAt K x st) : ∃ f fd, L2.Fun K x x st f fd ∧ mg x = some (.ref f) ∧ PySem.W.keepIn K (.ref f) = true := by
  obtain ⟨f, oc, od, kV, doc, pm, an, cdv, ct, osl, a, l, c, k⟩ := A
  exact ⟨f, _, fun_mk l c k, PySem.W.mg_of X G a, k⟩
abbrev StrAt (K : PySem.W.Frag) (x z : Str) : Prop := ∃ t, PySem.W.nsIn K mainGlobals x = some (some (.str z t))
abbrev IntAt (K : PySem.W.Frag) (x : Str) (i : Int) : Prop := ∃ t, PySem.W.nsIn K mainGlobals x = some (some (.int i t))
abbrev RelAt (K : PySem.W.Frag) : Prop := ∃ (f : Addr) (od : Option Addr) (n : Nat) (sl : Array (Option Value)) (t1 t2 t3 t4 t5 t6 : Tok), PySem.W.nsIn K mainGlobals "RELATIONS" = some (some (.ref f)) ∧ K.lookup f = some ⟨.type "tuple", od, .seq #[.str "=" t1, .str "<" t2, .str ">" t3, .str "<=" t4, .str ">=" t5, .str "!=" t6] n, sl⟩
theorem zero_P {P : Program} {w : World} {K : PySem.W.Frag} {mg : Str → Option Value} {base : Heap} {k : Nat} {f : Addr} {fd : FuncData} {ps : List Str} : FnOk P w K mg base CX0 k f fd ps (spP K fun _ => none) := by
  have no : ∀ vs H Q E, ¬ spP K (fun _ => none) vs H Q E := fun vs H Q E h => by
    obtain ⟨_, _, _, _, _, h2, _⟩ := h
    cases h2
  exact ⟨fun vs H Q E h => absurd h (no vs H Q E), fun A outer s H args us vs Q E _ _ _ _ h => absurd h (no vs H Q E)⟩
theorem zero_O {P : Program} {w : World} {K : PySem.W.Frag} {mg : Str → Option Value} {base : Heap} {k : Nat} {f : Addr} {fd : FuncData} {ps : List Str} : FnOk P w K mg base CX0 k f fd ps (spO K fun _ _ => none) := by
  have no : ∀ vs H Q E, ¬ spO K (fun _ _ => none) vs H Q E := fun vs H Q E h => by
    obtain ⟨_, _, _, _, _, _, _, _, _, _, _, _, _, _, h2, _⟩ := h
    cases h2
  exact ⟨fun vs H Q E h => absurd h (no vs H Q E), fun A outer s H args us vs Q E _ _ _ _ h => absurd h (no vs H Q E)⟩
section
variable {P : Program} {w : World} {K : PySem.W.Frag} {mg : Str → Option Value} {base : Heap}
theorem rec__law_copied {f : Addr} {fd : FuncData} (F : L2.Fun K "_law_copied" "_law_copied" s__law_copied f fd) (T : Txt K mg) (b : Binds K fd ["value"] []) (m : mg "_law_copied" = some (.ref f)) (kp : PySem.W.keepIn K (.ref f) = true) : ∀ n : Nat, Dfn P w K mg base (0 + n) "_law_copied" (spP K (F__law_copied n))
  | 0 => ⟨f, fd, ["value"], zero_P, m, kp, b⟩
  | n + 1 => by
    have D := rec__law_copied F T b m kp  n
    exact ⟨f, fd, ["value"], ok__law_copied F T D , m, kp, b⟩
theorem rec__law_listed {f : Addr} {fd : FuncData} (F : L2.Fun K "_law_listed" "_law_listed" s__law_listed f fd) (T : Txt K mg) (b : Binds K fd ["formula"] []) (m : mg "_law_listed" = some (.ref f)) (kp : PySem.W.keepIn K (.ref f) = true) (D__law_within : Dfn P w K mg base 3 "_law_within" (spP K F__law_within)) : ∀ n : Nat, Dfn P w K mg base (3 + n) "_law_listed" (spP K (F__law_listed n))
  | 0 => ⟨f, fd, ["formula"], zero_P, m, kp, b⟩
  | n + 1 => by
    have D := rec__law_listed F T b m kp D__law_within n
    exact ⟨f, fd, ["formula"], ok__law_listed F T D (D__law_within.mono (Nat.le_add_right _ _)), m, kp, b⟩
theorem rec__law_bent {f : Addr} {fd : FuncData} (F : L2.Fun K "_law_bent" "_law_bent" s__law_bent f fd) (T : Txt K mg) (b : Binds K fd ["formula", "numbers"] []) (m : mg "_law_bent" = some (.ref f)) (kp : PySem.W.keepIn K (.ref f) = true) (D__law_within : Dfn P w K mg base 3 "_law_within" (spP K F__law_within)) : ∀ n : Nat, Dfn P w K mg base (3 + n) "_law_bent" (spP K (F__law_bent n))
  | 0 => ⟨f, fd, ["formula", "numbers"], zero_P, m, kp, b⟩
  | n + 1 => by
    have D := rec__law_bent F T b m kp D__law_within n
    exact ⟨f, fd, ["formula", "numbers"], ok__law_bent F T D (D__law_within.mono (Nat.le_add_right _ _)), m, kp, b⟩
theorem rec__law_formula {f : Addr} {fd : FuncData} (F : L2.Fun K "_law_formula" "_law_formula" s__law_formula f fd) (T : Txt K mg) (b : Binds K fd ["pool", "forms", "deep"] []) (m : mg "_law_formula" = some (.ref f)) (kp : PySem.W.keepIn K (.ref f) = true) (D__law_pop : Dfn P w K mg base 1 "_law_pop" (spO K F__law_pop)) : ∀ n : Nat, Dfn P w K mg base (1 + n) "_law_formula" (spO K (F__law_formula n))
  | 0 => ⟨f, fd, ["pool", "forms", "deep"], zero_O, m, kp, b⟩
  | n + 1 => by
    have D := rec__law_formula F T b m kp D__law_pop n
    exact ⟨f, fd, ["pool", "forms", "deep"], ok__law_formula F T D (D__law_pop.mono (Nat.le_add_right _ _)), m, kp, b⟩
end
abbrev InitAt (K : PySem.W.Frag) (fI : Addr) : Prop := ∃ (oc : Value) (od : Option Addr) (kV doc pm : Value) (an : Option Addr) (cdv ct : Value) (osl : Array (Option Value)), K.lookup fI = some ⟨oc, od, .func (PySem.W.fnOf "__init__" "BadTree.__init__" (defArgs s_init) (defBody s_init) (defScope s_init) .none kV doc pm an cdv ct), osl⟩ ∧ PySem.W.codeIn K cdv "BadTree.__init__" = true ∧ PySem.W.keepIn K (.ref fI) = true
theorem all_mk {P : Program} {w : World} {K : PySem.W.Frag} {h : Heap} {mg : Str → Option Value} {fa C D fI : Addr} (X : K.In h) (G : h.Ns mainGlobals mg) (hfa : mg "law" = some (.ref fa)) (A_is_whole : FnAt K "is_whole" s_is_whole) (A_is_row : FnAt K "is_row" s_is_row) (A_is_form : FnAt K "is_form" s_is_form) (A_is_plain_number : FnAt K "is_plain_number" s_is_plain_number) (A_within : FnAt K "within" s_within) (A_atoms_of : FnAt K "atoms_of" s_atoms_of) (A_forms_of : FnAt K "forms_of" s_forms_of) (A_uses_x : FnAt K "uses_x" s_uses_x) (A_uses_y : FnAt K "uses_y" s_uses_y) (A_is_quantifier : FnAt K "is_quantifier" s_is_quantifier) (A_are_quantifiers : FnAt K "are_quantifiers" s_are_quantifiers) (A_formula_fault : FnAt K "formula_fault" s_formula_fault) (A_has_free : FnAt K "has_free" s_has_free) (A_fault_of : FnAt K "fault_of" s_fault_of) (A_check_sentence : FnAt K "check_sentence" s_check_sentence) (A_is_sentence : FnAt K "is_sentence" s_is_sentence) (A_forms_in : FnAt K "forms_in" s_forms_in) (A__law_numbers : FnAt K "_law_numbers" s__law_numbers) (A__law_is_integer : FnAt K "_law_is_integer" s__law_is_integer) (A__law_copied : FnAt K "_law_copied" s__law_copied) (A__law_pop : FnAt K "_law_pop" s__law_pop) (A__law_expand : FnAt K "_law_expand" s__law_expand) (A__law_grid_form : FnAt K "_law_grid_form" s__law_grid_form) (A__law_formula : FnAt K "_law_formula" s__law_formula) (A__law_grid : FnAt K "_law_grid" s__law_grid) (A__law_refusal : FnAt K "_law_refusal" s__law_refusal) (A__law_is_form : FnAt K "_law_is_form" s__law_is_form) (A__law_within : FnAt K "_law_within" s__law_within) (A__law_listed : FnAt K "_law_listed" s__law_listed) (A__law_forms : FnAt K "_law_forms" s__law_forms) (A__law_due : FnAt K "_law_due" s__law_due) (A__law_bent : FnAt K "_law_bent" s__law_bent) (A_law : FnAt K "law" s_law) (Z_abs : PySem.W.nsIn K mainGlobals "abs" = some none) (Z_all : PySem.W.nsIn K mainGlobals "all" = some none) (Z_any : PySem.W.nsIn K mainGlobals "any" = some none) (Z_bool : PySem.W.nsIn K mainGlobals "bool" = some none) (Z_int : PySem.W.nsIn K mainGlobals "int" = some none) (Z_isinstance : PySem.W.nsIn K mainGlobals "isinstance" = some none) (Z_len : PySem.W.nsIn K mainGlobals "len" = some none) (Z_list : PySem.W.nsIn K mainGlobals "list" = some none) (Z_range : PySem.W.nsIn K mainGlobals "range" = some none) (Z_str : PySem.W.nsIn K mainGlobals "str" = some none) (Z_tuple : PySem.W.nsIn K mainGlobals "tuple" = some none) (I_MOST_DEGREE : IntAt K "MOST_DEGREE" 2) (I_MOST_COEFFICIENT : IntAt K "MOST_COEFFICIENT" 1000000) (I_MOST_PARTS : IntAt K "MOST_PARTS" 60) (I_MOST_DEEP : IntAt K "MOST_DEEP" 20) (I_MOST_FORMS : IntAt K "MOST_FORMS" 2) (S_IS : StrAt K "IS" "is") (S_SOME : StrAt K "SOME" "some") (S_ALL : StrAt K "ALL" "all") (S_FORM : StrAt K "FORM" "form") (S_FREE : StrAt K "FREE" "free") (S_LARGE : StrAt K "LARGE" "large") (R_RELATIONS : RelAt K)
    (gC : PySem.W.nsIn K mainGlobals "BadTree" = some (some (.ref C))) (gD : PySem.W.nsIn K mainGlobals "BadSystem" = some (some (.ref D))) (AI : InitAt K fI) (T0 : mg "BadTree" = some (.ref C) → mg "BadSystem" = some (.ref D) → BadTxt K mg C fI D) :
    ∃ fd : FuncData, (∀ (s : Shared) (v : Value), BindsTo s fd ⟨[v], []⟩ [("script", v)]) ∧ ∀ base : Heap, K.In base → base.Ns mainGlobals mg → FnOk P w K mg base CX0 81 fa fd ["script"] (spP K F_law) := by
  have T : Txt K mg := {
    b_abs := PySem.W.mg_none_of X G Z_abs,
    b_all := PySem.W.mg_none_of X G Z_all,
    b_any := PySem.W.mg_none_of X G Z_any,
    b_bool := PySem.W.mg_none_of X G Z_bool,
    b_int := PySem.W.mg_none_of X G Z_int,
    b_isinstance := PySem.W.mg_none_of X G Z_isinstance,
    b_len := PySem.W.mg_none_of X G Z_len,
    b_list := PySem.W.mg_none_of X G Z_list,
    b_range := PySem.W.mg_none_of X G Z_range,
    b_str := PySem.W.mg_none_of X G Z_str,
    b_tuple := PySem.W.mg_none_of X G Z_tuple,
    c_MOST_DEGREE := (by obtain ⟨t, e⟩ := I_MOST_DEGREE; exact ⟨t, PySem.W.mg_of X G e⟩),
    c_MOST_COEFFICIENT := (by obtain ⟨t, e⟩ := I_MOST_COEFFICIENT; exact ⟨t, PySem.W.mg_of X G e⟩),
    c_MOST_PARTS := (by obtain ⟨t, e⟩ := I_MOST_PARTS; exact ⟨t, PySem.W.mg_of X G e⟩),
    c_MOST_DEEP := (by obtain ⟨t, e⟩ := I_MOST_DEEP; exact ⟨t, PySem.W.mg_of X G e⟩),
    c_MOST_FORMS := (by obtain ⟨t, e⟩ := I_MOST_FORMS; exact ⟨t, PySem.W.mg_of X G e⟩),
    c_IS := (by obtain ⟨t, e⟩ := S_IS; exact ⟨t, PySem.W.mg_of X G e⟩),
    c_SOME := (by obtain ⟨t, e⟩ := S_SOME; exact ⟨t, PySem.W.mg_of X G e⟩),
    c_ALL := (by obtain ⟨t, e⟩ := S_ALL; exact ⟨t, PySem.W.mg_of X G e⟩),
    c_FORM := (by obtain ⟨t, e⟩ := S_FORM; exact ⟨t, PySem.W.mg_of X G e⟩),
    c_FREE := (by obtain ⟨t, e⟩ := S_FREE; exact ⟨t, PySem.W.mg_of X G e⟩),
    c_LARGE := (by obtain ⟨t, e⟩ := S_LARGE; exact ⟨t, PySem.W.mg_of X G e⟩),
    c_RELATIONS := (by
      obtain ⟨f, od, n, sl, t1, t2, t3, t4, t5, t6, e, l⟩ := R_RELATIONS
      refine ⟨f, [.str "=", .str "<", .str ">", .str "<=", .str ">=", .str "!="], PySem.W.mg_of X G e, fun H => .inr ⟨_, _, n, l, rfl, rfl, size_ok (show 6 ≤ 1000000 by decide), ?_⟩, fun H => .cons (.str _) (.cons (.str _) (.cons (.str _) (.cons (.str _) (.cons (.str _) (.cons (.str _) .nil)))))⟩
      exact .cons ⟨t1, rfl⟩ (.cons ⟨t2, rfl⟩ (.cons ⟨t3, rfl⟩ (.cons ⟨t4, rfl⟩ (.cons ⟨t5, rfl⟩ (.cons ⟨t6, rfl⟩ .nil)))))) }
  have TB := T0 (PySem.W.mg_of X G gC) (PySem.W.mg_of X G gD)
  obtain ⟨oc, od, kV, doc, pm, an, cdv, ct, osl, lI, cI, kI⟩ := AI
  have FI := fun_mk (st := s_init) lI cI kI
  have bI := FI.binds (ps := ["self", "reason"]) fun _ _ _ _ _ _ us hl => match us, hl with | [_, _], _ => rfl
  obtain ⟨f_is_whole, fd_is_whole, F_is_whole', m_is_whole, k_is_whole⟩ := fn_at X G A_is_whole
  have b_is_whole := F_is_whole'.binds (ps := ["value"]) fun _ _ _ _ _ _ us hl => match us, hl with | [_], _ => rfl
  obtain ⟨f_is_row, fd_is_row, F_is_row', m_is_row, k_is_row⟩ := fn_at X G A_is_row
  have b_is_row := F_is_row'.binds (ps := ["value"]) fun _ _ _ _ _ _ us hl => match us, hl with | [_], _ => rfl
  obtain ⟨f_is_form, fd_is_form, F_is_form', m_is_form, k_is_form⟩ := fn_at X G A_is_form
  have b_is_form := F_is_form'.binds (ps := ["value"]) fun _ _ _ _ _ _ us hl => match us, hl with | [_], _ => rfl
  obtain ⟨f_is_plain_number, fd_is_plain_number, F_is_plain_number', m_is_plain_number, k_is_plain_number⟩ := fn_at X G A_is_plain_number
  have b_is_plain_number := F_is_plain_number'.binds (ps := ["form"]) fun _ _ _ _ _ _ us hl => match us, hl with | [_], _ => rfl
  obtain ⟨f_within, fd_within, F_within', m_within, k_within⟩ := fn_at X G A_within
  have b_within := F_within'.binds (ps := ["value"]) fun _ _ _ _ _ _ us hl => match us, hl with | [_], _ => rfl
  obtain ⟨f_atoms_of, fd_atoms_of, F_atoms_of', m_atoms_of, k_atoms_of⟩ := fn_at X G A_atoms_of
  have b_atoms_of := F_atoms_of'.binds (ps := ["formula"]) fun _ _ _ _ _ _ us hl => match us, hl with | [_], _ => rfl
  obtain ⟨f_forms_of, fd_forms_of, F_forms_of', m_forms_of, k_forms_of⟩ := fn_at X G A_forms_of
  have b_forms_of := F_forms_of'.binds (ps := ["formula"]) fun _ _ _ _ _ _ us hl => match us, hl with | [_], _ => rfl
  obtain ⟨f_uses_x, fd_uses_x, F_uses_x', m_uses_x, k_uses_x⟩ := fn_at X G A_uses_x
  have b_uses_x := F_uses_x'.binds (ps := ["form"]) fun _ _ _ _ _ _ us hl => match us, hl with | [_], _ => rfl
  obtain ⟨f_uses_y, fd_uses_y, F_uses_y', m_uses_y, k_uses_y⟩ := fn_at X G A_uses_y
  have b_uses_y := F_uses_y'.binds (ps := ["form"]) fun _ _ _ _ _ _ us hl => match us, hl with | [_], _ => rfl
  obtain ⟨f_is_quantifier, fd_is_quantifier, F_is_quantifier', m_is_quantifier, k_is_quantifier⟩ := fn_at X G A_is_quantifier
  have b_is_quantifier := F_is_quantifier'.binds (ps := ["value"]) fun _ _ _ _ _ _ us hl => match us, hl with | [_], _ => rfl
  obtain ⟨f_are_quantifiers, fd_are_quantifiers, F_are_quantifiers', m_are_quantifiers, k_are_quantifiers⟩ := fn_at X G A_are_quantifiers
  have b_are_quantifiers := F_are_quantifiers'.binds (ps := ["value"]) fun _ _ _ _ _ _ us hl => match us, hl with | [_], _ => rfl
  obtain ⟨f_formula_fault, fd_formula_fault, F_formula_fault', m_formula_fault, k_formula_fault⟩ := fn_at X G A_formula_fault
  have b_formula_fault := F_formula_fault'.binds (ps := ["value"]) fun _ _ _ _ _ _ us hl => match us, hl with | [_], _ => rfl
  obtain ⟨f_has_free, fd_has_free, F_has_free', m_has_free, k_has_free⟩ := fn_at X G A_has_free
  have b_has_free := F_has_free'.binds (ps := ["quantifiers", "forms"]) fun _ _ _ _ _ _ us hl => match us, hl with | [_, _], _ => rfl
  obtain ⟨f_fault_of, fd_fault_of, F_fault_of', m_fault_of, k_fault_of⟩ := fn_at X G A_fault_of
  have b_fault_of := F_fault_of'.binds (ps := ["value"]) fun _ _ _ _ _ _ us hl => match us, hl with | [_], _ => rfl
  obtain ⟨f_check_sentence, fd_check_sentence, F_check_sentence', m_check_sentence, k_check_sentence⟩ := fn_at X G A_check_sentence
  have b_check_sentence := F_check_sentence'.binds (ps := ["value"]) fun _ _ _ _ _ _ us hl => match us, hl with | [_], _ => rfl
  obtain ⟨f_is_sentence, fd_is_sentence, F_is_sentence', m_is_sentence, k_is_sentence⟩ := fn_at X G A_is_sentence
  have b_is_sentence := F_is_sentence'.binds (ps := ["value"]) fun _ _ _ _ _ _ us hl => match us, hl with | [_], _ => rfl
  obtain ⟨f_forms_in, fd_forms_in, F_forms_in', m_forms_in, k_forms_in⟩ := fn_at X G A_forms_in
  have b_forms_in := F_forms_in'.binds (ps := ["sentence"]) fun _ _ _ _ _ _ us hl => match us, hl with | [_], _ => rfl
  obtain ⟨f__law_numbers, fd__law_numbers, F__law_numbers', m__law_numbers, k__law_numbers⟩ := fn_at X G A__law_numbers
  have b__law_numbers := F__law_numbers'.binds (ps := ["script", "at", "many"]) fun _ _ _ _ _ _ us hl => match us, hl with | [_, _, _], _ => rfl
  obtain ⟨f__law_is_integer, fd__law_is_integer, F__law_is_integer', m__law_is_integer, k__law_is_integer⟩ := fn_at X G A__law_is_integer
  have b__law_is_integer := F__law_is_integer'.binds (ps := ["value"]) fun _ _ _ _ _ _ us hl => match us, hl with | [_], _ => rfl
  obtain ⟨f__law_copied, fd__law_copied, F__law_copied', m__law_copied, k__law_copied⟩ := fn_at X G A__law_copied
  have b__law_copied := F__law_copied'.binds (ps := ["value"]) fun _ _ _ _ _ _ us hl => match us, hl with | [_], _ => rfl
  obtain ⟨f__law_pop, fd__law_pop, F__law_pop', m__law_pop, k__law_pop⟩ := fn_at X G A__law_pop
  have b__law_pop := F__law_pop'.binds (ps := ["pool"]) fun _ _ _ _ _ _ us hl => match us, hl with | [_], _ => rfl
  obtain ⟨f__law_expand, fd__law_expand, F__law_expand', m__law_expand, k__law_expand⟩ := fn_at X G A__law_expand
  have b__law_expand := F__law_expand'.binds (ps := ["roots"]) fun _ _ _ _ _ _ us hl => match us, hl with | [_], _ => rfl
  obtain ⟨f__law_grid_form, fd__law_grid_form, F__law_grid_form', m__law_grid_form, k__law_grid_form⟩ := fn_at X G A__law_grid_form
  have b__law_grid_form := F__law_grid_form'.binds (ps := ["xs", "ys", "factor"]) fun _ _ _ _ _ _ us hl => match us, hl with | [_, _, _], _ => rfl
  obtain ⟨f__law_formula, fd__law_formula, F__law_formula', m__law_formula, k__law_formula⟩ := fn_at X G A__law_formula
  have b__law_formula := F__law_formula'.binds (ps := ["pool", "forms", "deep"]) fun _ _ _ _ _ _ us hl => match us, hl with | [_, _, _], _ => rfl
  obtain ⟨f__law_grid, fd__law_grid, F__law_grid', m__law_grid, k__law_grid⟩ := fn_at X G A__law_grid
  have b__law_grid := F__law_grid'.binds (ps := ["script", "at", "xmost", "ymost"]) fun _ _ _ _ _ _ us hl => match us, hl with | [_, _, _, _], _ => rfl
  obtain ⟨f__law_refusal, fd__law_refusal, F__law_refusal', m__law_refusal, k__law_refusal⟩ := fn_at X G A__law_refusal
  have b__law_refusal := F__law_refusal'.binds (ps := ["value"]) fun _ _ _ _ _ _ us hl => match us, hl with | [_], _ => rfl
  obtain ⟨f__law_is_form, fd__law_is_form, F__law_is_form', m__law_is_form, k__law_is_form⟩ := fn_at X G A__law_is_form
  have b__law_is_form := F__law_is_form'.binds (ps := ["value"]) fun _ _ _ _ _ _ us hl => match us, hl with | [_], _ => rfl
  obtain ⟨f__law_within, fd__law_within, F__law_within', m__law_within, k__law_within⟩ := fn_at X G A__law_within
  have b__law_within := F__law_within'.binds (ps := ["value"]) fun _ _ _ _ _ _ us hl => match us, hl with | [_], _ => rfl
  obtain ⟨f__law_listed, fd__law_listed, F__law_listed', m__law_listed, k__law_listed⟩ := fn_at X G A__law_listed
  have b__law_listed := F__law_listed'.binds (ps := ["formula"]) fun _ _ _ _ _ _ us hl => match us, hl with | [_], _ => rfl
  obtain ⟨f__law_forms, fd__law_forms, F__law_forms', m__law_forms, k__law_forms⟩ := fn_at X G A__law_forms
  have b__law_forms := F__law_forms'.binds (ps := ["formula"]) fun _ _ _ _ _ _ us hl => match us, hl with | [_], _ => rfl
  obtain ⟨f__law_due, fd__law_due, F__law_due', m__law_due, k__law_due⟩ := fn_at X G A__law_due
  have b__law_due := F__law_due'.binds (ps := ["value"]) fun _ _ _ _ _ _ us hl => match us, hl with | [_], _ => rfl
  obtain ⟨f__law_bent, fd__law_bent, F__law_bent', m__law_bent, k__law_bent⟩ := fn_at X G A__law_bent
  have b__law_bent := F__law_bent'.binds (ps := ["formula", "numbers"]) fun _ _ _ _ _ _ us hl => match us, hl with | [_, _], _ => rfl
  obtain ⟨f_law, fd_law, F_law', m_law, k_law⟩ := fn_at X G A_law
  have b_law := F_law'.binds (ps := ["script"]) fun _ _ _ _ _ _ us hl => match us, hl with | [_], _ => rfl
  have e := hfa.symm.trans m_law
  cases e
  refine ⟨fd_law, fun s v => ?_, fun base _ _ => ?_⟩
  · obtain ⟨oc, od, kV, doc, pm, an, cdv, ct, osl, rfl, _, _⟩ := F_law'.ex
    exact .of_eq rfl
  · have D_is_whole : Dfn P w K mg base 1 "is_whole" (spP K F_is_whole) := ⟨f_is_whole, fd_is_whole, ["value"], ok_is_whole (k := 0) F_is_whole' T , m_is_whole, k_is_whole, b_is_whole⟩
    have D_is_row : Dfn P w K mg base 2 "is_row" (spP K F_is_row) := ⟨f_is_row, fd_is_row, ["value"], ok_is_row (k := 1) F_is_row' T D_is_whole, m_is_row, k_is_row, b_is_row⟩
    have D_is_form : Dfn P w K mg base 3 "is_form" (spP K F_is_form) := ⟨f_is_form, fd_is_form, ["value"], ok_is_form (k := 2) F_is_form' T D_is_row, m_is_form, k_is_form, b_is_form⟩
    have D_is_plain_number : Dfn P w K mg base 1 "is_plain_number" (spP K F_is_plain_number) := ⟨f_is_plain_number, fd_is_plain_number, ["form"], ok_is_plain_number (k := 0) F_is_plain_number' T , m_is_plain_number, k_is_plain_number, b_is_plain_number⟩
    have D_within : Dfn P w K mg base 4 "within" (spP K F_within) := ⟨f_within, fd_within, ["value"], ok_within (k := 3) F_within' T D_is_form, m_within, k_within, b_within⟩
    have D_atoms_of : Dfn P w K mg base 5 "atoms_of" (spP K F_atoms_of) := ⟨f_atoms_of, fd_atoms_of, ["formula"], ok_atoms_of (k := 4) F_atoms_of' T D_within, m_atoms_of, k_atoms_of, b_atoms_of⟩
    have D_forms_of : Dfn P w K mg base 6 "forms_of" (spL K F_forms_of) := ⟨f_forms_of, fd_forms_of, ["formula"], ok_forms_of (k := 5) F_forms_of' T (D_is_plain_number.mono (by decide)) D_atoms_of, m_forms_of, k_forms_of, b_forms_of⟩
    have D_uses_x : Dfn P w K mg base 1 "uses_x" (spP K F_uses_x) := ⟨f_uses_x, fd_uses_x, ["form"], ok_uses_x (k := 0) F_uses_x' T , m_uses_x, k_uses_x, b_uses_x⟩
    have D_uses_y : Dfn P w K mg base 1 "uses_y" (spP K F_uses_y) := ⟨f_uses_y, fd_uses_y, ["form"], ok_uses_y (k := 0) F_uses_y' T , m_uses_y, k_uses_y, b_uses_y⟩
    have D_is_quantifier : Dfn P w K mg base 1 "is_quantifier" (spP K F_is_quantifier) := ⟨f_is_quantifier, fd_is_quantifier, ["value"], ok_is_quantifier (k := 0) F_is_quantifier' T , m_is_quantifier, k_is_quantifier, b_is_quantifier⟩
    have D_are_quantifiers : Dfn P w K mg base 2 "are_quantifiers" (spP K F_are_quantifiers) := ⟨f_are_quantifiers, fd_are_quantifiers, ["value"], ok_are_quantifiers (k := 1) F_are_quantifiers' T D_is_quantifier, m_are_quantifiers, k_are_quantifiers, b_are_quantifiers⟩
    have D_formula_fault : Dfn P w K mg base 5 "formula_fault" (spP K F_formula_fault) := ⟨f_formula_fault, fd_formula_fault, ["value"], ok_formula_fault (k := 4) F_formula_fault' T D_within, m_formula_fault, k_formula_fault, b_formula_fault⟩
    have D_has_free : Dfn P w K mg base 2 "has_free" (spP K F_has_free) := ⟨f_has_free, fd_has_free, ["quantifiers", "forms"], ok_has_free (k := 1) F_has_free' T D_uses_x D_uses_y, m_has_free, k_has_free, b_has_free⟩
    have D_fault_of : Dfn P w K mg base 7 "fault_of" (spP K F_fault_of) := ⟨f_fault_of, fd_fault_of, ["value"], ok_fault_of (k := 6) F_fault_of' T (D_are_quantifiers.mono (by decide)) (D_formula_fault.mono (by decide)) D_forms_of (D_has_free.mono (by decide)), m_fault_of, k_fault_of, b_fault_of⟩
    have O_check := ok_check (k := 7) (base := base) (P := P) (w := w) F_check_sentence' TB ((ok_init (k := 0) FI).mono (by decide)) bI D_fault_of
    have D_is_sentence : Dfn P w K mg base 8 "is_sentence" (spP K F_is_sentence) := ⟨f_is_sentence, fd_is_sentence, ["value"], ok_is_sentence (k := 7) F_is_sentence' T D_fault_of, m_is_sentence, k_is_sentence, b_is_sentence⟩
    have D_forms_in : Dfn P w K mg base 7 "forms_in" (spL K F_forms_in) := ⟨f_forms_in, fd_forms_in, ["sentence"], ok_forms_in (k := 6) F_forms_in' T D_forms_of, m_forms_in, k_forms_in, b_forms_in⟩
    have D__law_numbers : Dfn P w K mg base 1 "_law_numbers" (spP K F__law_numbers) := ⟨f__law_numbers, fd__law_numbers, ["script", "at", "many"], ok__law_numbers (k := 0) F__law_numbers' T , m__law_numbers, k__law_numbers, b__law_numbers⟩
    have D__law_is_integer : Dfn P w K mg base 1 "_law_is_integer" (spP K F__law_is_integer) := ⟨f__law_is_integer, fd__law_is_integer, ["value"], ok__law_is_integer (k := 0) F__law_is_integer' T , m__law_is_integer, k__law_is_integer, b__law_is_integer⟩
    have D__law_copied : Dfn P w K mg base 80 "_law_copied" (spP K (F__law_copied 80)) := rec__law_copied F__law_copied' T b__law_copied m__law_copied k__law_copied  80
    have D__law_pop : Dfn P w K mg base 1 "_law_pop" (spO K F__law_pop) := ⟨f__law_pop, fd__law_pop, ["pool"], ok__law_pop (k := 0) F__law_pop' T , m__law_pop, k__law_pop, b__law_pop⟩
    have D__law_expand : Dfn P w K mg base 1 "_law_expand" (spP K F__law_expand) := ⟨f__law_expand, fd__law_expand, ["roots"], ok__law_expand (k := 0) F__law_expand' T , m__law_expand, k__law_expand, b__law_expand⟩
    have D__law_grid_form : Dfn P w K mg base 2 "_law_grid_form" (spP K F__law_grid_form) := ⟨f__law_grid_form, fd__law_grid_form, ["xs", "ys", "factor"], ok__law_grid_form (k := 1) F__law_grid_form' T D__law_expand, m__law_grid_form, k__law_grid_form, b__law_grid_form⟩
    have D__law_formula : Dfn P w K mg base 11 "_law_formula" (spO K (F__law_formula 10)) := rec__law_formula F__law_formula' T b__law_formula m__law_formula k__law_formula D__law_pop 10
    have D__law_grid : Dfn P w K mg base 2 "_law_grid" (spP K F__law_grid) := ⟨f__law_grid, fd__law_grid, ["script", "at", "xmost", "ymost"], ok__law_grid (k := 1) F__law_grid' T D__law_numbers, m__law_grid, k__law_grid, b__law_grid⟩
    have D__law_refusal : Dfn P w K mg base 10 "_law_refusal" (spP K F__law_refusal) := ⟨f__law_refusal, fd__law_refusal, ["value"], ok__law_refusal F__law_refusal' T TB O_check b_check_sentence m_check_sentence k_check_sentence, m__law_refusal, k__law_refusal, b__law_refusal⟩
    have D__law_is_form : Dfn P w K mg base 2 "_law_is_form" (spP K F__law_is_form) := ⟨f__law_is_form, fd__law_is_form, ["value"], ok__law_is_form (k := 1) F__law_is_form' T D__law_is_integer, m__law_is_form, k__law_is_form, b__law_is_form⟩
    have D__law_within : Dfn P w K mg base 3 "_law_within" (spP K F__law_within) := ⟨f__law_within, fd__law_within, ["value"], ok__law_within (k := 2) F__law_within' T D__law_is_form, m__law_within, k__law_within, b__law_within⟩
    have D__law_listed : Dfn P w K mg base 43 "_law_listed" (spP K (F__law_listed 40)) := rec__law_listed F__law_listed' T b__law_listed m__law_listed k__law_listed D__law_within 40
    have D__law_forms : Dfn P w K mg base 44 "_law_forms" (spP K F__law_forms) := ⟨f__law_forms, fd__law_forms, ["formula"], ok__law_forms (k := 43) F__law_forms' T D__law_listed, m__law_forms, k__law_forms, b__law_forms⟩
    have D__law_due : Dfn P w K mg base 45 "_law_due" (spP K F__law_due) := ⟨f__law_due, fd__law_due, ["value"], ok__law_due (k := 44) F__law_due' T (D__law_within.mono (by decide)) D__law_forms, m__law_due, k__law_due, b__law_due⟩
    have D__law_bent : Dfn P w K mg base 23 "_law_bent" (spP K (F__law_bent 20)) := rec__law_bent F__law_bent' T b__law_bent m__law_bent k__law_bent D__law_within 20
    exact ok_law (k := 80) F_law' T (D__law_numbers.mono (by decide)) (D__law_grid.mono (by decide)) (D__law_grid_form.mono (by decide)) (D__law_formula.mono (by decide)) (D__law_bent.mono (by decide)) (D__law_due.mono (by decide)) (D_is_sentence.mono (by decide)) D__law_copied (D__law_refusal.mono (by decide)) (D_forms_in.mono (by decide)) (D__law_forms.mono (by decide))
theorem fnAt_mk {K : PySem.W.Frag} {x : Str} {st : Stmt} {f : Addr} {oc : Value} {od : Option Addr} {kV doc pm : Value} {an : Option Addr} {cdv ct : Value} {osl : Array (Option Value)} (h1 : PySem.W.nsIn K mainGlobals x = some (some (.ref f))) (h2 : K.lookup f = some ⟨oc, od, .func (PySem.W.fnOf x x (defArgs st) (defBody st) (defScope st) .none kV doc pm an cdv ct), osl⟩) (h3 : PySem.W.codeIn K cdv x = true) (h4 : PySem.W.keepIn K (.ref f) = true) : FnAt K x st := ⟨_, _, _, _, _, _, _, _, _, _, h1, h2, h3, h4⟩
theorem strAt_mk {K : PySem.W.Frag} {x z : Str} {t : Tok} (h : PySem.W.nsIn K mainGlobals x = some (some (.str z t))) : StrAt K x z := ⟨t, h⟩
theorem intAt_mk {K : PySem.W.Frag} {x : Str} {i : Int} {t : Tok} (h : PySem.W.nsIn K mainGlobals x = some (some (.int i t))) : IntAt K x i := ⟨t, h⟩
theorem relAt_mk {K : PySem.W.Frag} {f : Addr} {od : Option Addr} {n : Nat} {sl : Array (Option Value)} {t1 t2 t3 t4 t5 t6 : Tok} (h1 : PySem.W.nsIn K mainGlobals "RELATIONS" = some (some (.ref f))) (h2 : K.lookup f = some ⟨.type "tuple", od, .seq #[.str "=" t1, .str "<" t2, .str ">" t3, .str "<=" t4, .str ">=" t5, .str "!=" t6] n, sl⟩) : RelAt K := ⟨f, od, n, sl, t1, t2, t3, t4, t5, t6, h1, h2⟩
theorem initAt_mk {K : PySem.W.Frag} {fI : Addr} {oc : Value} {od : Option Addr} {kV doc pm : Value} {an : Option Addr} {cdv ct : Value} {osl : Array (Option Value)} (h2 : K.lookup fI = some ⟨oc, od, .func (PySem.W.fnOf "__init__" "BadTree.__init__" (defArgs s_init) (defBody s_init) (defScope s_init) .none kV doc pm an cdv ct), osl⟩) (h3 : PySem.W.codeIn K cdv "BadTree.__init__" = true) (h4 : PySem.W.keepIn K (.ref fI) = true) : InitAt K fI := ⟨_, _, _, _, _, _, _, _, _, h2, h3, h4⟩
theorem bad_mk {K : PySem.W.Frag} {mg : Str → Option Value} {C fI D R : Addr} {nm q : Str} {N : Addr} {bs : List Value} {sn : List Str} {sub : List Value} {ab : Bool} {col : Option Bool} {dd : Option Addr} {k0 k1 k2 k3 k5 : Option Value}
    (xL : K.lookup C = some (excClassObj nm q C N bs [.ref R, .type "ValueError", .type "Exception", .type "BaseException", .type "object"] true sn sub ab col dd k0 k1 k2 k3 k5 "ValueError.__new__"))
    (sa : PySem.W.findIn K (.ref C) "__setattr__" = some (some (.builtin "object.__setattr__"))) (exC : PySem.W.subIn K (.ref C) (.type "BaseException") = some true) (tyC : PySem.W.typeIn K (.ref C) = some (.type "type")) (kC : PySem.W.keepIn K (.ref C) = true)
    (noN : PySem.W.findIn K (.ref C) "reason" = some none) (iC : PySem.W.findIn K (.ref C) "__init__" = some (some (.ref fI))) (tI : PySem.W.typeIn K (.ref fI) = some (.type "function")) (ga : PySem.W.findIn K (.ref C) "__getattribute__" = some (some (.builtin "BaseException.__getattribute__"))) (gg : PySem.W.findIn K (.ref C) "__getattr__" = some none)
    (hd : PySem.W.hasDictIn K C = true) (iC2 : PySem.W.isClsIn K C = true) (sC : PySem.W.subIn K (.ref C) (.ref C) = some true) (ca : PySem.W.findIn K (.ref C) "__class__" = some (some (.builtin "object.__class__"))) (cg : PySem.W.specialIn K (.builtin "object.__class__") "__get__" = some (some (.builtin "getset_descriptor.__get__")))
    (ct : PySem.W.takesIn K (.builtin "object.__class__") = some true) (mo : PySem.W.mroIn K C (.type "object") = some true) (no : PySem.W.kitOne K (.ref C) (.ref D) = some false) (gC : mg "BadTree" = some (.ref C)) (gD : mg "BadSystem" = some (.ref D)) : BadTxt K mg C fI D := by
  refine { gC := gC, gD := gD, ox := { cls := ⟨nm, q, N, bs, _, sn, sub, ab, col, dd, k0, k1, k2, k3, k5, xL, ?_⟩, sa := sa, exC := exC, tyC := tyC, kC := kC }, noN := noN, iC := iC, tI := tI, ga := ga, gg := gg, hd := hd, cl := iC2, ca := ca, cg := cg, ct := ct, mo := mo, te := ?_, no := no }
  · rfl
  · have e1 : (PySem.W.subIn K (.ref C) (.type "BaseException") == some true) = true := by rw [exC] <;> rfl
    have e2 : ((PySem.W.clsIn K C).isSome && PySem.W.typeIn K (.ref C) == some (.type "type")) = true := by
      have h2' : (PySem.W.clsIn K C).isSome = true := iC2
      rw [h2', tyC] <;> rfl
    show (if (PySem.W.subIn K (.ref C) (.type "BaseException") == some true) = true then (if ((PySem.W.clsIn K C).isSome && PySem.W.typeIn K (.ref C) == some (.type "type")) = true then PySem.W.subIn K (.ref C) (.ref C) else none) else none) = some true
    rw [if_pos e1, if_pos e2]
    exact sC
end K77

set_option pp.maxSteps 60
set_option pp.deepTerms false
set_option Elab.async false
set_option linter.all false
set_option maxRecDepth 100000
set_option maxHeartbeats 4000000
namespace K77
open PySem L2 PyProof.Rows DL
theorem walk {l : PySem.W.OpenLaw} {q : Program} {loose : List Str} {XP : (Str → Option Value) → Heap → Prop} {YP : World → Heap → Prop} {d : DefRec} {K : Params → PySem.W.Frag} (hn : l.most = some 63) (hdf : d.params.defaults = [])
    (hY : ∀ (w : World) (h : Heap), YP w h → (K w.params).In h)
    (F : ∀ (w : World) (mg : Str → Option Value) (fa : Addr) (h : Heap), (K w.params).In h → h.Ns mainGlobals mg → mg d.name = some (.ref fa) →
      ∃ fd : FuncData, (∀ (s : Shared) (u : Value), BindsTo s fd ⟨[u], []⟩ [("script", u)]) ∧ ∀ base : Heap, (K w.params).In base → base.Ns mainGlobals mg → FnOk l.prog w (K w.params) mg base CX0 81 fa fd ["script"] (spP (K w.params) F_law)) :
    PySem.W.WalkO q loose XP YP l.row.toRowW d [] (fun f vs => PySem.call f vs) :=
  L2.walk_of (n := 63) (k := 81) (x := "script") (CX := fun _ => CX0) (sp := fun w => spP (K w.params) F_law) hn (by decide) hdf ⟨rfl, by decide, by decide⟩ hY F
    (fun _ H a ns hl _ hS => ⟨H, _, _, Evl.Ex.refl _, .cons (.lst hS (dps_ints ns)) .nil, law_true ns, fun v B' H' _ h => by cases h; rfl⟩) fun _ _ _ _ _ z => z
end K77
open PySem PySem.W PyProof.Rows
set_option maxRecDepth 100000 in
set_option maxHeartbeats 0 in
theorem PySem.Challenge.cw_rootsreckon_k77_sentences_checked_holds : PySem.Challenge.rw_rootsreckon_k77_sentences_checked.Holds := by
  w_on; o_law; k_head; (case hw => w_witness2)
  k_fill
  refine K77.walk (l := PySem.Challenge.rw_rootsreckon_k77_sentences_checked) rfl rfl (fun w h Y => PySem.W.kIn_of Y) ?F
  case F =>
    intro w mg fa h KX G hmg
    refine' K77.all_mk KX G hmg ?A_is_whole ?A_is_row ?A_is_form ?A_is_plain_number ?A_within ?A_atoms_of ?A_forms_of ?A_uses_x ?A_uses_y ?A_is_quantifier ?A_are_quantifiers ?A_formula_fault ?A_has_free ?A_fault_of ?A_check_sentence ?A_is_sentence ?A_forms_in ?A__law_numbers ?A__law_is_integer ?A__law_copied ?A__law_pop ?A__law_expand ?A__law_grid_form ?A__law_formula ?A__law_grid ?A__law_refusal ?A__law_is_form ?A__law_within ?A__law_listed ?A__law_forms ?A__law_due ?A__law_bent ?A_law ?Z_abs ?Z_all ?Z_any ?Z_bool ?Z_int ?Z_isinstance ?Z_len ?Z_list ?Z_range ?Z_str ?Z_tuple ?I_MOST_DEGREE ?I_MOST_COEFFICIENT ?I_MOST_PARTS ?I_MOST_DEEP ?I_MOST_FORMS ?S_IS ?S_SOME ?S_ALL ?S_FORM ?S_FREE ?S_LARGE ?R_RELATIONS ?gC ?gD ?AI ?T0
    (case gC => k_is); (case gD => k_is)
    case T0 =>
      refine' K77.bad_mk ?xL ?sa ?exC ?tyC ?kC ?noN ?iC ?tI ?ga ?gg ?hd ?iC2 ?sC ?ca ?cg ?ct ?mo ?no
      (case xL => k_is); (case sa => k_is); (case exC => k_is); (case tyC => k_is); (case kC => k_is); (case noN => k_is); (case iC => k_is); (case tI => k_is); (case ga => k_is); (case gg => k_is); (case hd => k_is); (case iC2 => k_is); (case sC => k_is); (case ca => k_is); (case cg => k_is); (case ct => k_is); (case mo => k_is); (case no => first | kit_is | (unfold PySem.W.kitOne; k_is))
    case AI =>
      refine' K77.initAt_mk ?l ?c ?k
      (case l => k_is); (case c => k_is); (case k => k_is)
    case A_is_whole =>
      refine' K77.fnAt_mk ?a ?l ?c ?k
      (case a => k_is); (case l => k_is); (case c => k_is); (case k => k_is)
    case A_is_row =>
      refine' K77.fnAt_mk ?a ?l ?c ?k
      (case a => k_is); (case l => k_is); (case c => k_is); (case k => k_is)
    case A_is_form =>
      refine' K77.fnAt_mk ?a ?l ?c ?k
      (case a => k_is); (case l => k_is); (case c => k_is); (case k => k_is)
    case A_is_plain_number =>
      refine' K77.fnAt_mk ?a ?l ?c ?k
      (case a => k_is); (case l => k_is); (case c => k_is); (case k => k_is)
    case A_within =>
      refine' K77.fnAt_mk ?a ?l ?c ?k
      (case a => k_is); (case l => k_is); (case c => k_is); (case k => k_is)
    case A_atoms_of =>
      refine' K77.fnAt_mk ?a ?l ?c ?k
      (case a => k_is); (case l => k_is); (case c => k_is); (case k => k_is)
    case A_forms_of =>
      refine' K77.fnAt_mk ?a ?l ?c ?k
      (case a => k_is); (case l => k_is); (case c => k_is); (case k => k_is)
    case A_uses_x =>
      refine' K77.fnAt_mk ?a ?l ?c ?k
      (case a => k_is); (case l => k_is); (case c => k_is); (case k => k_is)
    case A_uses_y =>
      refine' K77.fnAt_mk ?a ?l ?c ?k
      (case a => k_is); (case l => k_is); (case c => k_is); (case k => k_is)
    case A_is_quantifier =>
      refine' K77.fnAt_mk ?a ?l ?c ?k
      (case a => k_is); (case l => k_is); (case c => k_is); (case k => k_is)
    case A_are_quantifiers =>
      refine' K77.fnAt_mk ?a ?l ?c ?k
      (case a => k_is); (case l => k_is); (case c => k_is); (case k => k_is)
    case A_formula_fault =>
      refine' K77.fnAt_mk ?a ?l ?c ?k
      (case a => k_is); (case l => k_is); (case c => k_is); (case k => k_is)
    case A_has_free =>
      refine' K77.fnAt_mk ?a ?l ?c ?k
      (case a => k_is); (case l => k_is); (case c => k_is); (case k => k_is)
    case A_fault_of =>
      refine' K77.fnAt_mk ?a ?l ?c ?k
      (case a => k_is); (case l => k_is); (case c => k_is); (case k => k_is)
    case A_check_sentence =>
      refine' K77.fnAt_mk ?a ?l ?c ?k
      (case a => k_is); (case l => k_is); (case c => k_is); (case k => k_is)
    case A_is_sentence =>
      refine' K77.fnAt_mk ?a ?l ?c ?k
      (case a => k_is); (case l => k_is); (case c => k_is); (case k => k_is)
    case A_forms_in =>
      refine' K77.fnAt_mk ?a ?l ?c ?k
      (case a => k_is); (case l => k_is); (case c => k_is); (case k => k_is)
    case A__law_numbers =>
      refine' K77.fnAt_mk ?a ?l ?c ?k
      (case a => k_is); (case l => k_is); (case c => k_is); (case k => k_is)
    case A__law_is_integer =>
      refine' K77.fnAt_mk ?a ?l ?c ?k
      (case a => k_is); (case l => k_is); (case c => k_is); (case k => k_is)
    case A__law_copied =>
      refine' K77.fnAt_mk ?a ?l ?c ?k
      (case a => k_is); (case l => k_is); (case c => k_is); (case k => k_is)
    case A__law_pop =>
      refine' K77.fnAt_mk ?a ?l ?c ?k
      (case a => k_is); (case l => k_is); (case c => k_is); (case k => k_is)
    case A__law_expand =>
      refine' K77.fnAt_mk ?a ?l ?c ?k
      (case a => k_is); (case l => k_is); (case c => k_is); (case k => k_is)
    case A__law_grid_form =>
      refine' K77.fnAt_mk ?a ?l ?c ?k
      (case a => k_is); (case l => k_is); (case c => k_is); (case k => k_is)
    case A__law_formula =>
      refine' K77.fnAt_mk ?a ?l ?c ?k
      (case a => k_is); (case l => k_is); (case c => k_is); (case k => k_is)
    case A__law_grid =>
      refine' K77.fnAt_mk ?a ?l ?c ?k
      (case a => k_is); (case l => k_is); (case c => k_is); (case k => k_is)
    case A__law_refusal =>
      refine' K77.fnAt_mk ?a ?l ?c ?k
      (case a => k_is); (case l => k_is); (case c => k_is); (case k => k_is)
    case A__law_is_form =>
      refine' K77.fnAt_mk ?a ?l ?c ?k
      (case a => k_is); (case l => k_is); (case c => k_is); (case k => k_is)
    case A__law_within =>
      refine' K77.fnAt_mk ?a ?l ?c ?k
      (case a => k_is); (case l => k_is); (case c => k_is); (case k => k_is)
    case A__law_listed =>
      refine' K77.fnAt_mk ?a ?l ?c ?k
      (case a => k_is); (case l => k_is); (case c => k_is); (case k => k_is)
    case A__law_forms =>
      refine' K77.fnAt_mk ?a ?l ?c ?k
      (case a => k_is); (case l => k_is); (case c => k_is); (case k => k_is)
    case A__law_due =>
      refine' K77.fnAt_mk ?a ?l ?c ?k
      (case a => k_is); (case l => k_is); (case c => k_is); (case k => k_is)
    case A__law_bent =>
      refine' K77.fnAt_mk ?a ?l ?c ?k
      (case a => k_is); (case l => k_is); (case c => k_is); (case k => k_is)
    case A_law =>
      refine' K77.fnAt_mk ?a ?l ?c ?k
      (case a => k_is); (case l => k_is); (case c => k_is); (case k => k_is)
    (case Z_abs => k_is)
    (case Z_all => k_is)
    (case Z_any => k_is)
    (case Z_bool => k_is)
    (case Z_int => k_is)
    (case Z_isinstance => k_is)
    (case Z_len => k_is)
    (case Z_list => k_is)
    (case Z_range => k_is)
    (case Z_str => k_is)
    (case Z_tuple => k_is)
    case I_MOST_DEGREE =>
      refine' K77.intAt_mk ?a
      (case a => k_is)
    case I_MOST_COEFFICIENT =>
      refine' K77.intAt_mk ?a
      (case a => k_is)
    case I_MOST_PARTS =>
      refine' K77.intAt_mk ?a
      (case a => k_is)
    case I_MOST_DEEP =>
      refine' K77.intAt_mk ?a
      (case a => k_is)
    case I_MOST_FORMS =>
      refine' K77.intAt_mk ?a
      (case a => k_is)
    case S_IS =>
      refine' K77.strAt_mk ?a
      (case a => k_is)
    case S_SOME =>
      refine' K77.strAt_mk ?a
      (case a => k_is)
    case S_ALL =>
      refine' K77.strAt_mk ?a
      (case a => k_is)
    case S_FORM =>
      refine' K77.strAt_mk ?a
      (case a => k_is)
    case S_FREE =>
      refine' K77.strAt_mk ?a
      (case a => k_is)
    case S_LARGE =>
      refine' K77.strAt_mk ?a
      (case a => k_is)
    case R_RELATIONS =>
      refine' K77.relAt_mk ?a ?l
      (case a => k_is); (case l => k_is)
#print axioms PySem.Challenge.cw_rootsreckon_k77_sentences_checked_holds

