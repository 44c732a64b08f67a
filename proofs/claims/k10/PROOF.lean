import PyProof.Rows.All
import Wide.All
import OpenK.AllK
import Wide.FinOn
import HandS.ForMost
import HandS.ForExc
import HandS.CallSlots
import HandS.ExcInit
import HandS.IsInst
import HandS.SortInts
import HandS.Wide
import HandS.Flow
import HandS.Zip
import HandS.Defaults
import HandS.TupAny
import HandS.RaiseMore
import HandS.WideBits
import PyProof.SumAny
import KE.KExcIs
import HandS.ExcIs
import HandS.Deep
import HandS.SetKeys
import HandS.SetFor
import HandS.Strs
import HandS.ListItems
import HandS.SortRule
import HandS.Dict
import HandS.More
import HandS.Style
import HandS.Comp
import HandS.Iter
import HandS.DictComp
import HandS.Sort
import PyProof.ListRange
import PyProof.RangeFor
import PySem.Challenge.RW_mergeunits_k10_quotients
set_option Elab.async false
set_option linter.all false
section DLsec_0
set_option maxRecDepth 100000
/-! The data layer: Python values as plain data, owned lists as numbered cells. -/
namespace DL
open PySem PySem.Spec PyProof.Rows L2

abbrev D := PyData
abbrev St := L2.St
def kD : Key → D
  | .inl i => .int i
  | .inr x => .str x

mutual
/-- v stands for the data d, by what the heap H tells -/
inductive Dq (H : Hp) : V → D → Prop
  | non : Dq H .non .none
  | bl (b : Bool) : Dq H (.bl b) (.bool b)
  | int (i : Int) : Dq H (.int i) (.int i)
  | str (x : Str) : Dq H (.str x) (.str x)
  | lst {a : Addr} {xs : List V} {ds : List D} : H a = some (.lst xs) → DqA H xs ds → Dq H (.ref a) (.list ds)
  | tup {a : Addr} {xs : List V} {ds : List D} : H a = some (.tup xs) → DqA H xs ds → Dq H (.ref a) (.tuple ds)
  | dct {a : Addr} {o : Obj} {kvs : List (Key × V)} {ds : List (D × D)} : H a = some (.frz o (.dK kvs)) → DqM H kvs ds → Dq H (.ref a) (.dict ds)
inductive DqA (H : Hp) : List V → List D → Prop
  | nil : DqA H [] []
  | cons {v : V} {vs : List V} {d : D} {ds : List D} : Dq H v d → DqA H vs ds → DqA H (v :: vs) (d :: ds)
inductive DqM (H : Hp) : List (Key × V) → List (D × D) → Prop
  | nil : DqM H [] []
  | cons {k : Key} {v : V} {kvs : List (Key × V)} {d : D} {ds : List (D × D)} : Dq H v d → DqM H kvs ds → DqM H ((k, v) :: kvs) ((kD k, d) :: ds)
end

mutual
theorem Dq.mono {H H' : Hp} (e : Same H H') : ∀ {v : V} {d : D}, Dq H v d → Dq H' v d
  | _, _, .non => .non
  | _, _, .bl b => .bl b
  | _, _, .int i => .int i
  | _, _, .str x => .str x
  | _, _, .lst h r => .lst (e _ _ h) (DqA.mono e r)
  | _, _, .tup h r => .tup (e _ _ h) (DqA.mono e r)
  | _, _, .dct h r => .dct (e _ _ h) (DqM.mono e r)
theorem DqA.mono {H H' : Hp} (e : Same H H') : ∀ {v : List V} {d : List D}, DqA H v d → DqA H' v d
  | _, _, .nil => .nil
  | _, _, .cons h r => .cons (Dq.mono e h) (DqA.mono e r)
theorem DqM.mono {H H' : Hp} (e : Same H H') : ∀ {v : List (Key × V)} {d : List (D × D)}, DqM H v d → DqM H' v d
  | _, _, .nil => .nil
  | _, _, .cons h r => .cons (Dq.mono e h) (DqM.mono e r)
end
theorem DqA.length {H : Hp} : ∀ {v : List V} {d : List D}, DqA H v d → v.length = d.length
  | _, _, .nil => rfl
  | _, _, .cons _ r => congrArg (· + 1) (DqA.length r)
theorem DqA.get {H : Hp} : ∀ {v : List V} {d : List D} {i : Nat} {x : D}, DqA H v d → d[i]? = some x → ∃ y, v[i]? = some y ∧ Dq H y x
  | _, _, _, _, .nil, e => by simp at e
  | _, _, 0, _, .cons h _, e => by simp at e; subst e; exact ⟨_, rfl, h⟩
  | _, _, i + 1, x, .cons _ r, e => by
    obtain ⟨y, a, b⟩ := DqA.get (i := i) (x := x) r (by simpa using e)
    exact ⟨y, by simpa using a, b⟩
theorem DqA.append {H : Hp} : ∀ {v v' : List V} {d d' : List D}, DqA H v d → DqA H v' d' → DqA H (v ++ v') (d ++ d')
  | _, _, _, _, .nil, s => s
  | _, _, _, _, .cons h r, s => .cons h (DqA.append r s)
theorem DqA.take {H : Hp} : ∀ {v : List V} {d : List D} (n : Nat), DqA H v d → DqA H (v.take n) (d.take n)
  | _, _, 0, _ => .nil
  | _, _, _ + 1, .nil => .nil
  | _, _, n + 1, .cons h r => .cons h (DqA.take n r)
theorem DqA.drop {H : Hp} : ∀ {v : List V} {d : List D} (n : Nat), DqA H v d → DqA H (v.drop n) (d.drop n)
  | _, _, 0, r => r
  | _, _, _ + 1, .nil => .nil
  | _, _, n + 1, .cons _ r => DqA.drop n r
theorem DqA.set {H : Hp} {y : V} {x : D} (q : Dq H y x) : ∀ {v : List V} {d : List D} (n : Nat), DqA H v d → DqA H (v.set n y) (d.set n x)
  | _, _, _, .nil => .nil
  | _, _, 0, .cons _ r => .cons q r
  | _, _, n + 1, .cons h r => .cons h (DqA.set q n r)
theorem DqA.erase {H : Hp} : ∀ {v : List V} {d : List D} (n : Nat), DqA H v d → DqA H (v.eraseIdx n) (d.eraseIdx n)
  | _, _, _, .nil => .nil
  | _, _, 0, .cons _ r => r
  | _, _, n + 1, .cons h r => .cons h (DqA.erase n r)
theorem DqA.ints {H : Hp} : ∀ (ns : List Int), DqA H (ns.map V.int) (ns.map PyData.int)
  | [] => .nil
  | n :: ns => .cons (.int n) (DqA.ints ns)
theorem DqA.ints_inv {H : Hp} : ∀ {ns : List Int} {v : List V}, DqA H v (ns.map PyData.int) → v = ns.map V.int
  | [], _, .nil => rfl
  | n :: ns, _, .cons h r => by
    cases h
    rw [DqA.ints_inv r]
    rfl

/-! ### the state -/
inductive Vl where
  | d (x : D)
  | c (j : Nat)
structure Ex where
  cls : Str
  arg : Option (Str × D)
inductive Ce where
  | l (xs : List D)
  | f (xs : List D)
  | m (kvs : List (Key × D))
  | g
  | x (e : Ex)
  | v (xs : List Vl)
  | w (kvs : List (Key × Vl))
  | t (xs : List Vl)
def Ce.alive : Ce → Bool
  | .l _ => true
  | .m _ => true
  | .v _ => true
  | .w _ => true
  | _ => false
/-- cells that name cells do not outlive a cut -/
def kl : Ce → Ce
  | .v _ => .g
  | .w _ => .g
  | .t _ => .g
  | c => c
def cutC (n : Nat) (ce : List Ce) : List Ce := (ce.take n).map kl
theorem cutC_get {n : Nat} {ce : List Ce} {j : Nat} {c : Ce} (h : (cutC n ce)[j]? = some c) : j < n ∧ ∃ c0, ce[j]? = some c0 ∧ c = kl c0 := by
  unfold cutC at h
  rw [List.getElem?_map, List.getElem?_take] at h
  split at h
  · rename_i hj
    cases hc : ce[j]? with
    | none => rw [hc] at h; cases h
    | some c0 => rw [hc] at h; cases h; exact ⟨hj, c0, rfl, rfl⟩
  · cases h
theorem cutC_len {n : Nat} {ce : List Ce} : (cutC n ce).length = min n ce.length := by simp [cutC]
theorem kl_alive {c : Ce} (h : (kl c).alive = true) : c.alive = true := by cases c <;> first | rfl | cases h
structure S where
  sl : List (Option Vl)
  ce : List Ce
inductive R (α : Type) where
  | ok (a : α) (s : S)
  | ex (e : Ex) (s : S)
  | no
abbrev M (α : Type) := S → R α
def ret {α : Type} (a : α) : M α := fun s => .ok a s
def bnd {α β : Type} (m : M α) (k : α → M β) : M β := fun s => match m s with
  | .ok a s' => k a s'
  | .ex e s' => .ex e s'
  | .no => .no
def stuck {α : Type} : M α := fun _ => .no
def wpR {α : Type} (r : R α) (P : α → S → Prop) (E : Ex → S → Prop) : Prop := match r with
  | .ok a s => P a s
  | .ex e s => E e s
  | .no => False
theorem wp_bnd {α β : Type} {m : M α} {k : α → M β} {s : S} {P : β → S → Prop} {E : Ex → S → Prop} (h : wpR (bnd m k s) P E) : wpR (m s) (fun a s' => wpR (k a s') P E) E := by
  unfold bnd at h
  cases e : m s with
  | ok a s' => rw [e] at h; exact h
  | ex x s' => rw [e] at h; exact h
  | no => rw [e] at h; exact h
theorem wp_mono {α : Type} {r : R α} {P P' : α → S → Prop} {E E' : Ex → S → Prop} (h : wpR r P E) (hp : ∀ a s, P a s → P' a s) (he : ∀ e s, E e s → E' e s) : wpR r P' E' := by
  cases r with
  | ok a s => exact hp _ _ h
  | ex e s => exact he _ _ h
  | no => exact h

/-! ### the state is borne by the heap -/
/-- the entry's heap, the cells that it handed in, the dicts that are walked -/
structure Bd (mg : Str → Option Value) where
  H0 : Hp
  Hi0 : Hp
  A0 : List Addr
  lk0 : List Addr
  lk1 : List Addr
def HL (lk : List Addr) (H : Hp) (b : Addr) (o : HO) : Prop := if b ∈ lk then ∃ ob, H b = some (.frz ob o) else H b = some o
inductive RelVl (Hi : Hp) (as : List Addr) : V → Vl → Prop
  | d {v : V} {x : D} : Dq Hi v x → RelVl Hi as v (.d x)
  | c {a : Addr} {j : Nat} : as[j]? = some a → RelVl Hi as (.ref a) (.c j)
inductive DqK (H : Hp) : List (Key × V) → List (Key × D) → Prop
  | nil : DqK H [] []
  | cons {k : Key} {v : V} {kvs : List (Key × V)} {d : D} {ds : List (Key × D)} : Dq H v d → DqK H kvs ds → DqK H ((k, v) :: kvs) ((k, d) :: ds)
theorem DqK.mono {H H' : Hp} (e : Same H H') : ∀ {v : List (Key × V)} {d : List (Key × D)}, DqK H v d → DqK H' v d
  | _, _, .nil => .nil
  | _, _, .cons h r => .cons (h.mono e) (DqK.mono e r)
theorem DqK.toM {H : Hp} : ∀ {v : List (Key × V)} {d : List (Key × D)}, DqK H v d → DqM H v (d.map fun p => (kD p.1, p.2))
  | _, _, .nil => .nil
  | _, _, .cons h r => .cons h (DqK.toM r)
/-- what is told of an exception that is kept -/
def exK (a : Addr) (cls : Value) (d : Option Addr) : HO := .ext fun h => ∃ (o : Obj) (vs : Array Value), h.get? a = some o ∧ o.cls = cls ∧ o.dict = d ∧ o.data = .fields vs
def ExR (mg : Str → Option Value) (Hi : Hp) (e : Ex) (cls : Value) (d : Option Addr) : Prop :=
  mg e.cls = some cls ∧ match e.arg with
    | none => d = none
    | some (f, x) => ∃ da v, d = some da ∧ Hi da = some (.xd [(f, v)]) ∧ Dq Hi v x
theorem ExR.mono {mg : Str → Option Value} {Hi Hi' : Hp} {e : Ex} {cls : Value} {d : Option Addr} (h : ExR mg Hi e cls d) (s : Same Hi Hi') : ExR mg Hi' e cls d := by
  obtain ⟨c, a⟩ := e
  obtain ⟨h1, h2⟩ := h
  refine ⟨h1, ?_⟩
  cases a with
  | none => exact h2
  | some p =>
    obtain ⟨da, v, q1, q2, q3⟩ := h2
    exact ⟨da, v, q1, s _ _ q2, q3.mono s⟩
def PairK (Hi : Hp) (as : List Addr) (p : Key × V) (q : Key × Vl) : Prop := p.1 = q.1 ∧ RelVl Hi as p.2 q.2
def RelCe (mg : Str → Option Value) (H Hi : Hp) (as : List Addr) (a : Addr) : Ce → Prop
  | .l xs => Hi a = none ∧ ∃ vs, H a = some (.lst vs) ∧ DqA Hi vs xs
  | .f xs => ∃ vs, Hi a = some (.lst vs) ∧ DqA Hi vs xs
  | .m kvs => Hi a = none ∧ ∃ vs, H a = some (.dK vs) ∧ DqK Hi vs kvs
  | .g => True
  | .x e => ∃ cls d, Hi a = some (exK a cls d) ∧ ExR mg Hi e cls d
  | .v xs => Hi a = none ∧ ∃ vs, H a = some (.lst vs) ∧ Paired (RelVl Hi as) vs xs
  | .w kvs => Hi a = none ∧ ∃ vs, H a = some (.dK vs) ∧ Paired (PairK Hi as) vs kvs
  | .t xs => ∃ vs, Hi a = some (.tup vs) ∧ Paired (RelVl Hi as) vs xs
structure Rep {mg : Str → Option Value} (B : Bd mg) (σ : St) (H Hi : Hp) (as : List Addr) (s : S) : Prop where
  sub : ∀ b o, Hi b = some o → HL (B.lk0 ++ B.lk1) H b o
  lkd : ∀ b ∈ B.lk0 ++ B.lk1, ∃ kvs, Hi b = some (.dK kvs)
  fr : ∀ b o, B.H0 b = some o → b ∉ B.A0 → HL B.lk1 H b o
  hin : ∀ b o, Hi b = some o → B.Hi0 b = some o ∨ B.H0 b = none ∨ b ∈ B.A0
  new : ∀ (j : Nat) (a : Addr) (c : Ce), as[j]? = some a → s.ce[j]? = some c → c.alive = true → a ∈ B.A0 ∨ B.H0 a = none
  len : σ.length = s.sl.length
  slo : ∀ (i : Nat) (x : Vl), s.sl[i]? = some (some x) → ∃ v, σ[i]? = some (some v) ∧ RelVl Hi as v x
  lea : as.length = s.ce.length
  cel : ∀ (j : Nat) (a : Addr) (c : Ce), as[j]? = some a → s.ce[j]? = some c → RelCe mg H Hi as a c
  inj : ∀ (i j : Nat) (a : Addr) (c c' : Ce), as[i]? = some a → as[j]? = some a → s.ce[i]? = some c → s.ce[j]? = some c' → c.alive = true → c'.alive = true → i = j

theorem HL.of_notin {lk : List Addr} {H : Hp} {b : Addr} {o : HO} (h : HL lk H b o) (n : b ∉ lk) : H b = some o := by
  unfold HL at h
  rw [if_neg n] at h
  exact h
theorem HL.some {lk : List Addr} {H : Hp} {b : Addr} {o : HO} (h : HL lk H b o) : ∃ u, H b = some u := by
  unfold HL at h
  split at h
  · obtain ⟨ob, e⟩ := h; exact ⟨_, e⟩
  · exact ⟨_, h⟩
theorem HL.upd {lk : List Addr} {H : Hp} {b p : Addr} {o u : HO} (h : HL lk H b o) (n : b ≠ p) : HL lk (upd H p u) b o := by
  unfold HL at h ⊢
  rw [upd_ne n]
  exact h

section
variable {mg : Str → Option Value} {B : Bd mg} {σ : St} {H Hi : Hp} {as : List Addr} {s : S}
theorem Rep.lst (r : Rep B σ H Hi as s) {a : Addr} {vs : List V} (h : Hi a = some (.lst vs)) : H a = some (.lst vs) :=
  (r.sub a _ h).of_notin fun z => by
    obtain ⟨k, e⟩ := r.lkd a z
    rw [h] at e; cases e
theorem Rep.tup (r : Rep B σ H Hi as s) {a : Addr} {vs : List V} (h : Hi a = some (.tup vs)) : H a = some (.tup vs) :=
  (r.sub a _ h).of_notin fun z => by
    obtain ⟨k, e⟩ := r.lkd a z
    rw [h] at e; cases e
theorem Rep.fresh (r : Rep B σ H Hi as s) {p : Addr} (h : H p = none) : Hi p = none := by
  cases e : Hi p with
  | none => rfl
  | some o =>
    obtain ⟨u, q⟩ := (r.sub p o e).some
    rw [h] at q; cases q
theorem same_new {H : Hp} {p : Addr} {o : HO} (h : H p = none) : Same H (upd H p o) := fun b x e => by
  rw [upd_ne (ne_of_none e h)]
  exact e
theorem RelVl.mono {Hi Hi' : Hp} {as as' : List Addr} {v : V} {x : Vl} (h : RelVl Hi as v x) (e : Same Hi Hi') (p : as <+: as') : RelVl Hi' as' v x := by
  cases h with
  | d q => exact .d (q.mono e)
  | c q =>
    obtain ⟨t, rfl⟩ := p
    exact .c (by rw [List.getElem?_append_left (List.getElem?_eq_some_iff.mp q).1]; exact q)
theorem paired_mono {α β : Type} {F G : α → β → Prop} (h : ∀ a b, F a b → G a b) : ∀ {l : List α} {m : List β}, Paired F l m → Paired G l m
  | _, _, .nil => .nil
  | _, _, .cons a r => .cons (h _ _ a) (paired_mono h r)
theorem RelCe.mono {mg : Str → Option Value} {H H' Hi Hi' : Hp} {as as' : List Addr} {a : Addr} {c : Ce} (h : RelCe mg H Hi as a c) (e : Same Hi Hi') (p : as <+: as') (n : c.alive = true → Hi' a = Hi a) (k : c.alive = true → H' a = H a) : RelCe mg H' Hi' as' a c := by
  cases c with
  | l xs => obtain ⟨h1, vs, h2, h3⟩ := h; exact ⟨by rw [n rfl]; exact h1, vs, by rw [k rfl]; exact h2, h3.mono e⟩
  | f xs => obtain ⟨vs, h2, h3⟩ := h; exact ⟨vs, e _ _ h2, h3.mono e⟩
  | m kvs => obtain ⟨h1, vs, h2, h3⟩ := h; exact ⟨by rw [n rfl]; exact h1, vs, by rw [k rfl]; exact h2, h3.mono e⟩
  | g => trivial
  | x e' => obtain ⟨cls, d, h1, h2⟩ := h; exact ⟨cls, d, e _ _ h1, h2.mono e⟩
  | v xs => obtain ⟨h1, vs, h2, h3⟩ := h; exact ⟨by rw [n rfl]; exact h1, vs, by rw [k rfl]; exact h2, paired_mono (fun _ _ q => q.mono e p) h3⟩
  | w kvs => obtain ⟨h1, vs, h2, h3⟩ := h; exact ⟨by rw [n rfl]; exact h1, vs, by rw [k rfl]; exact h2, paired_mono (fun _ _ q => ⟨q.1, q.2.mono e p⟩) h3⟩
  | t xs => obtain ⟨vs, h2, h3⟩ := h; exact ⟨vs, e _ _ h2, paired_mono (fun _ _ q => q.mono e p) h3⟩
/-- cells that name no cells -/
theorem RelCe.kl {mg : Str → Option Value} {H Hi : Hp} {as as' : List Addr} {a : Addr} {c : Ce} (h : RelCe mg H Hi as a c) : RelCe mg H Hi as' a (kl c) := by
  cases c with
  | v xs => trivial
  | w kvs => trivial
  | t xs => trivial
  | _ => exact h
theorem RelCe.ne_new {mg : Str → Option Value} {H Hi : Hp} {as : List Addr} {a p : Addr} {c : Ce} (h : RelCe mg H Hi as a c) (hc : c.alive = true) (hp : H p = none) : a ≠ p := by
  rintro rfl
  cases c with
  | l xs => obtain ⟨h1, vs, h2, h3⟩ := h; rw [hp] at h2; cases h2
  | f xs => cases hc
  | m kvs => obtain ⟨h1, vs, h2, h3⟩ := h; rw [hp] at h2; cases h2
  | g => cases hc
  | x e' => cases hc
  | v xs => obtain ⟨h1, vs, h2, h3⟩ := h; rw [hp] at h2; cases h2
  | w kvs => obtain ⟨h1, vs, h2, h3⟩ := h; rw [hp] at h2; cases h2
  | t xs => cases hc
theorem RelCe.hi_none {mg : Str → Option Value} {H Hi : Hp} {as : List Addr} {a : Addr} {c : Ce} (h : RelCe mg H Hi as a c) (hc : c.alive = true) : Hi a = none := by
  cases c with
  | l xs => exact h.1
  | f xs => cases hc
  | m kvs => exact h.1
  | g => cases hc
  | x e' => cases hc
  | v xs => exact h.1
  | w kvs => exact h.1
  | t xs => cases hc
theorem Rep.fresh0 (r : Rep B σ H Hi as s) {p : Addr} (hp : H p = none) : B.H0 p = none ∨ p ∈ B.A0 := by
  by_cases h : p ∈ B.A0
  · exact .inr h
  · left
    cases e : B.H0 p with
    | none => rfl
    | some u =>
      obtain ⟨w, q⟩ := (r.fr p u e h).some
      rw [hp] at q; cases q
/-- an object that nobody asks for -/
theorem Rep.add (r : Rep B σ H Hi as s) {p : Addr} {o : HO} (hp : H p = none) : Rep B σ (upd H p o) Hi as s where
  sub := fun b u e => (r.sub b u e).upd fun z => by rw [z, r.fresh hp] at e; cases e
  lkd := r.lkd
  fr := fun b u e n => (r.fr b u e n).upd fun z => by
    obtain ⟨w, q⟩ := (r.fr b u e n).some
    rw [z, hp] at q; cases q
  hin := r.hin
  new := r.new
  len := r.len
  slo := r.slo
  lea := r.lea
  cel := fun j a c e1 e2 => (r.cel j a c e1 e2).mono (Same.refl _) (List.prefix_refl _) (fun _ => rfl) fun hc => upd_ne ((r.cel j a c e1 e2).ne_new hc hp)
  inj := r.inj
/-- an object that is never changed -/
theorem Rep.addI (r : Rep B σ H Hi as s) {p : Addr} {o : HO} (hp : H p = none) : Rep B σ (upd H p o) (upd Hi p o) as s where
  sub := fun b u e => by
    by_cases z : b = p
    · subst z
      rw [upd_same] at e; cases e
      have n : b ∉ B.lk0 ++ B.lk1 := fun q => by
        obtain ⟨k, e⟩ := r.lkd b q
        rw [r.fresh hp] at e; cases e
      unfold HL
      rw [if_neg n, upd_same]
    · rw [upd_ne z] at e
      exact (r.sub b u e).upd z
  lkd := fun b hb => by
    obtain ⟨k, e⟩ := r.lkd b hb
    exact ⟨k, by rw [upd_ne (ne_of_none e (r.fresh hp))]; exact e⟩
  fr := (r.add hp).fr
  hin := fun b u e => by
    by_cases z : b = p
    · subst z
      exact .inr (r.fresh0 hp)
    · rw [upd_ne z] at e
      exact r.hin b u e
  new := r.new
  len := r.len
  slo := fun i x e => by
    obtain ⟨v, a, b⟩ := r.slo i x e
    exact ⟨v, a, b.mono (same_new (r.fresh hp)) (List.prefix_refl _)⟩
  lea := r.lea
  cel := fun j a c e1 e2 => (r.cel j a c e1 e2).mono (same_new (r.fresh hp)) (List.prefix_refl _) (fun hc => upd_ne ((r.cel j a c e1 e2).ne_new hc hp)) fun hc => upd_ne ((r.cel j a c e1 e2).ne_new hc hp)
  inj := r.inj
/-- a new cell -/
theorem Rep.addC (r : Rep B σ H Hi as s) {p : Addr} {o : HO} {c : Ce} (hp : H p = none) (hc : c.alive = true) (hr : RelCe mg (upd H p o) Hi (as ++ [p]) p c) :
    Rep B σ (upd H p o) Hi (as ++ [p]) { s with ce := s.ce ++ [c] } := by
  have r1 := r.add (o := o) hp
  have hB := r.fresh0 hp
  have look : ∀ j a c', (as ++ [p])[j]? = some a → (s.ce ++ [c])[j]? = some c' → (as[j]? = some a ∧ s.ce[j]? = some c') ∨ (j = as.length ∧ a = p ∧ c' = c) := fun j a c' e1 e2 => by
    by_cases hj : j < as.length
    · rw [List.getElem?_append_left hj] at e1
      rw [List.getElem?_append_left (by rw [← r.lea]; exact hj)] at e2
      exact .inl ⟨e1, e2⟩
    · rw [List.getElem?_append_right (by omega)] at e1
      rw [List.getElem?_append_right (by rw [← r.lea]; omega), ← r.lea] at e2
      have hz : j - as.length = 0 := by
        cases hh : j - as.length with
        | zero => rfl
        | succ n => rw [hh] at e1; simp at e1
      rw [hz] at e1 e2
      simp at e1 e2
      exact .inr ⟨by omega, e1.symm, e2.symm⟩
  refine ⟨r1.sub, r1.lkd, r1.fr, r1.hin, fun j a c' e1 e2 al => ?_, r1.len, fun i x e => ?_, ?_, fun j a c' e1 e2 => ?_, fun i j a c1 c2 e1 e2 e3 e4 a1 a2 => ?_⟩
  · rcases look j a c' e1 e2 with ⟨q1, q2⟩ | ⟨_, rfl, rfl⟩
    · exact r.new j a c' q1 q2 al
    · exact hB.symm
  · obtain ⟨v, a, b⟩ := r.slo i x e
    exact ⟨v, a, b.mono (Same.refl _) (List.prefix_append _ _)⟩
  · simp [r.lea]
  · rcases look j a c' e1 e2 with ⟨q1, q2⟩ | ⟨_, rfl, rfl⟩
    · exact (r1.cel j a c' q1 q2).mono (Same.refl _) (List.prefix_append _ _) (fun _ => rfl) fun _ => rfl
    · exact hr
  · rcases look i a c1 e1 e3 with ⟨q1, q3⟩ | ⟨z1, rfl, rfl⟩
    · rcases look j a c2 e2 e4 with ⟨q2, q4⟩ | ⟨z2, rfl, rfl⟩
      · exact r.inj i j a c1 c2 q1 q2 q3 q4 a1 a2
      · exact absurd rfl ((r.cel i a c1 q1 q3).ne_new a1 hp)
    · rcases look j a c2 e2 e4 with ⟨q2, q4⟩ | ⟨z2, _, rfl⟩
      · exact absurd rfl ((r.cel j a c2 q2 q4).ne_new a2 hp)
      · omega
theorem lt_of_get {α : Type} {l : List α} {i : Nat} {x : α} (h : l[i]? = some x) : i < l.length := (List.getElem?_eq_some_iff.mp h).1
/-- a cell changes -/
theorem Rep.mut (r : Rep B σ H Hi as s) {j : Nat} {a : Addr} {c c' : Ce} {o : HO} (ha : as[j]? = some a) (hc : s.ce[j]? = some c) (al : c.alive = true) (al' : c'.alive = true) (hr : RelCe mg (upd H a o) Hi as a c') :
    Rep B σ (upd H a o) Hi as { s with ce := s.ce.set j c' } := by
  have hn : Hi a = none := (r.cel j a c ha hc).hi_none al
  have hlk : a ∉ B.lk0 ++ B.lk1 := fun z => by
    obtain ⟨k, e⟩ := r.lkd a z
    rw [hn] at e; cases e
  refine ⟨fun b u e => (r.sub b u e).upd (ne_of_none e hn), r.lkd, fun b u e n => ?_, r.hin, fun i b x e1 e2 ax => ?_, r.len, r.slo, by simp [r.lea], fun i b x e1 e2 => ?_, fun i k b x y e1 e2 e3 e4 ax ay => ?_⟩
  · refine (r.fr b u e n).upd fun z => ?_
    subst z
    rcases r.new j b c ha hc al with q | q
    · exact n q
    · rw [q] at e; cases e
  · by_cases z : i = j
    · subst z
      rw [ha] at e1; cases e1
      exact r.new i a c ha hc al
    · rw [List.getElem?_set_ne (Ne.symm z)] at e2
      exact r.new i b x e1 e2 ax
  · by_cases z : i = j
    · subst z
      rw [ha] at e1; cases e1
      rw [List.getElem?_set_self (lt_of_get hc)] at e2
      cases e2
      exact hr
    · rw [List.getElem?_set_ne (Ne.symm z)] at e2
      refine (r.cel i b x e1 e2).mono (Same.refl _) (List.prefix_refl _) (fun _ => rfl) fun ax => upd_ne fun q => ?_
      subst q
      exact z (r.inj i j b x c e1 ha e2 hc ax al)
  · have f : ∀ (i : Nat) (x : Ce), (s.ce.set j c')[i]? = some x → x.alive = true → ∃ x' : Ce, s.ce[i]? = some x' ∧ x'.alive = true := fun i x e ax => by
      by_cases z : i = j
      · subst z
        exact ⟨c, hc, al⟩
      · rw [List.getElem?_set_ne (Ne.symm z)] at e
        exact ⟨x, e, ax⟩
    obtain ⟨x', q1, q2⟩ := f i x e3 ax
    obtain ⟨y', q3, q4⟩ := f k y e4 ay
    exact r.inj i k b x' y' e1 e2 q1 q3 q2 q4
/-- a cell is frozen -/
theorem Rep.freezeO (r : Rep B σ H Hi as s) {j : Nat} {a : Addr} {c c' : Ce} {o : HO} (ha : as[j]? = some a) (hc : s.ce[j]? = some c) (al : c.alive = true) (al' : c'.alive = false) (hv : H a = some o) (hd : RelCe mg H (upd Hi a o) as a c') :
    Rep B σ H (upd Hi a o) as { s with ce := s.ce.set j c' } := by
  have hn : Hi a = none := (r.cel j a _ ha hc).hi_none al
  have sm : Same Hi (upd Hi a o) := same_new hn
  have hlk : a ∉ B.lk0 ++ B.lk1 := fun z => by
    obtain ⟨k, e⟩ := r.lkd a z
    rw [hn] at e; cases e
  refine ⟨fun b u e => ?_, fun b hb => ?_, r.fr, fun b u e => ?_, fun i b x e1 e2 ax => ?_, r.len, fun i x e => ?_, by simp [r.lea], fun i b x e1 e2 => ?_, fun i k b x y e1 e2 e3 e4 ax ay => ?_⟩
  · by_cases z : b = a
    · subst z
      rw [upd_same] at e; cases e
      unfold HL
      rw [if_neg hlk]
      exact hv
    · rw [upd_ne z] at e
      exact r.sub b u e
  · obtain ⟨k, e⟩ := r.lkd b hb
    exact ⟨k, sm _ _ e⟩
  · by_cases z : b = a
    · subst z
      exact .inr ((r.new j b _ ha hc al).symm)
    · rw [upd_ne z] at e
      exact r.hin b u e
  · by_cases z : i = j
    · subst z
      rw [List.getElem?_set_self (lt_of_get hc)] at e2
      cases e2
      rw [al'] at ax; cases ax
    · rw [List.getElem?_set_ne (Ne.symm z)] at e2
      exact r.new i b x e1 e2 ax
  · obtain ⟨v, q1, q2⟩ := r.slo i x e
    exact ⟨v, q1, q2.mono sm (List.prefix_refl _)⟩
  · by_cases z : i = j
    · subst z
      rw [ha] at e1; cases e1
      rw [List.getElem?_set_self (lt_of_get hc)] at e2
      cases e2
      exact hd
    · rw [List.getElem?_set_ne (Ne.symm z)] at e2
      refine (r.cel i b x e1 e2).mono sm (List.prefix_refl _) (fun ax => upd_ne fun q => ?_) fun _ => rfl
      subst q
      exact z (r.inj i j b x _ e1 ha e2 hc ax al)
  · have f : ∀ (i : Nat) (x : Ce), (s.ce.set j c')[i]? = some x → x.alive = true → s.ce[i]? = some x := fun i x e ax => by
      by_cases z : i = j
      · subst z
        rw [List.getElem?_set_self (lt_of_get hc)] at e
        cases e
        rw [al'] at ax; cases ax
      · rw [List.getElem?_set_ne (Ne.symm z)] at e
        exact e
    exact r.inj i k b x y e1 e2 (f i x e3 ax) (f k y e4 ay) ax ay
theorem Rep.freeze (r : Rep B σ H Hi as s) {j : Nat} {a : Addr} {xs : List D} {vs : List V} {c : Ce} (ha : as[j]? = some a) (hc : s.ce[j]? = some c) (al : c.alive = true) (hv : H a = some (.lst vs)) (hd : DqA Hi vs xs) :
    Rep B σ H (upd Hi a (.lst vs)) as { s with ce := s.ce.set j (.f xs) } :=
  r.freezeO ha hc al rfl hv ⟨vs, upd_same, hd.mono (same_new ((r.cel j a _ ha hc).hi_none al))⟩
/-- a name is bound -/
theorem Rep.bind (r : Rep B σ H Hi as s) {i : Nat} {v : V} {x : Vl} (h : RelVl Hi as v x) : Rep B (σ.set i (some v)) H Hi as { s with sl := s.sl.set i (some x) } := by
  refine ⟨r.sub, r.lkd, r.fr, r.hin, r.new, by simp [r.len], fun k y e => ?_, r.lea, r.cel, r.inj⟩
  by_cases z : k = i
  · subst z
    have hk : k < s.sl.length := by
      have := lt_of_get e
      simpa using this
    rw [List.getElem?_set_self hk] at e
    cases e
    exact ⟨v, by rw [List.getElem?_set_self (by rw [r.len]; exact hk)], h⟩
  · rw [List.getElem?_set_ne (Ne.symm z)] at e ⊢
    exact r.slo k y e
end
end DL

end DLsec_0

section DLsec_1
set_option maxRecDepth 100000
namespace DL
open PySem PySem.Spec PyProof.Rows L2

def OKs {mg : Str → Option Value} (B : Bd mg) (σ : St) (Hi : Hp) (as : List Addr) (s' : S) (P : Hp → Hp → List Addr → Prop) : Prop :=
  ∀ H' Hi' as', Rep B σ H' Hi' as' s' → Same Hi Hi' → as <+: as' → P H' Hi' as'
/-- what an exception is to meet -/
def XW (mg : Str → Option Value) (W : WX) (B : Bd mg) (σ : St) (Hi : Hp) (as : List Addr) : Ex → S → Prop := fun e s' =>
  OKs B σ Hi as s' fun H' Hi' _ => ∀ cls d, ExR mg Hi' e cls d → W cls d σ H'
theorem OKs.mono {mg : Str → Option Value} {B : Bd mg} {σ : St} {Hi Hi1 : Hp} {as as1 : List Addr} {s' : S} {P : Hp → Hp → List Addr → Prop} (h : OKs B σ Hi as s' P) (e : Same Hi Hi1) (p : as <+: as1) : OKs B σ Hi1 as1 s' P :=
  fun H' Hi' as' r e' p' => h H' Hi' as' r (e.trans e') (p.trans p')
theorem OKs.now {mg : Str → Option Value} {B : Bd mg} {σ : St} {H Hi : Hp} {as : List Addr} {s' : S} {P : Hp → Hp → List Addr → Prop} (h : OKs B σ Hi as s' P) (r : Rep B σ H Hi as s') : P H Hi as := h H Hi as r (Same.refl _) (List.prefix_refl _)
theorem XW.mono {mg : Str → Option Value} {W : WX} {B : Bd mg} {σ : St} {Hi Hi1 : Hp} {as as1 : List Addr} {e : Ex} {s' : S} (h : XW mg W B σ Hi as e s') (x : Same Hi Hi1) (p : as <+: as1) : XW mg W B σ Hi1 as1 e s' := OKs.mono h x p

def SE (mg : Str → Option Value) (W : WX) (t : TE) (f : M Vl) : Prop := ∀ (B : Bd mg) (σ : St) (H Hi : Hp) (as : List Addr) (s : S) (Q : VK), Rep B σ H Hi as s →
  wpR (f s) (fun x s' => OKs B σ Hi as s' fun H' Hi' as' => ∀ v, RelVl Hi' as' v x → Q v H') (XW mg W B σ Hi as) → t σ H Q
def ST (mg : Str → Option Value) (W : WX) (t : TT) (f : M Bool) : Prop := ∀ (B : Bd mg) (σ : St) (H Hi : Hp) (as : List Addr) (s : S) (Q : Bool → Hp → Prop), Rep B σ H Hi as s →
  wpR (f s) (fun x s' => OKs B σ Hi as s' fun H' _ _ => Q x H') (XW mg W B σ Hi as) → t σ H Q
abbrev RelVls (Hi : Hp) (as : List Addr) : List V → List Vl → Prop := Paired (RelVl Hi as)
def SA (mg : Str → Option Value) (W : WX) (t : TA) (f : M (List Vl)) : Prop := ∀ (B : Bd mg) (σ : St) (H Hi : Hp) (as : List Addr) (s : S) (Q : List V → Hp → Prop), Rep B σ H Hi as s →
  wpR (f s) (fun x s' => OKs B σ Hi as s' fun H' Hi' as' => ∀ v, RelVls Hi' as' v x → Q v H') (XW mg W B σ Hi as) → t σ H Q
/-- a new list -/
def SF (mg : Str → Option Value) (W : WX) (t : TE) (f : M (List D)) : Prop := ∀ (B : Bd mg) (σ : St) (H Hi : Hp) (as : List Addr) (s : S) (Q : VK), Rep B σ H Hi as s →
  wpR (f s) (fun xs s' => OKs B σ Hi as s' fun H' Hi' as' => ∀ p vs, H' p = none → DqA Hi' vs xs → Q (.ref p) (upd H' p (.lst vs))) (XW mg W B σ Hi as) → t σ H Q
def SO (mg : Str → Option Value) (W : WX) (t : TO) (f : M (Option Int)) : Prop := ∀ (B : Bd mg) (σ : St) (H Hi : Hp) (as : List Addr) (s : S) (Q : Option Int → Hp → Prop), Rep B σ H Hi as s →
  wpR (f s) (fun x s' => OKs B σ Hi as s' fun H' _ _ => Q x H') (XW mg W B σ Hi as) → t σ H Q
inductive Fl where
  | nx
  | rt (v : Vl)
  | bk
  | ct
def FlP (Dn : Ends) (σ' : St) (H' Hi' : Hp) (as' : List Addr) : Fl → Prop
  | .nx => Dn.nx σ' H'
  | .bk => Dn.bk σ' H'
  | .ct => Dn.ct σ' H'
  | .rt x => ∀ v, RelVl Hi' as' v x → Dn.rt v H'
def SS (mg : Str → Option Value) (W : WX) (t : TS) (f : M Fl) : Prop := ∀ (B : Bd mg) (σ : St) (H Hi : Hp) (as : List Addr) (s : S) (Dn : Ends), Rep B σ H Hi as s →
  wpR (f s) (fun fl s' => ∀ σ', OKs B σ' Hi as s' fun H' Hi' as' => FlP Dn σ' H' Hi' as' fl) (fun e s' => ∀ σ', XW mg W B σ' Hi as e s') → t Dn σ H
/-- an operation on values: nothing is raised, no cell changes -/
abbrev O2 (α : Type) := Vl → Vl → S → Option α
abbrev OA (α : Type) := List Vl → S → Option α
def gets {α : Type} (o : S → Option α) : M α := fun s => match o s with
  | some a => .ok a s
  | none => .no
/-- a value, a new list at the end -/
def EndV {mg : Str → Option Value} (B : Bd mg) (σ : St) (Hi : Hp) (as : List Addr) (s : S) (Q : VK) (z : Vl) : Prop := ∀ H' Hi', Rep B σ H' Hi' as s → Same Hi Hi' → ∀ w, RelVl Hi' as w z → Q w H'
def EndF {mg : Str → Option Value} (B : Bd mg) (σ : St) (Hi : Hp) (as : List Addr) (s : S) (Q : VK) (z : List D) : Prop := ∀ H' Hi', Rep B σ H' Hi' as s → Same Hi Hi' → ∀ p vs, H' p = none → DqA Hi' vs z → Q (.ref p) (upd H' p (.lst vs))
def OpS (r : R2) (o : O2 Vl) : Prop := ∀ {mg : Str → Option Value} (B : Bd mg) (σ : St) (H Hi : Hp) (as : List Addr) (s : S) (x y z : Vl) (u v : V) (Q : VK), Rep B σ H Hi as s → RelVl Hi as u x → RelVl Hi as v y →
  o x y s = some z → EndV B σ Hi as s Q z → r u v H Q
def OpF (r : R2) (o : O2 (List D)) : Prop := ∀ {mg : Str → Option Value} (B : Bd mg) (σ : St) (H Hi : Hp) (as : List Addr) (s : S) (x y : Vl) (z : List D) (u v : V) (Q : VK), Rep B σ H Hi as s → RelVl Hi as u x → RelVl Hi as v y →
  o x y s = some z → EndF B σ Hi as s Q z → r u v H Q
abbrev RC := List V → Hp → VK → Prop
def CaS (r : RC) (o : OA Vl) : Prop := ∀ {mg : Str → Option Value} (B : Bd mg) (σ : St) (H Hi : Hp) (as : List Addr) (s : S) (xs : List Vl) (z : Vl) (vs : List V) (Q : VK), Rep B σ H Hi as s → RelVls Hi as vs xs →
  o xs s = some z → EndV B σ Hi as s Q z → r vs H Q
def CaF (r : RC) (o : OA (List D)) : Prop := ∀ {mg : Str → Option Value} (B : Bd mg) (σ : St) (H Hi : Hp) (as : List Addr) (s : S) (xs : List Vl) (z : List D) (vs : List V) (Q : VK), Rep B σ H Hi as s → RelVls Hi as vs xs →
  o xs s = some z → EndF B σ Hi as s Q z → r vs H Q

/-! ### what is done with the state -/
def fVar (i : Nat) : M Vl := fun s => match s.sl[i]? with
  | some (some x) => .ok x s
  | _ => .no
def fC (x : D) : M Vl := ret (.d x)
def fOp {α : Type} (o : O2 α) (fa fb : M Vl) : M α := bnd fa fun x => bnd fb fun y => gets (o x y)
def fNil : M (List Vl) := ret []
def fCons (fa : M Vl) (fr : M (List Vl)) : M (List Vl) := bnd fa fun x => bnd fr fun xs => ret (x :: xs)
def fCall {α : Type} (o : OA α) (fa : M (List Vl)) : M α := bnd fa fun xs => gets (o xs)
/-- a new list as data, as a cell -/
def fDat (f : M (List D)) : M Vl := bnd f fun xs => ret (.d (.list xs))
def fCell (f : M (List D)) : M Vl := bnd f fun xs s => .ok (.c s.ce.length) { s with ce := s.ce ++ [.l xs] }
def dat (s : S) : Vl → Option D
  | .d x => some x
  | .c j => match s.ce[j]? with
    | some (.l xs) => some (.list xs)
    | some (.f xs) => some (.list xs)
    | _ => none
def datL (s : S) (x : Vl) : Option (List D) := match dat s x with
  | some (.list xs) => some xs
  | _ => none
def datT (x : Vl) : Option (List D) := match x with
  | .d (.tuple xs) => some xs
  | _ => none
/-- as data from now on -/
def frz0 (x : Vl) : M D := fun s => match x with
  | .d y => .ok y s
  | .c j => match s.ce[j]? with
    | some (.l xs) => .ok (.list xs) { s with ce := s.ce.set j (.f xs) }
    | some (.f xs) => .ok (.list xs) s
    | _ => .no
def frzs0 : List Vl → M (List D)
  | [] => ret []
  | x :: xs => bnd (frz0 x) fun y => bnd (frzs0 xs) fun ys => ret (y :: ys)
def frz (x : Vl) : M D := fun s => match x with
  | .d y => .ok y s
  | .c j => match s.ce[j]? with
    | some (.l xs) => .ok (.list xs) { s with ce := s.ce.set j (.f xs) }
    | some (.f xs) => .ok (.list xs) s
    | some (.v xs) => bnd (frzs0 xs) (fun ys s' => .ok (.list ys) { s' with ce := s'.ce.set j (.f ys) }) s
    | some (.t xs) => bnd (frzs0 xs) (fun ys s' => .ok (.tuple ys) s') s
    | _ => .no
def frzs : List Vl → M (List D)
  | [] => ret []
  | x :: xs => bnd (frz x) fun y => bnd (frzs xs) fun ys => ret (y :: ys)

section
variable {mg : Str → Option Value} {W : WX} {B : Bd mg} {σ : St} {H Hi : Hp} {as : List Addr} {s : S}
variable {ta tb tc : TE} {fa fb fc : M Vl}

theorem Rep.datL (r : Rep B σ H Hi as s) {v : V} {x : Vl} {xs : List D} (h : RelVl Hi as v x) (e : datL s x = some xs) : ∃ a vs, v = .ref a ∧ H a = some (.lst vs) ∧ DqA Hi vs xs := by
  unfold DL.datL at e
  cases h with
  | d q =>
    cases q with
    | lst h1 h2 => cases e; exact ⟨_, _, rfl, r.lst h1, h2⟩
    | _ => cases e
  | @c a j q =>
    simp only [dat] at e
    cases hc : s.ce[j]? with
    | none => rw [hc] at e; cases e
    | some c =>
      rw [hc] at e
      cases c with
      | l ys => cases e; obtain ⟨_, vs, h1, h2⟩ := r.cel j a _ q hc; exact ⟨a, vs, rfl, h1, h2⟩
      | f ys => cases e; obtain ⟨vs, h1, h2⟩ := r.cel j a _ q hc; exact ⟨a, vs, rfl, r.lst h1, h2⟩
      | m kvs => cases e
      | g => cases e
      | x e1 => cases e
      | v _ => cases e
      | w _ => cases e
      | t _ => cases e
theorem Rep.datT (r : Rep B σ H Hi as s) {v : V} {x : Vl} {xs : List D} (h : RelVl Hi as v x) (e : datT x = some xs) : ∃ a vs, v = .ref a ∧ H a = some (.tup vs) ∧ DqA Hi vs xs := by
  unfold DL.datT at e
  cases h with
  | d q =>
    cases q with
    | tup h1 h2 => cases e; exact ⟨_, _, rfl, r.tup h1, h2⟩
    | _ => cases e
  | c q => cases e
/-- freezing a value -/
def Kept (s s' : S) : Prop := ∀ (i : Nat) (c : Ce), s.ce[i]? = some c → (∀ xs : List D, c ≠ .l xs) → s'.ce[i]? = some c
theorem Rep.frz0 (r : Rep B σ H Hi as s) {v : V} {x : Vl} (h : RelVl Hi as v x) {P : D → S → Prop} {E : Ex → S → Prop} (w : wpR (DL.frz0 x s) P E) :
    ∃ y s' Hi', P y s' ∧ Rep B σ H Hi' as s' ∧ Same Hi Hi' ∧ Dq Hi' v y ∧ Kept s s' := by
  cases h with
  | d q => exact ⟨_, s, Hi, w, r, Same.refl _, q, fun _ _ h _ => h⟩
  | @c a j q =>
    simp only [DL.frz0] at w
    cases hc : s.ce[j]? with
    | none => rw [hc] at w; exact w.elim
    | some c =>
      rw [hc] at w
      cases c with
      | l ys =>
        obtain ⟨hn, vs, h1, h2⟩ := r.cel j a _ q hc
        have sm : Same Hi (upd Hi a (.lst vs)) := same_new hn
        refine ⟨_, _, _, w, r.freeze q hc rfl h1 h2, sm, .lst upd_same (h2.mono sm), fun i c h n => ?_⟩
        have : i ≠ j := fun z => by
          subst z
          rw [hc] at h
          exact n ys (Option.some.inj h).symm
        show (s.ce.set j (.f ys))[i]? = some c
        rw [List.getElem?_set_ne (Ne.symm this)]
        exact h
      | f ys =>
        obtain ⟨vs, h1, h2⟩ := r.cel j a _ q hc
        exact ⟨_, _, _, w, r, Same.refl _, .lst h1 h2, fun _ _ h _ => h⟩
      | _ => exact w.elim
theorem relVls_mono {Hi' : Hp} {as' : List Addr} (e : Same Hi Hi') (p : as <+: as') : ∀ {vs : List V} {xs : List Vl}, RelVls Hi as vs xs → RelVls Hi' as' vs xs
  | _, _, .nil => .nil
  | _, _, .cons h r => .cons (h.mono e p) (relVls_mono e p r)
theorem Rep.frzs0 : ∀ {xs : List Vl} {vs : List V} {s : S} {Hi : Hp} {P : List D → S → Prop} {E : Ex → S → Prop}, Rep B σ H Hi as s → RelVls Hi as vs xs → wpR (DL.frzs0 xs s) P E →
    ∃ ys s' Hi', P ys s' ∧ Rep B σ H Hi' as s' ∧ Same Hi Hi' ∧ DqA Hi' vs ys ∧ Kept s s'
  | [], _, s, Hi, P, E, r, .nil, w => ⟨[], s, Hi, w, r, Same.refl _, .nil, fun _ _ h _ => h⟩
  | x :: xs, _, s, Hi, P, E, r, .cons h hs, w => by
    obtain ⟨y, s1, Hi1, w1, r1, e1, q1, k1⟩ := r.frz0 h (wp_bnd w)
    obtain ⟨ys, s2, Hi2, w2, r2, e2, q2, k2⟩ := Rep.frzs0 r1 (relVls_mono e1 (List.prefix_refl _) hs) (wp_bnd w1)
    exact ⟨y :: ys, s2, Hi2, w2, r2, e1.trans e2, .cons (q1.mono e2) q2, fun i c h n => k2 i c (k1 i c h n) n⟩
theorem dqm_of {Hi Hi' : Hp} : ∀ {vs : List (Key × V)} {kvs : List (Key × Vl)} {ys : List D}, Paired (PairK Hi as) vs kvs → DqA Hi' (vs.map (·.2)) ys → DqM Hi' vs ((kvs.map fun p => kD p.1).zip ys)
  | _, _, _, .nil, h => by cases h; exact .nil
  | _, _, _, .cons (a := p) (b := q) hp r, h => by
    obtain ⟨k, v⟩ := p
    obtain ⟨k', x⟩ := q
    obtain ⟨rfl, _⟩ := hp
    cases h with
    | cons h1 h2 => exact .cons h1 (dqm_of r h2)
theorem pairK_vals {Hi : Hp} : ∀ {vs : List (Key × V)} {kvs : List (Key × Vl)}, Paired (PairK Hi as) vs kvs → RelVls Hi as (vs.map (·.2)) (kvs.map (·.2))
  | _, _, .nil => .nil
  | _, _, .cons hp r => .cons hp.2 (pairK_vals r)
theorem Rep.frz (r : Rep B σ H Hi as s) {v : V} {x : Vl} (h : RelVl Hi as v x) {P : D → S → Prop} {E : Ex → S → Prop} (w : wpR (DL.frz x s) P E) :
    ∃ y s' Hi', P y s' ∧ Rep B σ H Hi' as s' ∧ Same Hi Hi' ∧ Dq Hi' v y := by
  cases h with
  | d q => exact ⟨_, s, Hi, w, r, Same.refl _, q⟩
  | @c a j q =>
    simp only [DL.frz] at w
    cases hc : s.ce[j]? with
    | none => rw [hc] at w; exact w.elim
    | some c =>
      rw [hc] at w
      cases c with
      | l ys =>
        obtain ⟨hn, vs, h1, h2⟩ := r.cel j a _ q hc
        have sm : Same Hi (upd Hi a (.lst vs)) := same_new hn
        exact ⟨_, _, _, w, r.freeze q hc rfl h1 h2, sm, .lst upd_same (h2.mono sm)⟩
      | f ys =>
        obtain ⟨vs, h1, h2⟩ := r.cel j a _ q hc
        exact ⟨_, _, _, w, r, Same.refl _, .lst h1 h2⟩
      | v xs =>
        obtain ⟨hn, vs, h1, h2⟩ := r.cel j a _ q hc
        obtain ⟨ys, s1, Hi1, w1, r1, e1, q1, k1⟩ := r.frzs0 h2 (wp_bnd w)
        have hc1 := k1 j _ hc (fun _ z => by cases z)
        have sm : Same Hi1 (upd Hi1 a (.lst vs)) := same_new ((r1.cel j a _ q hc1).hi_none rfl)
        exact ⟨_, _, _, w1, r1.freeze q hc1 rfl h1 q1, e1.trans sm, .lst upd_same (q1.mono sm)⟩
      | t xs =>
        obtain ⟨vs, h1, h2⟩ := r.cel j a _ q hc
        obtain ⟨ys, s1, Hi1, w1, r1, e1, q1, k1⟩ := r.frzs0 h2 (wp_bnd w)
        exact ⟨_, _, _, w1, r1, e1, .tup (e1 _ _ h1) q1⟩
      | w kvs => exact w.elim
      | m kvs => exact w.elim
      | g => exact w.elim
      | x e1 => exact w.elim
theorem Rep.frzs : ∀ {xs : List Vl} {vs : List V} {s : S} {Hi : Hp} {P : List D → S → Prop} {E : Ex → S → Prop}, Rep B σ H Hi as s → RelVls Hi as vs xs → wpR (DL.frzs xs s) P E →
    ∃ ys s' Hi', P ys s' ∧ Rep B σ H Hi' as s' ∧ Same Hi Hi' ∧ DqA Hi' vs ys
  | [], _, s, Hi, P, E, r, .nil, w => ⟨[], s, Hi, w, r, Same.refl _, .nil⟩
  | x :: xs, _, s, Hi, P, E, r, .cons h hs, w => by
    obtain ⟨y, s1, Hi1, w1, r1, e1, q1⟩ := r.frz h (wp_bnd w)
    obtain ⟨ys, s2, Hi2, w2, r2, e2, q2⟩ := Rep.frzs r1 (relVls_mono e1 (List.prefix_refl _) hs) (wp_bnd w1)
    exact ⟨y :: ys, s2, Hi2, w2, r2, e1.trans e2, .cons (q1.mono e2) q2⟩

theorem se_var (i : Nat) : SE mg W (tVar i) (fVar i) := fun B σ H Hi as s Q r w => by
  unfold fVar at w
  cases e : s.sl[i]? with
  | none => rw [e] at w; exact w.elim
  | some o =>
    cases o with
    | none => rw [e] at w; exact w.elim
    | some x =>
      rw [e] at w
      obtain ⟨v, h1, h2⟩ := r.slo i x e
      exact ⟨v, h1, (OKs.now w r) v h2⟩
theorem se_c {v : V} {x : D} (h : ∀ H, Dq H v x) : SE mg W (tC v) (fC x) := fun B σ H Hi as s Q r w => (OKs.now w r) v (.d (h Hi))
theorem se_int (i : Int) : SE mg W (tC (.int i)) (fC (.int i)) := se_c fun _ => .int i
theorem se_bl (i : Bool) : SE mg W (tC (.bl i)) (fC (.bool i)) := se_c fun _ => .bl i
theorem se_str (i : Str) : SE mg W (tC (.str i)) (fC (.str i)) := se_c fun _ => .str i
theorem se_non : SE mg W (tC .non) (fC .none) := se_c fun _ => .non
/-- two expressions, then something -/
theorem two (ha : SE mg W ta fa) (hb : SE mg W tb fb) {α : Type} {k : Vl → Vl → M α} {P : α → S → Prop} {R : V → V → Hp → Prop} (r : Rep B σ H Hi as s) (w : wpR (bnd fa (fun x => bnd fb fun y => k x y) s) P (XW mg W B σ Hi as))
    (hk : ∀ x y s2 H2 Hi2 as2 u v, Rep B σ H2 Hi2 as2 s2 → Same Hi Hi2 → as <+: as2 → RelVl Hi2 as2 u x → RelVl Hi2 as2 v y → wpR (k x y s2) P (XW mg W B σ Hi2 as2) → R u v H2) :
    ta σ H fun x H1 => tb σ H1 fun y H2 => R x y H2 := by
  refine ha B σ H Hi as s _ r (wp_mono (wp_bnd w) (fun x s1 w1 => ?_) fun _ _ z => z)
  intro H1 Hi1 as1 r1 e1 p1 u hu
  refine hb B σ H1 Hi1 as1 s1 _ r1 (wp_mono (wp_bnd w1) (fun y s2 w2 => ?_) fun e s' z => XW.mono z e1 p1)
  intro H2 Hi2 as2 r2 e2 p2 v hv
  exact hk x y s2 H2 Hi2 as2 u v r2 (e1.trans e2) (p1.trans p2) (hu.mono e2 p2) hv (wp_mono w2 (fun _ _ z => z) fun e s' z => XW.mono z (e1.trans e2) (p1.trans p2))
theorem wp_gets {α : Type} {o : S → Option α} {P : α → S → Prop} {E : Ex → S → Prop} (w : wpR (gets o s) P E) : ∃ z, o s = some z ∧ P z s := by
  unfold gets at w
  cases e : o s with
  | none => rw [e] at w; exact w.elim
  | some z => rw [e] at w; exact ⟨z, rfl, w⟩
theorem se_op {r : R2} {o : O2 Vl} (ho : OpS r o) (ha : SE mg W ta fa) (hb : SE mg W tb fb) : SE mg W (tOp r ta tb) (fOp o fa fb) := fun B σ H Hi as s Q rp w => by
  refine two ha hb rp w fun x y s2 H2 Hi2 as2 u v r2 e2 p2 hu hv w2 => ?_
  obtain ⟨z, q, w3⟩ := wp_gets w2
  exact ho B σ H2 Hi2 as2 s2 x y z u v Q r2 hu hv q fun H' Hi' r' e' => w3 H' Hi' as2 r' (e2.trans e') p2
theorem sf_op {r : R2} {o : O2 (List D)} (ho : OpF r o) (ha : SE mg W ta fa) (hb : SE mg W tb fb) : SF mg W (tOp r ta tb) (fOp o fa fb) := fun B σ H Hi as s Q rp w => by
  refine two ha hb rp w fun x y s2 H2 Hi2 as2 u v r2 e2 p2 hu hv w2 => ?_
  obtain ⟨z, q, w3⟩ := wp_gets w2
  exact ho B σ H2 Hi2 as2 s2 x y z u v Q r2 hu hv q fun H' Hi' r' e' => w3 H' Hi' as2 r' (e2.trans e') p2
theorem sa_nil : SA mg W tNil fNil := fun B σ H Hi as s Q r w => (OKs.now w r) [] .nil
theorem sa_cons {t : TA} {f : M (List Vl)} (ha : SE mg W ta fa) (hr : SA mg W t f) : SA mg W (tCons ta t) (fCons fa f) := fun B σ H Hi as s Q rp w => by
  refine ha B σ H Hi as s _ rp (wp_mono (wp_bnd w) (fun x s1 w1 => ?_) fun _ _ z => z)
  intro H1 Hi1 as1 r1 e1 p1 u hu
  refine hr B σ H1 Hi1 as1 s1 _ r1 (wp_mono (wp_bnd w1) (fun y s2 w2 => ?_) fun e s' z => XW.mono z e1 p1)
  intro H2 Hi2 as2 r2 e2 p2 v hv
  exact w2 H2 Hi2 as2 r2 (e1.trans e2) (p1.trans p2) _ (.cons (hu.mono e2 p2) hv)
theorem se_call {t : TA} {f : M (List Vl)} {r : RC} {o : OA Vl} (ho : CaS r o) (hr : SA mg W t f) : SE mg W (tCB r t) (fCall o f) := fun B σ H Hi as s Q rp w => by
  refine hr B σ H Hi as s _ rp (wp_mono (wp_bnd w) (fun xs s1 w1 => ?_) fun _ _ z => z)
  intro H1 Hi1 as1 r1 e1 p1 vs hv
  obtain ⟨z, q, w3⟩ := wp_gets w1
  exact ho B σ H1 Hi1 as1 s1 xs z vs Q r1 hv q fun H' Hi' r' e' => w3 H' Hi' as1 r' (e1.trans e') p1
theorem sf_call {t : TA} {f : M (List Vl)} {r : RC} {o : OA (List D)} (ho : CaF r o) (hr : SA mg W t f) : SF mg W (tCB r t) (fCall o f) := fun B σ H Hi as s Q rp w => by
  refine hr B σ H Hi as s _ rp (wp_mono (wp_bnd w) (fun xs s1 w1 => ?_) fun _ _ z => z)
  intro H1 Hi1 as1 r1 e1 p1 vs hv
  obtain ⟨z, q, w3⟩ := wp_gets w1
  exact ho B σ H1 Hi1 as1 s1 xs z vs Q r1 hv q fun H' Hi' r' e' => w3 H' Hi' as1 r' (e1.trans e') p1
/-- a new list that never changes; one that may -/
theorem se_dat {f : M (List D)} (h : SF mg W ta f) : SE mg W ta (fDat f) := fun B σ H Hi as s Q rp w => by
  refine h B σ H Hi as s _ rp (wp_mono (wp_bnd w) (fun xs s1 w1 => ?_) fun _ _ z => z)
  intro H1 Hi1 as1 r1 e1 p1 p vs hp hd
  have sm : Same Hi1 (upd Hi1 p (.lst vs)) := same_new (r1.fresh hp)
  exact w1 _ _ as1 (r1.addI hp) (e1.trans sm) p1 _ (.d (.lst upd_same (hd.mono sm)))
theorem se_cell {f : M (List D)} (h : SF mg W ta f) : SE mg W ta (fCell f) := fun B σ H Hi as s Q rp w => by
  refine h B σ H Hi as s _ rp (wp_mono (wp_bnd w) (fun xs s1 w1 => ?_) fun _ _ z => z)
  intro H1 Hi1 as1 r1 e1 p1 p vs hp hd
  refine w1 _ _ _ (r1.addC (c := .l xs) hp rfl ⟨r1.fresh hp, vs, upd_same, hd⟩) e1 (p1.trans (List.prefix_append _ _)) _ (.c ?_)
  rw [← r1.lea, List.getElem?_append_right (Nat.le_refl _), Nat.sub_self]
  rfl
end
end DL

end DLsec_1

section DLsec_2
set_option maxRecDepth 100000
namespace DL
open PySem PySem.Spec PyProof.Rows L2

theorem le_line {n : Nat} (h : n ≤ 1000000) : n ≤ sizeLine := Nat.le_trans h (by decide)
theorem lt_line {n : Nat} (h : n < 1000000) : n < sizeLine := Nat.lt_of_lt_of_le h (by decide)

/-! ### displays -/
def fLst (f : M (List Vl)) : M (List D) := bnd f fun xs => if xs.length ≤ 1000000 then frzs xs else stuck
def fTup (f : M (List Vl)) : M Vl := bnd f fun xs => if xs.length ≤ 1000000 then bnd (frzs xs) fun ys => ret (.d (.tuple ys)) else stuck
/-! ### tests -/
def fTest (f : M Vl) : M Bool := bnd f fun x => match x with
  | .d (.bool b) => ret b
  | _ => stuck
def tru (s : S) (x : Vl) : Option Bool := match x with
  | .d .none => some false
  | .d (.bool b) => some b
  | .d (.int i) => some (i != 0)
  | .d (.str y) => if y.length ≤ 1000000 then some ((y.length : Int) != 0) else none
  | .d (.tuple xs) => some (!xs.isEmpty)
  | x => match datL s x with
    | some xs => some (!xs.isEmpty)
    | none => none
def fTru (f : M Vl) : M Bool := bnd f fun x => gets fun s => tru s x
def fAnd (f g : M Bool) : M Bool := bnd f fun b => if b = true then g else ret false
def fOr (f g : M Bool) : M Bool := bnd f fun b => if b = true then ret true else g
def fNot (f : M Bool) : M Bool := bnd f fun b => ret (!b)
def fIf {α : Type} (c : M Bool) (f g : M α) : M α := bnd c fun b => if b = true then f else g
def asB (x : Vl) : M Bool := match x with
  | .d (.bool b) => ret b
  | _ => stuck
def fAndV (f g : M Vl) : M Vl := bnd f fun x => bnd (asB x) fun b => if b = true then g else ret (.d (.bool false))
def fOrV (f g : M Vl) : M Vl := bnd f fun x => bnd (asB x) fun b => if b = true then ret (.d (.bool true)) else g
def fNotV (f : M Vl) : M Vl := bnd f fun x => bnd (asB x) fun b => ret (.d (.bool (!b)))

/-! ### restoring -/
def flat : D → Bool
  | .none => true
  | .bool _ => true
  | .int _ => true
  | .str _ => true
  | _ => false
def rstC : Ce → Ce → Ce
  | .l _, .f ys => if ys.all flat = true then .l ys else .g
  | .l _, .l ys => if ys.all flat = true then .l ys else .g
  | .f xs, _ => .f xs
  | .x e, _ => .x e
  | .t xs, _ => .t xs
  | _, _ => .g
def rst (s s' : S) : S := { sl := s.sl, ce := List.zipWith rstC s.ce s'.ce }
def fRstT {α : Type} (f : M α) : M α := fun s => match f s with
  | .ok a s' => .ok a (rst s s')
  | .ex e s' => .ex e s'
  | .no => .no
def fRstV (f : M Vl) : M Vl := fun s => match f s with
  | .ok (.d x) s' => if flat x = true then .ok (.d x) (rst s s') else .ok (.d x) s'
  | r => r
def fRstL (f : M (List D)) : M (List D) := fun s => match f s with
  | .ok xs s' => if xs.all flat = true then .ok xs (rst s s') else .ok xs s'
  | r => r

theorem Dq.flat {H H' : Hp} {v : V} {d : D} (h : Dq H v d) (f : DL.flat d = true) : Dq H' v d := by
  cases h with
  | non => exact .non
  | bl b => exact .bl b
  | int i => exact .int i
  | str x => exact .str x
  | lst _ _ => cases f
  | tup _ _ => cases f
  | dct _ _ => cases f
theorem DqA.flat {H H' : Hp} : ∀ {v : List V} {d : List D}, DqA H v d → d.all DL.flat = true → DqA H' v d
  | _, _, .nil, _ => .nil
  | _, _, .cons h r, f => by
    simp only [List.all_cons, Bool.and_eq_true] at f
    exact .cons (h.flat f.1) (DqA.flat r f.2)

section
variable {mg : Str → Option Value} {W : WX} {B : Bd mg} {σ : St} {H Hi : Hp} {as : List Addr} {s : S}
variable {ta tb tc : TE} {fa fb fc : M Vl} {tt tu : TT} {f g : M Bool}

theorem Rep.rst {H' Hi' : Hp} {as' : List Addr} {s' : S} (r : Rep B σ H Hi as s) (r' : Rep B σ H' Hi' as' s') (e : Same Hi Hi') (p : as <+: as') : Rep B σ H' Hi as (DL.rst s s') := by
  have pa : ∀ j a, as[j]? = some a → as'[j]? = some a := fun j a h => by
    obtain ⟨t, rfl⟩ := p
    rw [List.getElem?_append_left (lt_of_get h)]
    exact h
  have look : ∀ j c, (DL.rst s s').ce[j]? = some c → ∃ c1 c2, s.ce[j]? = some c1 ∧ s'.ce[j]? = some c2 ∧ c = rstC c1 c2 := fun j c h => by
    unfold DL.rst at h
    rw [List.getElem?_zipWith] at h
    cases h1 : s.ce[j]? with
    | none => rw [h1] at h; simp at h
    | some c1 =>
      cases h2 : s'.ce[j]? with
      | none => rw [h1, h2] at h; simp at h
      | some c2 =>
        rw [h1, h2] at h
        simp at h
        exact ⟨c1, c2, h1, h2, h.symm⟩
  have al : ∀ c1 c2 : Ce, (rstC c1 c2).alive = true → c1.alive = true ∧ ∃ ys, rstC c1 c2 = .l ys ∧ ys.all DL.flat = true ∧ (c2 = .f ys ∨ c2 = .l ys) := fun c1 c2 h => by
    cases c1 with
    | l xs =>
      refine ⟨rfl, ?_⟩
      cases c2 with
      | l ys =>
        simp only [rstC] at h ⊢
        split at h
        · rename_i hf; exact ⟨ys, by rw [if_pos hf], hf, .inr rfl⟩
        · cases h
      | f ys =>
        simp only [rstC] at h ⊢
        split at h
        · rename_i hf; exact ⟨ys, by rw [if_pos hf], hf, .inl rfl⟩
        · cases h
      | m k => cases h
      | g => cases h
      | x e1 => cases h
      | v _ => cases h
      | w _ => cases h
      | t _ => cases h
    | f xs => cases h
    | m k => cases h
    | g => cases h
    | x e1 => cases h
    | v _ => cases h
    | w _ => cases h
    | t _ => cases h
  refine ⟨fun b o h => r'.sub b o (e b o h), r.lkd, r'.fr, r.hin, fun j a c e1 e2 ax => ?_, r.len, r.slo, ?_, fun j a c e1 e2 => ?_, fun i j a c c' e1 e2 e3 e4 a1 a2 => ?_⟩
  · obtain ⟨c1, c2, q1, q2, rfl⟩ := look j c e2
    exact r.new j a c1 e1 q1 (al c1 c2 ax).1
  · have h1 := r.lea
    have h2 := r'.lea
    have h3 := p.length_le
    show as.length = (List.zipWith rstC s.ce s'.ce).length
    rw [List.length_zipWith]
    omega
  · obtain ⟨c1, c2, q1, q2, rfl⟩ := look j c e2
    have k1 := r.cel j a c1 e1 q1
    have k2 := r'.cel j a c2 (pa j a e1) q2
    by_cases ax : (rstC c1 c2).alive = true
    · obtain ⟨b1, ys, b2, b3, b4⟩ := al c1 c2 ax
      rw [b2]
      refine ⟨k1.hi_none b1, ?_⟩
      rcases b4 with rfl | rfl
      · obtain ⟨vs, z1, z2⟩ := k2
        exact ⟨vs, r'.lst z1, z2.flat b3⟩
      · obtain ⟨_, vs, z1, z2⟩ := k2
        exact ⟨vs, z1, z2.flat b3⟩
    · cases c1 with
      | f xs => exact k1
      | l xs =>
        cases c2 with
        | l ys => simp only [rstC] at ax ⊢; split <;> rename_i hf <;> first | exact (ax (by rw [if_pos hf]; rfl)).elim | trivial
        | f ys => simp only [rstC] at ax ⊢; split <;> rename_i hf <;> first | exact (ax (by rw [if_pos hf]; rfl)).elim | trivial
        | m k => trivial
        | g => trivial
        | x e1 => trivial
        | v _ => trivial
        | w _ => trivial
        | t _ => trivial
      | m k => trivial
      | g => trivial
      | x e1 => exact k1
      | v _ => trivial
      | w _ => trivial
      | t xs => exact k1
  · obtain ⟨c1, c2, q1, q2, rfl⟩ := look i c e3
    obtain ⟨c3, c4, q3, q4, rfl⟩ := look j c' e4
    exact r.inj i j a c1 c3 e1 e2 q1 q3 (al _ _ a1).1 (al _ _ a2).1
theorem wp_fRstT {α : Type} {f : M α} {P : α → S → Prop} {E : Ex → S → Prop} (w : wpR (fRstT f s) P E) : wpR (f s) (fun a s' => P a (DL.rst s s')) E := by
  unfold fRstT at w
  cases e : f s with
  | ok a s' => rw [e] at w; exact w
  | ex x s' => rw [e] at w; exact w
  | no => rw [e] at w; exact w
theorem st_rst (h : ST mg W tt f) : ST mg W tt (fRstT f) := fun B σ H Hi as s Q rp w => by
  refine h B σ H Hi as s _ rp (wp_mono (wp_fRstT w) (fun x s1 w1 => ?_) fun _ _ z => z)
  intro H1 Hi1 as1 r1 e1 p1
  exact OKs.now w1 (rp.rst r1 e1 p1)
theorem se_rst (h : SE mg W ta fa) : SE mg W ta (fRstV fa) := fun B σ H Hi as s Q rp w => by
  refine h B σ H Hi as s _ rp ?_
  unfold fRstV at w
  cases q : fa s with
  | ok x s1 =>
    rw [q] at w
    intro H1 Hi1 as1 r1 e1 p1 v hv
    cases x with
    | c j => exact w H1 Hi1 as1 r1 e1 p1 v hv
    | d x =>
      by_cases hf : DL.flat x = true
      · simp only [if_pos hf] at w
        cases hv with
        | d hd => exact OKs.now w (rp.rst r1 e1 p1) v (.d (hd.flat hf))
      · simp only [if_neg hf] at w
        exact w H1 Hi1 as1 r1 e1 p1 v hv
  | ex e s1 => rw [q] at w; exact w
  | no => rw [q] at w; exact w
theorem sf_rst {fl : M (List D)} (h : SF mg W ta fl) : SF mg W ta (fRstL fl) := fun B σ H Hi as s Q rp w => by
  refine h B σ H Hi as s _ rp ?_
  unfold fRstL at w
  cases q : fl s with
  | ok x s1 =>
    rw [q] at w
    intro H1 Hi1 as1 r1 e1 p1 p vs hp hd
    by_cases hf : x.all DL.flat = true
    · simp only [if_pos hf] at w
      exact OKs.now w (rp.rst r1 e1 p1) p vs hp (hd.flat hf)
    · simp only [if_neg hf] at w
      exact w H1 Hi1 as1 r1 e1 p1 p vs hp hd
  | ex e s1 => rw [q] at w; exact w
  | no => rw [q] at w; exact w

theorem sf_lst {t : TA} {fl : M (List Vl)} (h : SA mg W t fl) : SF mg W (tLst t) (fLst fl) := fun B σ H Hi as s Q rp w => by
  refine h B σ H Hi as s _ rp (wp_mono (wp_bnd w) (fun xs s1 w1 => ?_) fun _ _ z => z)
  intro H1 Hi1 as1 r1 e1 p1 vs hv
  by_cases hn : xs.length ≤ 1000000
  · rw [if_pos hn] at w1
    obtain ⟨ys, s2, Hi2, w2, r2, e2, q2⟩ := r1.frzs hv w1
    exact ⟨by rw [Paired.length hv]; exact le_line hn, fun p hp => w2 H1 Hi2 as1 r2 (e1.trans e2) p1 p vs hp q2⟩
  · rw [if_neg hn] at w1; exact w1.elim
theorem se_tup {t : TA} {fl : M (List Vl)} (h : SA mg W t fl) : SE mg W (tTup t) (fTup fl) := fun B σ H Hi as s Q rp w => by
  refine h B σ H Hi as s _ rp (wp_mono (wp_bnd w) (fun xs s1 w1 => ?_) fun _ _ z => z)
  intro H1 Hi1 as1 r1 e1 p1 vs hv
  by_cases hn : xs.length ≤ 1000000
  · rw [if_pos hn] at w1
    obtain ⟨ys, s2, Hi2, w2, r2, e2, q2⟩ := r1.frzs hv (wp_bnd w1)
    refine ⟨by rw [Paired.length hv]; exact le_line hn, fun p hp => ?_⟩
    have sm : Same Hi2 (upd Hi2 p (.tup vs)) := same_new (r2.fresh hp)
    exact w2 _ _ as1 (r2.addI hp) ((e1.trans e2).trans sm) p1 _ (.d (.tup upd_same (q2.mono sm)))
  · rw [if_neg hn] at w1; exact w1.elim

theorem st_test (h : SE mg W ta fa) : ST mg W (tTest ta) (fTest fa) := fun B σ H Hi as s Q rp w => by
  refine h B σ H Hi as s _ rp (wp_mono (wp_bnd w) (fun x s1 w1 => ?_) fun _ _ z => z)
  intro H1 Hi1 as1 r1 e1 p1 v hv
  cases hv with
  | c q => exact w1.elim
  | d q =>
    cases q with
    | bl b => exact ⟨b, rfl, w1 H1 Hi1 as1 r1 e1 p1⟩
    | _ => exact w1.elim
theorem st_B (h : SE mg W ta fa) : ST mg W (tB ta) (fTest fa) := st_test h
theorem st_and (h : ST mg W tt f) (k : ST mg W tu g) : ST mg W (tAnd tt tu) (fAnd f g) := fun B σ H Hi as s Q rp w => by
  refine h B σ H Hi as s _ rp (wp_mono (wp_bnd w) (fun x s1 w1 => ?_) fun _ _ z => z)
  intro H1 Hi1 as1 r1 e1 p1
  cases x with
  | true => exact k B σ H1 Hi1 as1 s1 Q r1 (wp_mono w1 (fun b s2 z => OKs.mono z e1 p1) fun e s' z => XW.mono z e1 p1)
  | false => exact w1 H1 Hi1 as1 r1 e1 p1
theorem st_or (h : ST mg W tt f) (k : ST mg W tu g) : ST mg W (tOr tt tu) (fOr f g) := fun B σ H Hi as s Q rp w => by
  refine h B σ H Hi as s _ rp (wp_mono (wp_bnd w) (fun x s1 w1 => ?_) fun _ _ z => z)
  intro H1 Hi1 as1 r1 e1 p1
  cases x with
  | false => exact k B σ H1 Hi1 as1 s1 Q r1 (wp_mono w1 (fun b s2 z => OKs.mono z e1 p1) fun e s' z => XW.mono z e1 p1)
  | true => exact w1 H1 Hi1 as1 r1 e1 p1
theorem st_not (h : ST mg W tt f) : ST mg W (tNot tt) (fNot f) := fun B σ H Hi as s Q rp w =>
  h B σ H Hi as s _ rp (wp_mono (wp_bnd w) (fun x s1 w1 => w1) fun _ _ z => z)
theorem se_if (h : ST mg W tt f) (ha : SE mg W ta fa) (hb : SE mg W tb fb) : SE mg W (tIf tt ta tb) (fIf f fa fb) := fun B σ H Hi as s Q rp w => by
  refine h B σ H Hi as s _ rp (wp_mono (wp_bnd w) (fun x s1 w1 => ?_) fun _ _ z => z)
  intro H1 Hi1 as1 r1 e1 p1
  cases x with
  | true => exact ha B σ H1 Hi1 as1 s1 Q r1 (wp_mono w1 (fun b s2 z => OKs.mono z e1 p1) fun e s' z => XW.mono z e1 p1)
  | false => exact hb B σ H1 Hi1 as1 s1 Q r1 (wp_mono w1 (fun b s2 z => OKs.mono z e1 p1) fun e s' z => XW.mono z e1 p1)
theorem sf_if {fl gl : M (List D)} (h : ST mg W tt f) (ha : SF mg W ta fl) (hb : SF mg W tb gl) : SF mg W (tIf tt ta tb) (fIf f fl gl) := fun B σ H Hi as s Q rp w => by
  refine h B σ H Hi as s _ rp (wp_mono (wp_bnd w) (fun x s1 w1 => ?_) fun _ _ z => z)
  intro H1 Hi1 as1 r1 e1 p1
  cases x with
  | true => exact ha B σ H1 Hi1 as1 s1 Q r1 (wp_mono w1 (fun b s2 z => OKs.mono z e1 p1) fun e s' z => XW.mono z e1 p1)
  | false => exact hb B σ H1 Hi1 as1 s1 Q r1 (wp_mono w1 (fun b s2 z => OKs.mono z e1 p1) fun e s' z => XW.mono z e1 p1)
theorem wp_asB {v : V} {x : Vl} {P : Bool → S → Prop} {E : Ex → S → Prop} (h : RelVl Hi as v x) (w : wpR (asB x s) P E) : ∃ b, v = .bl b ∧ P b s := by
  cases h with
  | c q => exact w.elim
  | d q =>
    cases q with
    | bl b => exact ⟨b, rfl, w⟩
    | _ => exact w.elim
theorem se_andV (ha : SE mg W ta fa) (hb : SE mg W tb fb) : SE mg W (tAndV ta tb) (fAndV fa fb) := fun B σ H Hi as s Q rp w => by
  refine ha B σ H Hi as s _ rp (wp_mono (wp_bnd w) (fun x s1 w1 => ?_) fun _ _ z => z)
  intro H1 Hi1 as1 r1 e1 p1 v hv
  obtain ⟨b, rfl, w2⟩ := wp_asB hv (wp_bnd w1)
  refine ⟨b, rfl, ?_⟩
  cases b with
  | true => exact hb B σ H1 Hi1 as1 s1 Q r1 (wp_mono w2 (fun b s2 z => OKs.mono z e1 p1) fun e s' z => XW.mono z e1 p1)
  | false => exact w2 H1 Hi1 as1 r1 e1 p1 _ (.d (.bl false))
theorem se_orV (ha : SE mg W ta fa) (hb : SE mg W tb fb) : SE mg W (tOrV ta tb) (fOrV fa fb) := fun B σ H Hi as s Q rp w => by
  refine ha B σ H Hi as s _ rp (wp_mono (wp_bnd w) (fun x s1 w1 => ?_) fun _ _ z => z)
  intro H1 Hi1 as1 r1 e1 p1 v hv
  obtain ⟨b, rfl, w2⟩ := wp_asB hv (wp_bnd w1)
  refine ⟨b, rfl, ?_⟩
  cases b with
  | false => exact hb B σ H1 Hi1 as1 s1 Q r1 (wp_mono w2 (fun b s2 z => OKs.mono z e1 p1) fun e s' z => XW.mono z e1 p1)
  | true => exact w2 H1 Hi1 as1 r1 e1 p1 _ (.d (.bl true))
theorem se_notV (ha : SE mg W ta fa) : SE mg W (tNotV ta) (fNotV fa) := fun B σ H Hi as s Q rp w => by
  refine ha B σ H Hi as s _ rp (wp_mono (wp_bnd w) (fun x s1 w1 => ?_) fun _ _ z => z)
  intro H1 Hi1 as1 r1 e1 p1 v hv
  obtain ⟨b, rfl, w2⟩ := wp_asB hv (wp_bnd w1)
  exact ⟨b, rfl, w2 H1 Hi1 as1 r1 e1 p1 _ (.d (.bl _))⟩
theorem st_tru {K : PySem.W.Frag} (h : SE mg W ta fa) : ST mg W (fun σ H Q => ta σ H fun x H' => ∃ k, TruV K x H' k ∧ Q k H') (fTru fa) := fun B σ H Hi as s Q rp w => by
  refine h B σ H Hi as s _ rp (wp_mono (wp_bnd w) (fun x s1 w1 => ?_) fun _ _ z => z)
  intro H1 Hi1 as1 r1 e1 p1 v hv
  obtain ⟨b, q, w2⟩ := wp_gets w1
  refine ⟨b, ?_, w2 H1 Hi1 as1 r1 e1 p1⟩
  have useL : ∀ xs, DL.datL s1 x = some xs → TruV K v H1 (!xs.isEmpty) := fun xs e => by
    obtain ⟨a, vs, rfl, h1, h2⟩ := r1.datL hv e
    refine .inl ⟨vs, .inl (.inl h1), ?_⟩
    cases h2 <;> rfl
  have viaL : (match DL.datL s1 x with | some xs => some (!xs.isEmpty) | none => none) = some b → TruV K v H1 b := fun e => by
    cases z : DL.datL s1 x with
    | none => rw [z] at e; cases e
    | some xs => rw [z] at e; cases e; exact useL xs z
  cases hv with
  | c q' => exact viaL q
  | d q' =>
    cases q' with
    | non => cases q; rfl
    | bl b => cases q; rfl
    | int i => cases q; rfl
    | str y =>
      simp only [tru] at q
      split at q
      · rename_i hn; cases q; exact ⟨le_line hn, rfl⟩
      · cases q
    | lst h1 h2 => exact viaL q
    | tup h1 h2 =>
      cases q
      refine .inr (.inl ⟨_, .inl (.inl (r1.tup h1)), ?_⟩)
      cases h2 <;> rfl
    | dct h1 h2 => exact viaL q
end
end DL

end DLsec_2

section DLsec_3
set_option maxRecDepth 100000
namespace DL
open PySem PySem.Spec PyProof.Rows L2

/-! ### operators -/
def oI (g : Int → Int → D) : O2 Vl
  | .d (.int i), .d (.int j), _ => some (.d (g i j))
  | _, _, _ => none
def oIC (c : Int → Int → Bool) (g : Int → Int → D) : O2 Vl
  | .d (.int i), .d (.int j), _ => if c i j = true then some (.d (g i j)) else none
  | _, _, _ => none
def orO {α : Type} (o o' : O2 α) : O2 α := fun x y s => match o x y s with
  | some z => some z
  | none => o' x y s
def datO (o : O2 (List D)) : O2 Vl := fun x y s => (o x y s).map fun xs => .d (.list xs)
theorem EndV.now {mg : Str → Option Value} {B : Bd mg} {σ : St} {H Hi : Hp} {as : List Addr} {s : S} {Q : VK} {z : Vl} {w : V} (q : EndV B σ Hi as s Q z) (r : Rep B σ H Hi as s) (h : RelVl Hi as w z) : Q w H := q H Hi r (Same.refl _) w h
theorem EndF.now {mg : Str → Option Value} {B : Bd mg} {σ : St} {H Hi : Hp} {as : List Addr} {s : S} {Q : VK} {z : List D} {p : Addr} {vs : List V} (q : EndF B σ Hi as s Q z) (r : Rep B σ H Hi as s) (h : H p = none) (d : DqA Hi vs z) : Q (.ref p) (upd H p (.lst vs)) := q H Hi r (Same.refl _) p vs h d
theorem EndV.dat {mg : Str → Option Value} {B : Bd mg} {σ : St} {Hi : Hp} {as : List Addr} {s : S} {Q : VK} {z : List D} (q : EndV B σ Hi as s Q (.d (.list z))) : EndF B σ Hi as s Q z := fun H' Hi' r e p vs hp hd => by
  have sm : Same Hi' (upd Hi' p (.lst vs)) := same_new (r.fresh hp)
  exact q _ _ (r.addI hp) (e.trans sm) _ (.d (.lst upd_same (hd.mono sm)))
theorem ops_dat {r : R2} {o : O2 (List D)} (h : OpF r o) : OpS r (datO o) := fun B σ H Hi as s x y z u v Q rp hu hv e q => by
  unfold datO at e
  cases k : o x y s with
  | none => rw [k] at e; cases e
  | some xs => rw [k] at e; cases e; exact h B σ H Hi as s x y xs u v Q rp hu hv k q.dat
theorem ops_or {r r' : R2} {o o' : O2 Vl} (h : OpS r o) (h' : OpS r' o') : OpS (fun x y H Q => r x y H Q ∨ r' x y H Q) (orO o o') := fun B σ H Hi as s x y z u v Q rp hu hv e q => by
  unfold orO at e
  cases k : o x y s with
  | none => rw [k] at e; exact .inr (h' B σ H Hi as s x y z u v Q rp hu hv e q)
  | some w => rw [k] at e; cases e; exact .inl (h B σ H Hi as s x y z u v Q rp hu hv k q)
theorem oI_inv {Hi : Hp} {as : List Addr} {x y : Vl} {u v : V} {s : S} {g : Int → Int → D} {z : Vl} (hu : RelVl Hi as u x) (hv : RelVl Hi as v y) (e : oI g x y s = some z) : ∃ i j, u = .int i ∧ v = .int j ∧ z = .d (g i j) := by
  cases hu with
  | c q => cases e
  | d q =>
    cases hv with
    | c q' => cases q <;> cases e
    | d q' =>
      cases q <;> cases q' <;> first | (cases e; done) | (cases e; exact ⟨_, _, rfl, rfl, rfl⟩)
theorem oIC_inv {Hi : Hp} {as : List Addr} {x y : Vl} {u v : V} {s : S} {c : Int → Int → Bool} {g : Int → Int → D} {z : Vl} (hu : RelVl Hi as u x) (hv : RelVl Hi as v y) (e : oIC c g x y s = some z) : ∃ i j, u = .int i ∧ v = .int j ∧ c i j = true ∧ z = .d (g i j) := by
  cases hu with
  | c q => cases e
  | d q =>
    cases hv with
    | c q' => cases q <;> cases e
    | d q' =>
      cases q <;> cases q' <;> first | (cases e; done) | skip
      simp only [oIC] at e
      split at e
      · rename_i hc; cases e; exact ⟨_, _, rfl, rfl, hc, rfl⟩
      · cases e
theorem ops_I {g : Int → Int → V} {g' : Int → Int → D} (h : ∀ i j H, Dq H (g i j) (g' i j)) : OpS (rI0 g) (oI g') := fun B σ H Hi as s x y z u v Q rp hu hv e q => by
  obtain ⟨i, j, rfl, rfl, rfl⟩ := oI_inv hu hv e
  exact ⟨i, j, rfl, rfl, q.now rp (.d (h i j Hi))⟩
theorem ops_IC {C : Int → Int → Prop} {c : Int → Int → Bool} {g : Int → Int → V} {g' : Int → Int → D} (hc : ∀ i j, c i j = true → C i j) (h : ∀ i j H, Dq H (g i j) (g' i j)) : OpS (rI C g) (oIC c g') := fun B σ H Hi as s x y z u v Q rp hu hv e q => by
  obtain ⟨i, j, rfl, rfl, k, rfl⟩ := oIC_inv hu hv e
  exact ⟨i, j, rfl, rfl, hc i j k, q.now rp (.d (h i j Hi))⟩
abbrev oAddI : O2 Vl := oI fun i j => .int (i + j)
abbrev oSub : O2 Vl := oI fun i j => .int (i - j)
abbrev oLt : O2 Vl := oI fun i j => .bool (decide (i < j))
abbrev oLe : O2 Vl := oI fun i j => .bool (decide (i ≤ j))
abbrev oGt : O2 Vl := oI fun i j => .bool (decide (j < i))
abbrev oGe : O2 Vl := oI fun i j => .bool (decide (j ≤ i))
def cMul (i j : Int) : Bool := decide ((-1000000000000000000 ≤ i ∧ i ≤ 1000000000000000000) ∨ (-1000000000000000000 ≤ j ∧ j ≤ 1000000000000000000))
abbrev oMul : O2 Vl := oIC cMul fun i j => .int (i * j)
def cPos (_ j : Int) : Bool := decide (0 < j)
abbrev oMod : O2 Vl := oIC cPos fun i j => .int (i % j)
def cDiv (_ j : Int) : Bool := decide (0 < j ∧ j < 1073741824)
abbrev oDiv : O2 Vl := oIC cDiv fun i j => .int (i / j)
def cPow (i j : Int) : Bool := decide (0 ≤ j ∧ j ≤ 1000 ∧ -1000000000000000000 ≤ i ∧ i ≤ 1000000000000000000)
abbrev oPow : O2 Vl := oIC cPow fun i j => .int (i ^ j.toNat)
theorem os_addI : OpS (rI0 fun i j => .int (i + j)) oAddI := ops_I fun i j _ => .int _
theorem os_sub : OpS (rI0 fun i j => .int (i - j)) oSub := ops_I fun i j _ => .int _
theorem os_lt : OpS (rI0 fun i j => .bl (decide (i < j))) oLt := ops_I fun i j _ => .bl _
theorem os_le : OpS (rI0 fun i j => .bl (decide (i ≤ j))) oLe := ops_I fun i j _ => .bl _
theorem os_gt : OpS (rI0 fun i j => .bl (decide (j < i))) oGt := ops_I fun i j _ => .bl _
theorem os_ge : OpS (rI0 fun i j => .bl (decide (j ≤ i))) oGe := ops_I fun i j _ => .bl _
theorem os_mul : OpS (rI CMul fun i j => .int (i * j)) oMul := ops_IC (fun i j h => by
  have := of_decide_eq_true h
  unfold CMul
  omega) fun i j _ => .int _
theorem os_mod : OpS (rI (fun _ j => 0 < j) fun i j => .int (i % j)) oMod := ops_IC (fun i j h => (of_decide_eq_true h : 0 < j)) fun i j _ => .int _
theorem os_div : OpS (rI CDiv fun i j => .int (i / j)) oDiv := ops_IC (fun i j h => (of_decide_eq_true h : 0 < j ∧ j < 1073741824)) fun i j _ => .int _
theorem os_pow : OpS (rI CPow fun i j => .int (i ^ j.toNat)) oPow := ops_IC (fun i j h => by
  have := of_decide_eq_true h
  unfold CPow
  omega) fun i j _ => .int _
/-- lists joined -/
def oCat : O2 (List D) := fun x y s => match datL s x, datL s y with
  | some xs, some ys => if xs.length + ys.length ≤ 1000000 then some (xs ++ ys) else none
  | _, _ => none
theorem of_cat : OpF rCat oCat := fun B σ H Hi as s x y z u v Q rp hu hv e q => by
  unfold oCat at e
  cases h1 : datL s x with
  | none => rw [h1] at e; cases e
  | some xs =>
    cases h2 : datL s y with
    | none => rw [h1, h2] at e; cases e
    | some ys =>
      rw [h1, h2] at e
      simp only at e
      split at e
      · rename_i hn
        cases e
        obtain ⟨a, vs, rfl, ha, da⟩ := rp.datL hu h1
        obtain ⟨b, ws, rfl, hb, db⟩ := rp.datL hv h2
        exact ⟨a, b, vs, ws, rfl, rfl, ha, hb, by rw [da.length, db.length]; exact le_line hn, fun p hp => q.now rp hp (da.append db)⟩
      · cases e
abbrev oCatD : O2 Vl := datO oCat
theorem os_cat : OpS rCat oCatD := ops_dat of_cat
def oAddS : O2 Vl
  | .d (.str i), .d (.str j), _ => if i.length + j.length ≤ 1000000 then some (.d (.str (i ++ j))) else none
  | _, _, _ => none
theorem os_addS : OpS (fun x y H Q => ∃ i j, x = .str i ∧ y = .str j ∧ i.length + j.length ≤ sizeLine ∧ Q (.str (i ++ j)) H) oAddS := fun B σ H Hi as s x y z u v Q rp hu hv e q => by
  cases hu with
  | c q => cases e
  | d q1 =>
    cases hv with
    | c q' => cases q1 <;> cases e
    | d q2 =>
      cases q1 <;> cases q2 <;> first | (cases e; done) | skip
      simp only [oAddS] at e
      split at e
      · rename_i hn; cases e; exact ⟨_, _, rfl, rfl, le_line hn, q.now rp (.d (.str _))⟩
      · cases e
/-- xs * k -/
def oRep : O2 (List D) := fun x y s => match datL s x, y with
  | some xs, .d (.int k) => if -1000000 ≤ k ∧ k ≤ 1000000 ∧ xs.length * k.toNat ≤ 1000000 then some (List.replicate k.toNat xs).flatten else none
  | _, _ => none
/-! ### equality -/
mutual
def noD : D → Bool
  | .list xs => noDs xs
  | .tuple xs => noDs xs
  | .dict _ => false
  | _ => true
def noDs : List D → Bool
  | [] => true
  | x :: xs => noD x && noDs xs
end
mutual
theorem Rep.dp {K : PySem.W.Frag} {mg : Str → Option Value} {B : Bd mg} {σ : St} {H Hi : Hp} {as : List Addr} {s : S} (r : Rep B σ H Hi as s) : ∀ {v : V} {d : D}, Dq Hi v d → noD d = true → Dp K H v d
  | _, _, .non, _ => .non
  | _, _, .bl b, _ => .bl b
  | _, _, .int i, _ => .int i
  | _, _, .str x, _ => .str x
  | _, _, .lst h q, n => .lst (.inl (.inl (r.lst h))) (Rep.dpA r q (by simpa [noD] using n))
  | _, _, .tup h q, n => .tup (.inl (.inl (r.tup h))) (Rep.dpA r q (by simpa [noD] using n))
  | _, _, .dct h q, n => by simp [noD] at n
theorem Rep.dpA {K : PySem.W.Frag} {mg : Str → Option Value} {B : Bd mg} {σ : St} {H Hi : Hp} {as : List Addr} {s : S} (r : Rep B σ H Hi as s) : ∀ {v : List V} {d : List D}, DqA Hi v d → noDs d = true → DpAll K H v d
  | _, _, .nil, _ => .nil
  | _, _, .cons (d := d) (ds := ds) h q, n => by
    have n' : noD d = true ∧ noDs ds = true := by simpa [noDs] using n
    exact .cons (Rep.dp r h n'.1) (Rep.dpA r q n'.2)
end
theorem Rep.dpV {K : PySem.W.Frag} {mg : Str → Option Value} {B : Bd mg} {σ : St} {H Hi : Hp} {as : List Addr} {s : S} (r : Rep B σ H Hi as s) {v : V} {x : Vl} {d : D} (h : RelVl Hi as v x) (e : DL.dat s x = some d) (n : noD d = true) : Dp K H v d := by
  cases h with
  | d q => cases e; exact r.dp q n
  | @c a j q =>
    have hl : ∃ xs, d = .list xs ∧ DL.datL s (.c j) = some xs := by
      simp only [DL.datL, e]
      simp only [DL.dat] at e
      split at e
      · cases e; exact ⟨_, rfl, rfl⟩
      · cases e; exact ⟨_, rfl, rfl⟩
      · cases e
    obtain ⟨xs, rfl, hx⟩ := hl
    obtain ⟨b, vs, z, h1, h2⟩ := r.datL (.c q) hx
    cases z
    exact .lst (.inl (.inl h1)) (r.dpA h2 (by simpa [noD] using n))
def okE (d : D) : Bool := noD d && SeqAt.shaped d
def oEq : O2 Vl := fun x y s => match dat s x, dat s y with
  | some a, some b => if (okE a && okE b) = true then some (.d (.bool (PyData.eqv a b))) else none
  | _, _ => none
def oNe : O2 Vl := fun x y s => match dat s x, dat s y with
  | some a, some b => if (okE a && okE b) = true then some (.d (.bool (!PyData.eqv a b))) else none
  | _, _ => none
theorem os_eq {K : PySem.W.Frag} : OpS (rEqD K) oEq := fun B σ H Hi as s x y z u v Q rp hu hv e q => by
  unfold oEq at e
  cases h1 : dat s x with
  | none => rw [h1] at e; cases e
  | some a =>
    cases h2 : dat s y with
    | none => rw [h1, h2] at e; cases e
    | some b =>
      rw [h1, h2] at e
      simp only at e
      split at e
      · rename_i hn
        cases e
        simp only [okE, Bool.and_eq_true] at hn
        exact ⟨a, b, rp.dpV hu h1 hn.1.1, rp.dpV hv h2 hn.2.1, hn.1.2, hn.2.2, q.now rp (.d (.bl _))⟩
      · cases e
theorem os_ne {K : PySem.W.Frag} : OpS (rNeD K) oNe := fun B σ H Hi as s x y z u v Q rp hu hv e q => by
  unfold oNe at e
  cases h1 : dat s x with
  | none => rw [h1] at e; cases e
  | some a =>
    cases h2 : dat s y with
    | none => rw [h1, h2] at e; cases e
    | some b =>
      rw [h1, h2] at e
      simp only at e
      split at e
      · rename_i hn
        cases e
        simp only [okE, Bool.and_eq_true] at hn
        exact ⟨a, b, rp.dpV hu h1 hn.1.1, rp.dpV hv h2 hn.2.1, hn.1.2, hn.2.2, q.now rp (.d (.bl _))⟩
      · cases e
/-! ### is None -/
def isNon : Vl → Bool
  | .d .none => true
  | _ => false
def fIsN (f : M Vl) : M Vl := bnd f fun x => ret (.d (.bool (isNon x)))
def fNotN (f : M Vl) : M Vl := bnd f fun x => ret (.d (.bool (!isNon x)))
theorem isNon_ok {Hi : Hp} {as : List Addr} {v : V} {x : Vl} (h : RelVl Hi as v x) : decide (v = .non) = isNon x := by
  cases h with
  | c q => rfl
  | d q => cases q <;> rfl
section
variable {mg : Str → Option Value} {W : WX} {B : Bd mg} {σ : St} {H Hi : Hp} {as : List Addr} {s : S}
variable {ta tb tc : TE} {fa fb fc : M Vl}
theorem se_isN (h : SE mg W ta fa) : SE mg W (tIsN ta) (fIsN fa) := fun B σ H Hi as s Q rp w => by
  refine h B σ H Hi as s _ rp (wp_mono (wp_bnd w) (fun x s1 w1 => ?_) fun _ _ z => z)
  intro H1 Hi1 as1 r1 e1 p1 v hv
  rw [isNon_ok hv]
  exact w1 H1 Hi1 as1 r1 e1 p1 _ (.d (.bl _))
theorem se_notN (h : SE mg W ta fa) : SE mg W (tNotN ta) (fNotN fa) := fun B σ H Hi as s Q rp w => by
  refine h B σ H Hi as s _ rp (wp_mono (wp_bnd w) (fun x s1 w1 => ?_) fun _ _ z => z)
  intro H1 Hi1 as1 r1 e1 p1 v hv
  rw [isNon_ok hv]
  exact w1 H1 Hi1 as1 r1 e1 p1 _ (.d (.bl _))
end
/-! ### items and slices -/
theorem DqA.atI {H : Hp} {vs : List V} {xs : List D} {i : Int} {d : D} (h : DqA H vs xs) (e : atI xs i = some d) : ∃ v, atI vs i = some v ∧ Dq H v d := by
  unfold L2.atI at e ⊢
  rw [h.length]
  cases k : ixN xs.length i with
  | none => rw [k] at e; cases e
  | some j => rw [k] at e; exact h.get e
def oIx : O2 Vl := fun x y s => match y with
  | .d (.int i) => match datL s x with
    | some xs => (atI xs i).map .d
    | none => match x with
      | .d (.tuple xs) => (atI xs i).map .d
      | .d (.str z) => if z.length ≤ 1000000 then (atI z.cps.toList i).map fun c => .d (.str ⟨#[c]⟩) else none
      | _ => none
  | _ => none
theorem os_ix {K : PySem.W.Frag} : OpS (rIx K) oIx := fun B σ H Hi as s x y z u v Q rp hu hv e q => by
  have hi : ∃ i, v = .int i ∧ y = .d (.int i) := by
    cases hv with
    | c q => cases e
    | d q => cases q <;> first | (cases e; done) | exact ⟨_, rfl, rfl⟩
  obtain ⟨i, rfl, rfl⟩ := hi
  simp only [oIx] at e
  cases h1 : datL s x with
  | some xs =>
    rw [h1] at e
    obtain ⟨a, vs, rfl, ha, da⟩ := rp.datL hu h1
    cases k : L2.atI xs i with
    | none => simp [k] at e
    | some d =>
      simp [k] at e; subst e
      obtain ⟨v, e1, e2⟩ := da.atI k
      exact .inl ⟨a, vs, i, v, rfl, rfl, .inl (.inl ha), e1, q.now rp (.d e2)⟩
  | none =>
    rw [h1] at e
    cases hu with
    | c q => simp at e
    | d q' =>
      cases q' with
      | tup ha da =>
        rename_i a vs xs
        simp only at e
        cases k : L2.atI xs i with
        | none => simp [k] at e
        | some d =>
          simp [k] at e; subst e
          obtain ⟨v, e1, e2⟩ := da.atI k
          exact .inr (.inl ⟨a, vs, i, v, rfl, rfl, .inl (.inl (rp.tup ha)), e1, q.now rp (.d e2)⟩)
      | str zz =>
        simp only at e
        split at e
        · rename_i hn
          cases k : L2.atI zz.cps.toList i with
          | none => simp [k] at e
          | some c =>
            simp [k] at e; subst e
            exact .inr (.inr ⟨zz, i, c, rfl, rfl, le_line hn, k, q.now rp (.d (.str _))⟩)
        · cases e
      | _ => simp at e
def cutD (xs : List D) (lo hi : Option Int) : List D := (xs.drop (HT.sIx xs.length 0 lo)).take (HT.sIx xs.length xs.length hi - HT.sIx xs.length 0 lo)
theorem DqA.cut {H : Hp} {vs : List V} {xs : List D} (h : DqA H vs xs) (lo hi : Option Int) : DqA H (cutV vs lo hi) (cutD xs lo hi) := by
  unfold cutV cutD
  rw [h.length]
  exact (h.drop _).take _
abbrev RSl := V → Option Int → Option Int → Hp → VK → Prop
def SlF (r : RSl) (o : Vl → Option Int → Option Int → S → Option (List D)) : Prop := ∀ {mg : Str → Option Value} (B : Bd mg) (σ : St) (H Hi : Hp) (as : List Addr) (s : S) (x : Vl) (lo hi : Option Int) (z : List D) (u : V) (Q : VK), Rep B σ H Hi as s → RelVl Hi as u x →
  o x lo hi s = some z → EndF B σ Hi as s Q z → r u lo hi H Q
def SlS (r : RSl) (o : Vl → Option Int → Option Int → S → Option Vl) : Prop := ∀ {mg : Str → Option Value} (B : Bd mg) (σ : St) (H Hi : Hp) (as : List Addr) (s : S) (x : Vl) (lo hi : Option Int) (z : Vl) (u : V) (Q : VK), Rep B σ H Hi as s → RelVl Hi as u x →
  o x lo hi s = some z → EndV B σ Hi as s Q z → r u lo hi H Q
def oSlL (x : Vl) (lo hi : Option Int) (s : S) : Option (List D) := (datL s x).map fun xs => cutD xs lo hi
theorem sl_lF {K : PySem.W.Frag} : SlF (rSlL K) oSlL := fun B σ H Hi as s x lo hi z u Q rp hu e q => by
  unfold oSlL at e
  cases h1 : datL s x with
  | none => rw [h1] at e; cases e
  | some xs =>
    rw [h1] at e; cases e
    obtain ⟨a, vs, rfl, ha, da⟩ := rp.datL hu h1
    exact ⟨a, vs, rfl, .inl (.inl ha), fun p hp => q.now rp hp (da.cut lo hi)⟩
def oSlT (x : Vl) (lo hi : Option Int) (_ : S) : Option Vl := match x with
  | .d (.tuple xs) => some (.d (.tuple (cutD xs lo hi)))
  | _ => none
theorem sl_tS {K : PySem.W.Frag} : SlS (rSlA K) oSlT := fun B σ H Hi as s x lo hi z u Q rp hu e q => by
  cases hu with
  | c q => cases e
  | d q' =>
    cases q' with
    | tup ha da =>
      rename_i a vs xs
      cases e
      refine ⟨a, vs, rfl, .inl (.inl (rp.tup ha)), fun ⟨k1, k2⟩ => ?_, fun _ p hp => ?_⟩
      · have ec : cutD xs lo hi = xs := by
          unfold cutD
          rw [da.length] at k1 k2
          rw [k1, k2]
          simp
        exact q.now rp (.d (.tup ha (by rw [ec]; exact da)))
      · have sm : Same Hi (upd Hi p (.tup (cutV vs lo hi))) := same_new (rp.fresh hp)
        exact q _ _ (rp.addI hp) sm _ (.d (.tup upd_same ((da.cut lo hi).mono sm)))
    | _ => cases e
def oSlS (x : Vl) (lo hi : Option Int) (_ : S) : Option Vl := match x with
  | .d (.str z) => if z.length ≤ 1000000 then some (.d (.str (cutS z lo hi))) else none
  | _ => none
theorem sl_sS : SlS rSlS oSlS := fun B σ H Hi as s x lo hi z u Q rp hu e q => by
  cases hu with
  | c q => cases e
  | d q' =>
    cases q' with
    | str zz =>
      simp only [oSlS] at e
      split at e
      · rename_i hn; cases e; exact ⟨zz, rfl, le_line hn, q.now rp (.d (.str _))⟩
      · cases e
    | _ => cases e
def slOr (o o' : Vl → Option Int → Option Int → S → Option Vl) : Vl → Option Int → Option Int → S → Option Vl := fun x lo hi s => match o x lo hi s with
  | some z => some z
  | none => o' x lo hi s
theorem sls_or {r r' : RSl} {o o' : Vl → Option Int → Option Int → S → Option Vl} (h : SlS r o) (h' : SlS r' o') : SlS (fun x lo hi H Q => r x lo hi H Q ∨ r' x lo hi H Q) (slOr o o') := fun B σ H Hi as s x lo hi z u Q rp hu e q => by
  unfold slOr at e
  cases k : o x lo hi s with
  | none => rw [k] at e; exact .inr (h' B σ H Hi as s x lo hi z u Q rp hu e q)
  | some w => rw [k] at e; cases e; exact .inl (h B σ H Hi as s x lo hi z u Q rp hu k q)
def oSlD (x : Vl) (lo hi : Option Int) (s : S) : Option Vl := (oSlL x lo hi s).map fun xs => .d (.list xs)
theorem sl_lS {K : PySem.W.Frag} : SlS (rSlL K) oSlD := fun B σ H Hi as s x lo hi z u Q rp hu e q => by
  unfold oSlD at e
  cases k : oSlL x lo hi s with
  | none => rw [k] at e; cases e
  | some xs => rw [k] at e; cases e; exact sl_lF B σ H Hi as s x lo hi xs u Q rp hu k q.dat
def fNoP : M (Option Int) := ret none
def fP (f : M Vl) : M (Option Int) := bnd f fun x => match x with
  | .d (.int i) => ret (some i)
  | _ => stuck
def fSl {α : Type} (o : Vl → Option Int → Option Int → S → Option α) (f : M Vl) (fl fh : M (Option Int)) : M α := bnd f fun x => bnd fl fun lo => bnd fh fun hi => gets (o x lo hi)
section
variable {mg : Str → Option Value} {W : WX} {B : Bd mg} {σ : St} {H Hi : Hp} {as : List Addr} {s : S}
variable {ta tb tc : TE} {fa fb fc : M Vl}
theorem so_none : SO mg W tNoPart fNoP := fun B σ H Hi as s Q rp w => OKs.now w rp
theorem so_some (h : SE mg W ta fa) : SO mg W (tPart ta) (fP fa) := fun B σ H Hi as s Q rp w => by
  refine h B σ H Hi as s _ rp (wp_mono (wp_bnd w) (fun x s1 w1 => ?_) fun _ _ z => z)
  intro H1 Hi1 as1 r1 e1 p1 v hv
  cases hv with
  | c q => exact w1.elim
  | d q =>
    cases q with
    | int i => exact ⟨i, rfl, w1 H1 Hi1 as1 r1 e1 p1⟩
    | _ => exact w1.elim
theorem three {tl th : TO} {fl fh : M (Option Int)} (ha : SE mg W ta fa) (hl : SO mg W tl fl) (hh : SO mg W th fh) {α : Type} {k : Vl → Option Int → Option Int → M α} {P : α → S → Prop} {R : V → Option Int → Option Int → Hp → Prop} (r : Rep B σ H Hi as s)
    (w : wpR (bnd fa (fun x => bnd fl fun lo => bnd fh fun hi => k x lo hi) s) P (XW mg W B σ Hi as))
    (hk : ∀ x lo hi s2 H2 Hi2 as2 u, Rep B σ H2 Hi2 as2 s2 → Same Hi Hi2 → as <+: as2 → RelVl Hi2 as2 u x → wpR (k x lo hi s2) P (XW mg W B σ Hi as) → R u lo hi H2) :
    ta σ H fun x H1 => tl σ H1 fun lo H2 => th σ H2 fun hi H3 => R x lo hi H3 := by
  refine ha B σ H Hi as s _ r (wp_mono (wp_bnd w) (fun x s1 w1 => ?_) fun _ _ z => z)
  intro H1 Hi1 as1 r1 e1 p1 u hu
  refine hl B σ H1 Hi1 as1 s1 _ r1 (wp_mono (wp_bnd w1) (fun lo s2 w2 => ?_) fun e s' z => XW.mono z e1 p1)
  intro H2 Hi2 as2 r2 e2 p2
  refine hh B σ H2 Hi2 as2 s2 _ r2 (wp_mono (wp_bnd w2) (fun hi s3 w3 => ?_) fun e s' z => XW.mono z (e1.trans e2) (p1.trans p2))
  intro H3 Hi3 as3 r3 e3 p3
  exact hk x lo hi s3 H3 Hi3 as3 u r3 ((e1.trans e2).trans e3) ((p1.trans p2).trans p3) (hu.mono (e2.trans e3) (p2.trans p3)) w3
theorem se_sl {tl th : TO} {fl fh : M (Option Int)} {r : RSl} {o : Vl → Option Int → Option Int → S → Option Vl} (ho : SlS r o) (ha : SE mg W ta fa) (hl : SO mg W tl fl) (hh : SO mg W th fh) : SE mg W (tSl r ta tl th) (fSl o fa fl fh) := fun B σ H Hi as s Q rp w => by
  refine three ha hl hh rp w fun x lo hi s2 H2 Hi2 as2 u r2 e2 p2 hu w2 => ?_
  obtain ⟨z, q, w3⟩ := wp_gets w2
  exact ho B σ H2 Hi2 as2 s2 x lo hi z u Q r2 hu q fun H' Hi' r' e' => w3 H' Hi' as2 r' (e2.trans e') p2
theorem sf_sl {tl th : TO} {fl fh : M (Option Int)} {r : RSl} {o : Vl → Option Int → Option Int → S → Option (List D)} (ho : SlF r o) (ha : SE mg W ta fa) (hl : SO mg W tl fl) (hh : SO mg W th fh) : SF mg W (tSl r ta tl th) (fSl o fa fl fh) := fun B σ H Hi as s Q rp w => by
  refine three ha hl hh rp w fun x lo hi s2 H2 Hi2 as2 u r2 e2 p2 hu w2 => ?_
  obtain ⟨z, q, w3⟩ := wp_gets w2
  exact ho B σ H2 Hi2 as2 s2 x lo hi z u Q r2 hu q fun H' Hi' r' e' => w3 H' Hi' as2 r' (e2.trans e') p2
end
end DL

end DLsec_3

section DLsec_4
set_option maxRecDepth 100000
namespace DL
open PySem PySem.Spec PyProof.Rows L2

/-! ### statements -/
def fSeq (f g : M Fl) : M Fl := fun s => match f s with
  | .ok .nx s' => g s'
  | r => r
def fNext : M Fl := ret .nx
def fExpr (f : M Vl) : M Fl := bnd f fun _ => ret .nx
def fRet (f : M Vl) : M Fl := bnd f fun x => ret (.rt x)
def fRetN : M Fl := ret (.rt (.d .none))
def fAsg (f : M Vl) (k : Vl → M Unit) : M Fl := bnd f fun x => bnd (k x) fun _ => ret .nx
def kName (i : Nat) : Vl → M Unit := fun x s => .ok () { s with sl := s.sl.set i (some x) }
def fPar (i j : Nat) (f : M (List Vl)) : M Fl := bnd f fun vs => match vs with
  | [x, y] => bnd (kName i x) fun _ => bnd (kName j y) fun _ => ret .nx
  | _ => stuck
def kNil : List D → M Unit
  | [] => ret ()
  | _ => stuck
def kCons (k : Vl → M Unit) (ks : List D → M Unit) : List D → M Unit
  | x :: xs => bnd (k (.d x)) fun _ => ks xs
  | [] => stuck
def kTup (n : Nat) (ks : List D → M Unit) : Vl → M Unit
  | .d (.tuple xs) => if xs.length = n then ks xs else stuck
  | _ => stuck
/-- what a for makes of its items -/
def forL (k : Vl → M Unit) (b : M Fl) : List D → M Fl
  | [] => ret .nx
  | x :: xs => fun s => match bnd (k (.d x)) (fun _ => b) s with
    | .ok .nx s' => forL k b xs s'
    | .ok .ct s' => forL k b xs s'
    | .ok .bk s' => .ok .nx s'
    | r => r
def fFor (f : M (List D)) (k : Vl → M Unit) (b : M Fl) : M Fl := bnd f fun xs => forL k b xs
def whl (c : M Bool) (b : M Fl) : Nat → M Fl
  | 0 => stuck
  | n + 1 => bnd c fun t => if t = true then (fun s => match b s with
      | .ok .nx s' => whl c b n s'
      | .ok .ct s' => whl c b n s'
      | .ok .bk s' => .ok .nx s'
      | r => r) else ret .nx
open Classical in
noncomputable def fWhile (c : M Bool) (b : M Fl) : M Fl := fun s => if h : ∃ n, whl c b n s ≠ .no then whl c b (Classical.choose h) s else .no
theorem whl_up {c : M Bool} {b : M Fl} : ∀ {n : Nat} {s : S}, whl c b n s ≠ .no → whl c b (n + 1) s = whl c b n s
  | 0, s, h => absurd rfl h
  | n + 1, s, h => by
    have e : ∀ m, whl c b (m + 1) s = bnd c (fun t => if t = true then (fun s => match b s with
      | .ok .nx s' => whl c b m s'
      | .ok .ct s' => whl c b m s'
      | .ok .bk s' => .ok .nx s'
      | r => r) else ret .nx) s := fun m => rfl
    rw [e n] at h
    rw [e (n + 1), e n]
    unfold bnd at h ⊢
    cases hc : c s with
    | no => rfl
    | ex x s' => rfl
    | ok t s' =>
      rw [hc] at h
      cases t with
      | false => rfl
      | true =>
        simp only [if_true] at h ⊢
        cases hb : b s' with
        | no => rfl
        | ex x s2 => rfl
        | ok fl s2 =>
          rw [hb] at h
          cases fl with
          | nx => exact whl_up h
          | ct => exact whl_up h
          | bk => rfl
          | rt v => rfl
theorem whl_le {c : M Bool} {b : M Fl} {s : S} {n m : Nat} (h : whl c b n s ≠ .no) (l : n ≤ m) : whl c b m s = whl c b n s := by
  induction l with
  | refl => rfl
  | step l ih => rw [whl_up (by rw [ih]; exact h), ih]
theorem fWhile_of {c : M Bool} {b : M Fl} {s : S} {n : Nat} (h : whl c b n s ≠ .no) : fWhile c b s = whl c b n s := by
  have hx : ∃ n, whl c b n s ≠ .no := ⟨n, h⟩
  unfold fWhile
  rw [dif_pos hx]
  have h1 := Classical.choose_spec hx
  rcases Nat.le_total (Classical.choose hx) n with l | l
  · exact (whl_le h1 l).symm
  · exact whl_le h l
/-- one turn -/
theorem fWhile_eq {c : M Bool} {b : M Fl} {s : S} {r : R Fl} (h : bnd c (fun t => if t = true then (fun s => match b s with
      | .ok .nx s' => fWhile c b s'
      | .ok .ct s' => fWhile c b s'
      | .ok .bk s' => .ok .nx s'
      | r => r) else ret .nx) s = r) (hr : r ≠ .no) : fWhile c b s = r := by
  have get : ∀ s', fWhile c b s' ≠ .no → ∃ n, whl c b n s' = fWhile c b s' := fun s' h => by
    by_cases hx : ∃ n, whl c b n s' ≠ .no
    · obtain ⟨n, hn⟩ := hx
      exact ⟨n, (fWhile_of hn).symm⟩
    · unfold fWhile at h
      rw [dif_neg hx] at h
      exact absurd rfl h
  have key : ∃ n, whl c b n s = r := by
    unfold bnd at h
    cases hc : c s with
    | no => rw [hc] at h; exact absurd h.symm hr
    | ex x s' => rw [hc] at h; refine ⟨1, ?_⟩; show bnd c _ s = r; unfold bnd; rw [hc]; exact h
    | ok t s' =>
      rw [hc] at h
      cases t with
      | false => refine ⟨1, ?_⟩; show bnd c _ s = r; unfold bnd; rw [hc]; exact h
      | true =>
        simp only [if_true] at h
        have fin : ∀ n, (match b s' with
            | .ok .nx s' => whl c b n s'
            | .ok .ct s' => whl c b n s'
            | .ok .bk s' => .ok .nx s'
            | r => r) = r → ∃ n, whl c b n s = r := fun n q => ⟨n + 1, by
          show bnd c _ s = r
          unfold bnd
          rw [hc]
          simp only [if_true]
          exact q⟩
        cases hb : b s' with
        | no => rw [hb] at h; exact absurd h.symm hr
        | ex x s2 => rw [hb] at h; exact fin 0 (by rw [hb]; exact h)
        | ok fl s2 =>
          rw [hb] at h
          cases fl with
          | nx =>
            obtain ⟨n, hn⟩ := get s2 (by rw [show fWhile c b s2 = r from h]; exact hr)
            exact fin n (by rw [hb]; exact hn.trans h)
          | ct =>
            obtain ⟨n, hn⟩ := get s2 (by rw [show fWhile c b s2 = r from h]; exact hr)
            exact fin n (by rw [hb]; exact hn.trans h)
          | bk => exact fin 0 (by rw [hb]; exact h)
          | rt v => exact fin 0 (by rw [hb]; exact h)
  obtain ⟨n, hn⟩ := key
  rw [fWhile_of (by rw [hn]; exact hr), hn]

/-- a target -/
def SG (mg : Str → Option Value) (W : WX) (g : TG) (k : Vl → M Unit) : Prop := ∀ (B : Bd mg) (σ : St) (H Hi : Hp) (as : List Addr) (s : S) (x : Vl) (v : V) (Q : St → Hp → Prop), Rep B σ H Hi as s → RelVl Hi as v x →
  wpR (k x s) (fun _ s' => ∀ σ', OKs B σ' Hi as s' fun H' _ _ => Q σ' H') (fun e s' => ∀ σ', XW mg W B σ' Hi as e s') → g v σ H Q
def SGs (mg : Str → Option Value) (W : WX) (g : TGs) (k : List D → M Unit) : Prop := ∀ (B : Bd mg) (σ : St) (H Hi : Hp) (as : List Addr) (s : S) (x : List D) (v : List V) (Q : St → Hp → Prop), Rep B σ H Hi as s → DqA Hi v x →
  wpR (k x s) (fun _ s' => ∀ σ', OKs B σ' Hi as s' fun H' _ _ => Q σ' H') (fun e s' => ∀ σ', XW mg W B σ' Hi as e s') → g v σ H Q
/-- what is walked: at each turn an item of the data list -/
def ItD (J : It) (L : List Addr) (Hi : Hp) (xs : List D) : Prop := ∀ {mg : Str → Option Value} (B : Bd mg), (∀ a ∈ L, a ∈ B.lk0 ++ B.lk1) → ∀ (σ : St) (H Hi' : Hp) (as : List Addr) (s : S), Rep B σ H Hi' as s → Same Hi Hi' → ∀ i : Nat,
  (∀ d, xs[i]? = some d → J.go i H ∧ ∀ x H', J.yld i H x H' → ∃ Hi'', Rep B σ H' Hi'' as s ∧ Same Hi' Hi'' ∧ Dq Hi'' x d) ∧ (xs.length ≤ i → J.stop i H)
def SI (mg : Str → Option Value) (W : WX) (wi : TI) (f : M (List D)) : Prop := ∀ (B : Bd mg) (σ : St) (H Hi : Hp) (as : List Addr) (s : S) (R : It → Hp → Prop), Rep B σ H Hi as s →
  wpR (f s) (fun xs s' => OKs B σ Hi as s' fun H' Hi' _ => ∀ J L, (∀ a ∈ L, a ∈ B.lk0 ++ B.lk1) → ItD J L Hi' xs → R J H') (XW mg W B σ Hi as) → wi σ H R

section
variable {mg : Str → Option Value} {W : WX} {B : Bd mg} {σ : St} {H Hi : Hp} {as : List Addr} {s : S}
variable {ta tb tc te : TE} {fa fb fc fe : M Vl} {t u : TS} {f g : M Fl} {c : TT} {fcnd : M Bool}

theorem ss_nil : SS mg W tNext fNext := fun B σ H Hi as s Dn rp w => OKs.now (w σ) rp
theorem ss_break : SS mg W tBreak (ret .bk) := fun B σ H Hi as s Dn rp w => OKs.now (w σ) rp
theorem ss_cont : SS mg W tCont (ret .ct) := fun B σ H Hi as s Dn rp w => OKs.now (w σ) rp
theorem ss_never : SS mg W tNever stuck := fun B σ H Hi as s Dn rp w => w.elim
theorem ss_retN : SS mg W tRetN fRetN := fun B σ H Hi as s Dn rp w => OKs.now (w σ) rp _ (.d .non)
theorem ss_cons (h1 : SS mg W t f) (h2 : SS mg W u g) : SS mg W (tSeq t u) (fSeq f g) := fun B σ H Hi as s Dn rp w => by
  refine h1 B σ H Hi as s { Dn with nx := u Dn } rp ?_
  unfold fSeq at w
  cases e : f s with
  | no => rw [e] at w; exact w
  | ex x s' => rw [e] at w; exact w
  | ok fl s' =>
    rw [e] at w
    cases fl with
    | nx =>
      intro σ' H' Hi' as' r' e' p'
      exact h2 B σ' H' Hi' as' s' Dn r' (wp_mono w (fun fl s2 z σ2 => OKs.mono (z σ2) e' p') fun x s2 z σ2 => XW.mono (z σ2) e' p')
    | rt v => exact w
    | bk => exact w
    | ct => exact w
theorem ss_expr (h : SE mg W ta fa) : SS mg W (tDrop ta) (fExpr fa) := fun B σ H Hi as s Dn rp w =>
  h B σ H Hi as s _ rp (wp_mono (wp_bnd w) (fun x s1 w1 H1 Hi1 as1 r1 e1 p1 v hv => w1 σ H1 Hi1 as1 r1 e1 p1) fun _ _ z => z σ)
theorem ss_ret (h : SE mg W ta fa) : SS mg W (tRet ta) (fRet fa) := fun B σ H Hi as s Dn rp w =>
  h B σ H Hi as s _ rp (wp_mono (wp_bnd w) (fun x s1 w1 H1 Hi1 as1 r1 e1 p1 v hv => w1 σ H1 Hi1 as1 r1 e1 p1 v hv) fun _ _ z => z σ)
theorem ss_if (h : ST mg W c fcnd) (h1 : SS mg W t f) (h2 : SS mg W u g) : SS mg W (tIfS c t u) (fIf fcnd f g) := fun B σ H Hi as s Dn rp w => by
  refine h B σ H Hi as s _ rp (wp_mono (wp_bnd w) (fun x s1 w1 => ?_) fun _ _ z => z σ)
  intro H1 Hi1 as1 r1 e1 p1
  cases x with
  | true => exact h1 B σ H1 Hi1 as1 s1 Dn r1 (wp_mono w1 (fun b s2 z σ2 => OKs.mono (z σ2) e1 p1) fun e s' z σ2 => XW.mono (z σ2) e1 p1)
  | false => exact h2 B σ H1 Hi1 as1 s1 Dn r1 (wp_mono w1 (fun b s2 z σ2 => OKs.mono (z σ2) e1 p1) fun e s' z σ2 => XW.mono (z σ2) e1 p1)
theorem sg_name {i : Nat} : SG mg W (gName i) (kName i) := fun B σ H Hi as s x v Q rp hv w => (w _) H Hi as (rp.bind hv) (Same.refl _) (List.prefix_refl _)
theorem sgs_nil : SGs mg W gNil kNil := fun B σ H Hi as s x v Q rp hv w => by
  cases hv with
  | nil => exact ⟨rfl, OKs.now (w σ) rp⟩
  | cons _ _ => exact w.elim
theorem sgs_cons {gt : TG} {gs : TGs} {k : Vl → M Unit} {ks : List D → M Unit} (h : SG mg W gt k) (hs : SGs mg W gs ks) : SGs mg W (gCons gt gs) (kCons k ks) := fun B σ H Hi as s x v Q rp hv w => by
  cases hv with
  | nil => exact w.elim
  | cons h1 h2 =>
    refine ⟨_, _, rfl, h B σ H Hi as s _ _ _ rp (.d h1) (wp_mono (wp_bnd w) (fun _ s1 w1 σ1 => ?_) fun _ _ z => z)⟩
    intro H1 Hi1 as1 r1 e1 p1
    exact hs B σ1 H1 Hi1 as1 s1 _ _ Q r1 (h2.mono e1) (wp_mono w1 (fun _ s2 z σ2 => OKs.mono (z σ2) e1 p1) fun e s2 z σ2 => XW.mono (z σ2) e1 p1)
theorem sg_tup {K : PySem.W.Frag} {n : Nat} {gs : TGs} {ks : List D → M Unit} (hs : SGs mg W gs ks) : SG mg W (gTup K n gs) (kTup n ks) := fun B σ H Hi as s x v Q rp hv w => by
  cases hv with
  | c q => exact w.elim
  | d q =>
    cases q with
    | tup h1 h2 =>
      simp only [kTup] at w
      split at w
      · rename_i hn
        exact ⟨_, _, rfl, .inl (.inl (rp.tup h1)), by rw [h2.length]; exact hn, hs B σ H Hi as s _ _ Q rp h2 w⟩
      · exact w.elim
    | _ => exact w.elim
theorem ss_asg {gt : TG} {k : Vl → M Unit} (h : SE mg W ta fa) (hg : SG mg W gt k) : SS mg W (tAsg ta gt) (fAsg fa k) := fun B σ H Hi as s Dn rp w => by
  refine h B σ H Hi as s _ rp (wp_mono (wp_bnd w) (fun x s1 w1 => ?_) fun _ _ z => z σ)
  intro H1 Hi1 as1 r1 e1 p1 v hv
  exact hg B σ H1 Hi1 as1 s1 x v _ r1 hv (wp_mono (wp_bnd w1) (fun _ s2 w2 σ2 => OKs.mono (w2 σ2) e1 p1) fun e s2 z σ2 => XW.mono (z σ2) e1 p1)
theorem ss_par {i j : Nat} {tA : TA} {fA : M (List Vl)} (h : SA mg W tA fA) : SS mg W (tPar i j tA) (fPar i j fA) := fun B σ H Hi as s Dn rp w => by
  refine h B σ H Hi as s _ rp (wp_mono (wp_bnd w) (fun xs s1 w1 => ?_) fun _ _ z => z σ)
  intro H1 Hi1 as1 r1 e1 p1 vs hv
  cases hv with
  | nil => exact w1.elim
  | cons a1 hv =>
    cases hv with
    | nil => exact w1.elim
    | cons a2 hv =>
      cases hv with
      | nil => exact ⟨_, _, rfl, (w1 _) H1 Hi1 as1 ((r1.bind a1).bind a2) e1 p1⟩
      | cons a3 hv => exact w1.elim
/-! ### loops -/
theorem ss_for {wi : TI} {gt : TG} {tb : TS} {fi : M (List D)} {k : Vl → M Unit} {fb : M Fl} (hi : SI mg W wi fi) (hg : SG mg W gt k) (hb : SS mg W tb fb) : SS mg W (tFor wi gt tb) (fFor fi k fb) := fun B σ H Hi as s Dn rp w => by
  refine hi B σ H Hi as s _ rp (wp_mono (wp_bnd w) (fun xs s1 w1 => ?_) fun _ _ z => z σ)
  intro H1 Hi1 as1 r1 e1 p1 J L hL hJ
  refine ⟨fun i m σ H => m + i = xs.length ∧ ∃ Hi2 as2 s2, Rep B σ H Hi2 as2 s2 ∧ Same Hi1 Hi2 ∧ as1 <+: as2 ∧
    wpR (forL k fb (xs.drop i) s2) (fun fl s' => ∀ σ', OKs B σ' Hi as s' fun H' Hi' as' => FlP Dn σ' H' Hi' as' fl) (fun e s' => ∀ σ', XW mg W B σ' Hi as e s'), ⟨xs.length, rfl, Hi1, as1, s1, r1, Same.refl _, List.prefix_refl _, w1⟩, ?_⟩
  rintro i m σ2 H2 ⟨hm, Hi2, as2, s2, r2, e2, p2, w2⟩
  obtain ⟨step, stop⟩ := hJ B hL σ2 H2 Hi2 as2 s2 r2 e2 i
  by_cases hlt : i < xs.length
  · obtain ⟨d, hd⟩ : ∃ d, xs[i]? = some d := ⟨_, List.getElem?_eq_getElem hlt⟩
    have ex : xs.drop i = d :: xs.drop (i + 1) := by
      rw [List.drop_eq_getElem_cons hlt]
      rw [List.getElem?_eq_getElem hlt] at hd
      cases hd; rfl
    rw [ex] at w2
    obtain ⟨go, yl⟩ := step d hd
    refine .inr ⟨go, fun σ' H' => ∃ Hi3 as3 s3, Rep B σ' H' Hi3 as3 s3 ∧ Same Hi1 Hi3 ∧ as1 <+: as3 ∧
      wpR (forL k fb (xs.drop (i + 1)) s3) (fun fl s' => ∀ σ', OKs B σ' Hi as s' fun H' Hi' as' => FlP Dn σ' H' Hi' as' fl) (fun e s' => ∀ σ', XW mg W B σ' Hi as e s'), ?_, ?_⟩
    · rintro σ' H' ⟨Hi3, as3, s3, r3, e3, p3, w3⟩
      exact ⟨m - 1, by omega, by omega, Hi3, as3, s3, r3, e3, p3, w3⟩
    · intro x H3 hy
      obtain ⟨Hi3, r3, e3, q3⟩ := yl x H3 hy
      refine hg B σ2 H3 Hi3 as2 s2 (.d d) x _ r3 (.d q3) ?_
      have w4 : wpR (bnd (k (.d d)) (fun _ => fb) s2) (fun fl s' => match fl with
          | .nx => wpR (forL k fb (xs.drop (i + 1)) s') (fun fl s' => ∀ σ', OKs B σ' Hi as s' fun H' Hi' as' => FlP Dn σ' H' Hi' as' fl) (fun e s' => ∀ σ', XW mg W B σ' Hi as e s')
          | .ct => wpR (forL k fb (xs.drop (i + 1)) s') (fun fl s' => ∀ σ', OKs B σ' Hi as s' fun H' Hi' as' => FlP Dn σ' H' Hi' as' fl) (fun e s' => ∀ σ', XW mg W B σ' Hi as e s')
          | .bk => ∀ σ', OKs B σ' Hi as s' fun H' Hi' as' => FlP Dn σ' H' Hi' as' .nx
          | .rt v => ∀ σ', OKs B σ' Hi as s' fun H' Hi' as' => FlP Dn σ' H' Hi' as' (.rt v)) (fun e s' => ∀ σ', XW mg W B σ' Hi as e s') := by
        simp only [forL] at w2
        cases q : bnd (k (.d d)) (fun _ => fb) s2 with
        | no => rw [q] at w2; exact w2
        | ex x s' => rw [q] at w2; exact w2
        | ok fl s' => rw [q] at w2; cases fl <;> exact w2
      have E1 : Same Hi Hi3 := (e1.trans e2).trans e3
      have P1 : as <+: as2 := p1.trans p2
      refine wp_mono (wp_bnd w4) (fun _ s4 w5 σ4 => ?_) fun e s4 z σ4 => XW.mono (z σ4) E1 P1
      intro H4 Hi4 as4 r4 e4 p4
      refine hb B σ4 H4 Hi4 as4 s4 _ r4 (wp_mono w5 (fun fl s5 w6 σ5 => ?_) fun e s5 z σ5 => XW.mono (z σ5) (E1.trans e4) (P1.trans p4))
      intro H5 Hi5 as5 r5 e5 p5
      have E5 : Same Hi1 Hi5 := ((e2.trans e3).trans e4).trans e5
      have P5 : as1 <+: as5 := (p2.trans p4).trans p5
      cases fl with
      | nx => exact ⟨Hi5, as5, s5, r5, E5, P5, w6⟩
      | ct => exact ⟨Hi5, as5, s5, r5, E5, P5, w6⟩
      | bk => exact w6 σ5 H5 Hi5 as5 r5 (e1.trans E5) (p1.trans P5)
      | rt v => exact w6 σ5 H5 Hi5 as5 r5 (e1.trans E5) (p1.trans P5)
  · have ex : xs.drop i = [] := List.drop_eq_nil_of_le (by omega)
    rw [ex] at w2
    exact .inl ⟨stop (by omega), w2 σ2 H2 Hi2 as2 r2 (e1.trans e2) (p1.trans p2)⟩
theorem ss_while {tb : TS} {fb : M Fl} (hc : ST mg W c fcnd) (hb : SS mg W tb fb) : SS mg W (tWhile c tb) (fWhile fcnd fb) := fun B σ H Hi as s Dn rp w => by
  have hx : ∃ n, whl fcnd fb n s ≠ .no := by
    refine Classical.byContradiction fun hn => ?_
    unfold fWhile at w
    rw [dif_neg hn] at w
    exact w
  obtain ⟨n, hn⟩ := hx
  rw [fWhile_of hn] at w
  refine ⟨fun m σ H => ∃ Hi2 as2 s2, Rep B σ H Hi2 as2 s2 ∧ Same Hi Hi2 ∧ as <+: as2 ∧
    wpR (whl fcnd fb m s2) (fun fl s' => ∀ σ', OKs B σ' Hi as s' fun H' Hi' as' => FlP Dn σ' H' Hi' as' fl) (fun e s' => ∀ σ', XW mg W B σ' Hi as e s'), ⟨n, Hi, as, s, rp, Same.refl _, List.prefix_refl _, w⟩, ?_⟩
  rintro m σ2 H2 ⟨Hi2, as2, s2, r2, e2, p2, w2⟩
  cases m with
  | zero => exact w2.elim
  | succ m =>
    refine hc B σ2 H2 Hi2 as2 s2 _ r2 (wp_mono (wp_bnd w2) (fun b s3 w3 => ?_) fun e s3 z => XW.mono (z σ2) e2 p2)
    intro H3 Hi3 as3 r3 e3 p3
    cases b with
    | false => exact w3 σ2 H3 Hi3 as3 r3 (e2.trans e3) (p2.trans p3)
    | true =>
      simp only [if_true] at w3 ⊢
      refine ⟨fun σ' H' => ∃ Hi4 as4 s4, Rep B σ' H' Hi4 as4 s4 ∧ Same Hi Hi4 ∧ as <+: as4 ∧
        wpR (whl fcnd fb m s4) (fun fl s' => ∀ σ', OKs B σ' Hi as s' fun H' Hi' as' => FlP Dn σ' H' Hi' as' fl) (fun e s' => ∀ σ', XW mg W B σ' Hi as e s'), fun σ' H' q => ⟨m, Nat.lt_succ_self m, q⟩, ?_⟩
      have w4 : wpR (fb s3) (fun fl s' => match fl with
          | .nx => wpR (whl fcnd fb m s') (fun fl s' => ∀ σ', OKs B σ' Hi as s' fun H' Hi' as' => FlP Dn σ' H' Hi' as' fl) (fun e s' => ∀ σ', XW mg W B σ' Hi as e s')
          | .ct => wpR (whl fcnd fb m s') (fun fl s' => ∀ σ', OKs B σ' Hi as s' fun H' Hi' as' => FlP Dn σ' H' Hi' as' fl) (fun e s' => ∀ σ', XW mg W B σ' Hi as e s')
          | .bk => ∀ σ', OKs B σ' Hi as s' fun H' Hi' as' => FlP Dn σ' H' Hi' as' .nx
          | .rt v => ∀ σ', OKs B σ' Hi as s' fun H' Hi' as' => FlP Dn σ' H' Hi' as' (.rt v)) (fun e s' => ∀ σ', XW mg W B σ' Hi as e s') := by
        cases q : fb s3 with
        | no => rw [q] at w3; exact w3
        | ex x s' => rw [q] at w3; exact w3
        | ok fl s' => rw [q] at w3; cases fl <;> exact w3
      have E3 : Same Hi Hi3 := e2.trans e3
      have P3 : as <+: as3 := p2.trans p3
      refine hb B σ2 H3 Hi3 as3 s3 _ r3 (wp_mono w4 (fun fl s5 w6 σ5 => ?_) fun e s5 z σ5 => XW.mono (z σ5) E3 P3)
      intro H5 Hi5 as5 r5 e5 p5
      cases fl with
      | nx => exact ⟨Hi5, as5, s5, r5, E3.trans e5, P3.trans p5, w6⟩
      | ct => exact ⟨Hi5, as5, s5, r5, E3.trans e5, P3.trans p5, w6⟩
      | bk => exact w6 σ5 H5 Hi5 as5 r5 (E3.trans e5) (P3.trans p5)
      | rt v => exact w6 σ5 H5 Hi5 as5 r5 (E3.trans e5) (P3.trans p5)
end
end DL

end DLsec_4

section DLsec_5
set_option maxRecDepth 100000
namespace DL
open PySem PySem.Spec PyProof.Rows L2

def fFrz (f : M Vl) : M Vl := fun s => match bnd f frz s with
  | .ok y s2 => .ok (.d y) ⟨s.sl, cutC s.ce.length s2.ce⟩
  | .ex e s2 => .ex e s2
  | .no => .no
/-! ### iterators -/
def asL : D → M (List D)
  | .list xs => ret xs
  | _ => stuck
def asT : D → M (List D)
  | .tuple xs => ret xs
  | _ => stuck
def fItL (f : M Vl) : M (List D) := bnd f fun x => bnd (frz x) asL
def fItT (f : M Vl) : M (List D) := bnd f fun x => bnd (frz x) asT
def orI {α : Type} (f g : M α) : M α := fun s => match f s with
  | .no => g s
  | r => r
def rng (lo : Int) (n : Nat) : List D := (List.range n).map fun i => .int (lo + (i : Nat))
def fRng1 (f : M (List Vl)) : M (List D) := bnd f fun vs => match vs with
  | [.d (.int j)] => if -1000000000 ≤ j ∧ j ≤ 1000000000 then ret (rng 0 j.toNat) else stuck
  | _ => stuck
def fRng2 (f : M (List Vl)) : M (List D) := bnd f fun vs => match vs with
  | [.d (.int i), .d (.int j)] => if (-1000000000 ≤ i ∧ i ≤ 1000000000) ∧ (-1000000000 ≤ j ∧ j ≤ 1000000000) then ret (rng i (j - i).toNat) else stuck
  | _ => stuck
def enumD (n : Nat) : List D → List D
  | [] => []
  | x :: xs => .tuple [.int (n : Nat), x] :: enumD (n + 1) xs
def zipD : List D → List D → List D
  | x :: xs, y :: ys => .tuple [x, y] :: zipD xs ys
  | _, _ => []
def fEnum (f : M (List Vl)) : M (List D) := bnd f fun vs => match vs with
  | [x] => bnd (frz x) fun d => bnd (asL d) fun xs => ret (enumD 0 xs)
  | _ => stuck
def fZip (f : M (List Vl)) : M (List D) := bnd f fun vs => match vs with
  | [x, y] => bnd (frz x) fun d => bnd (asL d) fun xs => bnd (frz y) fun e => bnd (asL e) fun ys => ret (zipD xs ys)
  | _ => stuck
/-! ### comprehensions -/
def wipeD (l : List (Option Vl)) : List Nat → List (Option Vl)
  | [] => l
  | v :: vs => (wipeD l vs).set v none
def lcT (k : Vl → M Unit) (t : M Bool) (e : M Vl) (x : D) : M (Option D) := bnd (k (.d x)) fun _ => bnd t fun b => if b = true then bnd (fFrz e) (fun v => match v with
  | .d d => ret (some d)
  | .c _ => stuck) else ret none
def lcL (k : Vl → M Unit) (t : M Bool) (e : M Vl) : List D → M (List D)
  | [] => ret []
  | x :: xs => fun s => match lcT k t e x s with
    | .ok o s' => (match lcL k t e xs ⟨s.sl, cutC s.ce.length s'.ce⟩ with
      | .ok ys s'' => .ok (o.toList ++ ys) s''
      | r => r)
    | .ex _ _ => .no
    | .no => .no
def fLc (fi : M (List D)) (k : Vl → M Unit) (t : M Bool) (e : M Vl) (vs : List Nat) : M (List D) := bnd fi fun xs s => if xs.length ≤ 1000000 then (match lcL k t e xs ⟨wipeD s.sl vs, s.ce⟩ with
  | .ok ys s' => .ok ys ⟨s.sl, s'.ce⟩
  | .ex _ _ => .no
  | .no => .no) else .no
def fYes : M Bool := ret true

section
variable {mg : Str → Option Value} {W : WX} {B : Bd mg} {σ : St} {H Hi : Hp} {as : List Addr} {s : S}
variable {ta tb tc te : TE} {fa fb fc fe : M Vl}
theorem Rep.cut {H' Hi' : Hp} {as' : List Addr} {s' : S} {σ' : St} (r : Rep B σ H Hi as s) (r' : Rep B σ' H' Hi' as' s') (e : Same Hi Hi') (p : as <+: as') : Rep B σ H' Hi' as ⟨s.sl, cutC s.ce.length s'.ce⟩ := by
  have pa : ∀ (j : Nat) (a : Addr), as[j]? = some a → as'[j]? = some a := fun j a h => by
    obtain ⟨t, rfl⟩ := p
    rw [List.getElem?_append_left (lt_of_get h)]
    exact h
  have look : ∀ (j : Nat) (c : Ce), (cutC s.ce.length s'.ce)[j]? = some c → ∃ c0, s'.ce[j]? = some c0 ∧ c = kl c0 := fun j c h => (cutC_get h).2
  have hl : as.length ≤ as'.length := p.length_le
  refine ⟨r'.sub, r'.lkd, r'.fr, r'.hin, fun j a c e1 e2 ax => ?_, r.len, fun i x h => ?_, ?_, fun j a c e1 e2 => ?_, fun i j a c c' e1 e2 e3 e4 a1 a2 => ?_⟩
  · obtain ⟨c0, q, rfl⟩ := look j c e2
    exact r'.new j a c0 (pa j a e1) q (kl_alive ax)
  · obtain ⟨v, q1, q2⟩ := r.slo i x h
    exact ⟨v, q1, q2.mono e (List.prefix_refl _)⟩
  · show as.length = (cutC s.ce.length s'.ce).length
    have h1 := r.lea
    have h2 := r'.lea
    rw [cutC_len]
    omega
  · obtain ⟨c0, q, rfl⟩ := look j c e2
    exact (r'.cel j a c0 (pa j a e1) q).kl
  · obtain ⟨c0, q, rfl⟩ := look i c e3
    obtain ⟨c1, q', rfl⟩ := look j c' e4
    exact r'.inj i j a c0 c1 (pa i a e1) (pa j a e2) q q' (kl_alive a1) (kl_alive a2)
theorem se_frz (h : SE mg W ta fa) : SE mg W ta (fFrz fa) := fun B σ H Hi as s Q rp w => by
  have w0 : wpR (bnd fa frz s) (fun y s2 => OKs B σ Hi as ⟨s.sl, cutC s.ce.length s2.ce⟩ fun H' Hi' as' => ∀ v, RelVl Hi' as' v (.d y) → Q v H') (XW mg W B σ Hi as) := by
    unfold fFrz at w
    cases e : bnd fa frz s with
    | ok y s2 => rw [e] at w; exact w
    | ex x s2 => rw [e] at w; exact w
    | no => rw [e] at w; exact w
  refine h B σ H Hi as s _ rp (wp_mono (wp_bnd w0) (fun x s1 w1 => ?_) fun _ _ z => z)
  intro H1 Hi1 as1 r1 e1 p1 v hv
  obtain ⟨y, s2, Hi2, w2, r2, e2, q2⟩ := r1.frz hv w1
  exact w2 H1 Hi2 as (rp.cut r2 (e1.trans e2) p1) (e1.trans e2) (List.prefix_refl _) v (.d q2)
/-- items of a list; of a tuple -/
theorem itd_list {K : PySem.W.Frag} {a : Addr} {vs : List V} {xs : List D} (h : Hi a = some (.lst vs)) (d : DqA Hi vs xs) : ItD (Itl K a) [] Hi xs := fun B _ σ H Hi' as s r e i => by
  have hs : SqL K H a vs := .inl (.inl (r.lst (e _ _ h)))
  refine ⟨fun y hy => ?_, fun hl => ⟨vs, hs, by rw [d.length]; exact hl⟩⟩
  obtain ⟨v, q1, q2⟩ := d.get hy
  refine ⟨⟨vs, v, hs, q1⟩, fun x H' ⟨e1, e2⟩ => ?_⟩
  subst e1
  have := e2 vs hs
  rw [q1] at this
  cases this
  exact ⟨Hi', r, Same.refl _, q2.mono e⟩
theorem itd_tup {K : PySem.W.Frag} {a : Addr} {vs : List V} {xs : List D} (h : Hi a = some (.tup vs)) (d : DqA Hi vs xs) : ItD (Itt K a) [] Hi xs := fun B _ σ H Hi' as s r e i => by
  have hs : SqT K H a vs := .inl (.inl (r.tup (e _ _ h)))
  refine ⟨fun y hy => ?_, fun hl => ⟨vs, hs, by rw [d.length]; exact hl⟩⟩
  obtain ⟨v, q1, q2⟩ := d.get hy
  refine ⟨⟨vs, v, hs, q1⟩, fun x H' ⟨e1, e2⟩ => ?_⟩
  subst e1
  have := e2 vs hs
  rw [q1] at this
  cases this
  exact ⟨Hi', r, Same.refl _, q2.mono e⟩
theorem si_list {K : PySem.W.Frag} (h : SE mg W ta fa) : SI mg W (iList K ta) (fItL fa) := fun B σ H Hi as s R rp w => by
  refine h B σ H Hi as s _ rp (wp_mono (wp_bnd w) (fun x s1 w1 => ?_) fun _ _ z => z)
  intro H1 Hi1 as1 r1 e1 p1 v hv
  obtain ⟨y, s2, Hi2, w2, r2, e2, q2⟩ := r1.frz hv (wp_bnd w1)
  cases q2 with
  | lst h1 h2 => exact ⟨_, rfl, ⟨_, .inl (.inl (r2.lst h1))⟩, w2 H1 Hi2 as1 r2 (e1.trans e2) p1 _ [] (by simp) (itd_list h1 h2)⟩
  | _ => exact w2.elim
theorem si_tup {K : PySem.W.Frag} (h : SE mg W ta fa) : SI mg W (iTup K ta) (fItT fa) := fun B σ H Hi as s R rp w => by
  refine h B σ H Hi as s _ rp (wp_mono (wp_bnd w) (fun x s1 w1 => ?_) fun _ _ z => z)
  intro H1 Hi1 as1 r1 e1 p1 v hv
  obtain ⟨y, s2, Hi2, w2, r2, e2, q2⟩ := r1.frz hv (wp_bnd w1)
  cases q2 with
  | tup h1 h2 => exact ⟨_, rfl, ⟨_, .inl (.inl (r2.tup h1))⟩, w2 H1 Hi2 as1 r2 (e1.trans e2) p1 _ [] (by simp) (itd_tup h1 h2)⟩
  | _ => exact w2.elim
theorem pi_or {X : Cx} {tg iter : Expr} {wi wi' : TI} (h : PI X tg iter wi) (h' : PI X tg iter wi') : PI X tg iter (fun σ H R => wi σ H R ∨ wi' σ H R) :=
  ⟨fun pins s σ H R I q => q.elim (h.run pins s σ H R I) (h'.run pins s σ H R I)⟩
theorem si_or {wi wi' : TI} {f g : M (List D)} (h : SI mg W wi f) (h' : SI mg W wi' g) : SI mg W (fun σ H R => wi σ H R ∨ wi' σ H R) (orI f g) := fun B σ H Hi as s R rp w => by
  unfold orI at w
  cases e : f s with
  | no => rw [e] at w; exact .inr (h' B σ H Hi as s R rp w)
  | ok a s' => rw [e] at w; exact .inl (h B σ H Hi as s R rp (by rw [e]; exact w))
  | ex x s' => rw [e] at w; exact .inl (h B σ H Hi as s R rp (by rw [e]; exact w))
theorem itd_rng {lo : Int} {n : Nat} : ItD (Itr lo n) [] Hi (rng lo n) := fun B _ σ H Hi' as s r e i => by
  refine ⟨fun y hy => ?_, fun hl => ?_⟩
  · unfold rng at hy
    rw [List.getElem?_map] at hy
    by_cases hi : i < n
    · rw [List.getElem?_range hi] at hy
      cases hy
      refine ⟨hi, fun x H' ⟨e1, e2⟩ => ?_⟩
      subst e1 e2
      exact ⟨Hi', r, Same.refl _, .int _⟩
    · rw [List.getElem?_eq_none (by simpa using hi)] at hy
      cases hy
  · show n ≤ i
    simpa [rng] using hl
theorem si_rng1 {tA : TA} {fA : M (List Vl)} (h : SA mg W tA fA) : SI mg W (iRng1 tA) (fRng1 fA) := fun B σ H Hi as s R rp w => by
  refine h B σ H Hi as s _ rp (wp_mono (wp_bnd w) (fun x s1 w1 => ?_) fun _ _ z => z)
  intro H1 Hi1 as1 r1 e1 p1 vs hv
  cases hv with
  | nil => exact w1.elim
  | cons a1 a2 =>
    cases a1 with
    | c q => cases a2 <;> exact w1.elim
    | d q =>
      cases a2 with
      | cons _ _ => cases q <;> exact w1.elim
      | nil =>
        cases q with
        | int j =>
          simp only at w1
          split at w1
          · rename_i hj
            exact ⟨j, rfl, by omega, by omega, w1 H1 Hi1 as1 r1 e1 p1 _ [] (by simp) itd_rng⟩
          · exact w1.elim
        | _ => exact w1.elim
theorem si_rng2 {tA : TA} {fA : M (List Vl)} (h : SA mg W tA fA) : SI mg W (iRng2 tA) (fRng2 fA) := fun B σ H Hi as s R rp w => by
  refine h B σ H Hi as s _ rp (wp_mono (wp_bnd w) (fun x s1 w1 => ?_) fun _ _ z => z)
  intro H1 Hi1 as1 r1 e1 p1 vs hv
  have key : ∃ i j : Int, vs = [.int i, .int j] ∧ x = [.d (.int i), .d (.int j)] := by
    cases hv with
    | nil => exact w1.elim
    | cons a1 a2 =>
      cases a1 with
      | c q => cases a2 <;> exact w1.elim
      | d q =>
        cases a2 with
        | nil => cases q <;> exact w1.elim
        | cons b1 b2 =>
          cases b1 with
          | c q' => cases q <;> cases b2 <;> exact w1.elim
          | d q' =>
            cases b2 with
            | cons _ _ => cases q <;> cases q' <;> exact w1.elim
            | nil =>
              cases q <;> first | exact w1.elim | skip
              cases q' <;> first | exact w1.elim | exact ⟨_, _, rfl, rfl⟩
  obtain ⟨i, j, rfl, rfl⟩ := key
  simp only at w1
  split at w1
  · rename_i hj
    exact ⟨i, j, rfl, by omega, w1 H1 Hi1 as1 r1 e1 p1 _ [] (by simp) itd_rng⟩
  · exact w1.elim
theorem enumD_get : ∀ {xs : List D} {n i : Nat}, (enumD n xs)[i]? = (xs[i]?).map fun x => .tuple [.int ((n + i : Nat) : Int), x]
  | [], n, i => by simp [enumD]
  | x :: xs, n, 0 => by simp [enumD]
  | x :: xs, n, i + 1 => by
    simp only [enumD, List.getElem?_cons_succ]
    rw [enumD_get]
    rw [show n + 1 + i = n + (i + 1) by omega]
theorem enumD_len : ∀ {xs : List D} {n : Nat}, (enumD n xs).length = xs.length
  | [], n => rfl
  | x :: xs, n => by simp [enumD, enumD_len]
theorem itd_enum {K : PySem.W.Frag} {a : Addr} {vs : List V} {xs : List D} (h : Hi a = some (.lst vs)) (d : DqA Hi vs xs) : ItD (Ite K a) [] Hi (enumD 0 xs) := fun B _ σ H Hi' as s r e i => by
  have hs : SqL K H a vs := .inl (.inl (r.lst (e _ _ h)))
  refine ⟨fun y hy => ?_, fun hl => ⟨vs, hs, by rw [d.length]; rw [enumD_len] at hl; exact hl⟩⟩
  rw [enumD_get] at hy
  cases hx : xs[i]? with
  | none => rw [hx] at hy; cases hy
  | some z =>
    rw [hx] at hy
    cases hy
    obtain ⟨v, q1, q2⟩ := d.get hx
    refine ⟨⟨vs, v, hs, q1⟩, fun x H' ⟨T, w, e1, nT, e2, e3⟩ => ?_⟩
    have := e3 vs hs
    rw [q1] at this
    cases this
    subst e1 e2
    have sm : Same Hi' (upd Hi' T (.tup [.int (i : Nat), v])) := same_new (r.fresh nT)
    refine ⟨_, r.addI nT, sm, .tup upd_same (.cons ?_ (.cons ((q2.mono e).mono sm) .nil))⟩
    rw [Nat.zero_add]
    exact .int _
theorem si_enum {K : PySem.W.Frag} {tA : TA} {fA : M (List Vl)} (h : SA mg W tA fA) : SI mg W (iEnum K tA) (fEnum fA) := fun B σ H Hi as s R rp w => by
  refine h B σ H Hi as s _ rp (wp_mono (wp_bnd w) (fun x s1 w1 => ?_) fun _ _ z => z)
  intro H1 Hi1 as1 r1 e1 p1 vs hv
  cases hv with
  | nil => exact w1.elim
  | cons a1 a2 =>
    cases a2 with
    | cons _ _ => exact w1.elim
    | nil =>
      obtain ⟨y, s2, Hi2, w2, r2, e2, q2⟩ := r1.frz a1 (wp_bnd w1)
      cases q2 with
      | lst h1 h2 => exact ⟨_, _, rfl, .inl (.inl (r2.lst h1)), w2 H1 Hi2 as1 r2 (e1.trans e2) p1 _ [] (by simp) (itd_enum h1 h2)⟩
      | _ => exact w2.elim
theorem zipD_get : ∀ {xs ys : List D} {i : Nat} {d : D}, (zipD xs ys)[i]? = some d → ∃ x y, xs[i]? = some x ∧ ys[i]? = some y ∧ d = .tuple [x, y]
  | [], ys, i, d, h => by simp [zipD] at h
  | x :: xs, [], i, d, h => by simp [zipD] at h
  | x :: xs, y :: ys, 0, d, h => by simp [zipD] at h; exact ⟨x, y, rfl, rfl, h.symm⟩
  | x :: xs, y :: ys, i + 1, d, h => by
    simp only [zipD, List.getElem?_cons_succ] at h ⊢
    exact zipD_get h
theorem zipD_len : ∀ {xs ys : List D}, (zipD xs ys).length = min xs.length ys.length
  | [], ys => by simp [zipD]
  | x :: xs, [] => by simp [zipD]
  | x :: xs, y :: ys => by simp only [zipD, List.length_cons, zipD_len]; omega
theorem itd_zip {K : PySem.W.Frag} {a b : Addr} {vs ws : List V} {xs ys : List D} (h : Hi a = some (.lst vs)) (d : DqA Hi vs xs) (h' : Hi b = some (.lst ws)) (d' : DqA Hi ws ys) : ItD (Itz K a b) [] Hi (zipD xs ys) := fun B _ σ H Hi' as s r e i => by
  have hs : SqL K H a vs := .inl (.inl (r.lst (e _ _ h)))
  have hs' : SqL K H b ws := .inl (.inl (r.lst (e _ _ h')))
  refine ⟨fun y hy => ?_, fun hl => ⟨vs, ws, hs, hs', by rw [d.length, d'.length]; rw [zipD_len] at hl; omega⟩⟩
  obtain ⟨p, q, hp, hq, rfl⟩ := zipD_get hy
  obtain ⟨v, q1, q2⟩ := d.get hp
  obtain ⟨v', q1', q2'⟩ := d'.get hq
  refine ⟨⟨vs, ws, v, v', hs, hs', q1, q1'⟩, fun x H' ⟨T, w, w', e1, nT, e2, e3, e4⟩ => ?_⟩
  have z1 := e3 vs hs
  rw [q1] at z1
  cases z1
  have z2 := e4 ws hs'
  rw [q1'] at z2
  cases z2
  subst e1 e2
  have sm : Same Hi' (upd Hi' T (.tup [v, v'])) := same_new (r.fresh nT)
  exact ⟨_, r.addI nT, sm, .tup upd_same (.cons ((q2.mono e).mono sm) (.cons ((q2'.mono e).mono sm) .nil))⟩
theorem si_zip {K : PySem.W.Frag} {tA : TA} {fA : M (List Vl)} (h : SA mg W tA fA) : SI mg W (iZip K tA) (fZip fA) := fun B σ H Hi as s R rp w => by
  refine h B σ H Hi as s _ rp (wp_mono (wp_bnd w) (fun x s1 w1 => ?_) fun _ _ z => z)
  intro H1 Hi1 as1 r1 e1 p1 vs hv
  cases hv with
  | nil => exact w1.elim
  | cons a1 a2 =>
    cases a2 with
    | nil => exact w1.elim
    | cons b1 b2 =>
      cases b2 with
      | cons _ _ => exact w1.elim
      | nil =>
        obtain ⟨y, s2, Hi2, w2, r2, e2, q2⟩ := r1.frz a1 (wp_bnd w1)
        cases q2 with
        | lst h1 h2 =>
          obtain ⟨y', s3, Hi3, w3, r3, e3, q3⟩ := r2.frz (b1.mono e2 (List.prefix_refl _)) (wp_bnd w2)
          cases q3 with
          | lst h3 h4 =>
            exact ⟨_, _, _, _, rfl, .inl (.inl (r3.lst (e3 _ _ h1))), .inl (.inl (r3.lst h3)), w3 H1 Hi3 as1 r3 ((e1.trans e2).trans e3) p1 _ [] (by simp) (itd_zip (e3 _ _ h1) (h2.mono e3) h3 h4)⟩
          | _ => exact w3.elim
        | _ => exact w2.elim
end
end DL

end DLsec_5

section DLsec_6
set_option maxRecDepth 100000
namespace DL
open PySem PySem.Spec PyProof.Rows L2

abbrev WF : WX := fun _ _ _ _ => False
def era (H : Hp) (p : Addr) : Hp := fun b => if b = p then none else H b
theorem era_same {H : Hp} {p : Addr} : era H p p = none := by unfold era; rw [if_pos rfl]
theorem era_ne {H : Hp} {p b : Addr} (h : b ≠ p) : era H p b = H b := by unfold era; rw [if_neg h]
theorem upd_era {H : Hp} {p : Addr} {o : HO} (h : H p = some o) : upd (era H p) p o = H := by
  funext b
  by_cases e : b = p
  · subst e; rw [upd_same, h]
  · rw [upd_ne e, era_ne e]
section
variable {mg : Str → Option Value} {W : WX} {B : Bd mg} {σ : St} {H Hi : Hp} {as : List Addr} {s : S}
variable {ta tb tc te : TE} {fa fb fc fe : M Vl}
theorem wipe_get {l : List (Option Vl)} {i : Nat} {x : Vl} : ∀ {vs : List Nat}, (wipeD l vs)[i]? = some (some x) → l[i]? = some (some x) ∧ i ∉ vs
  | [], h => ⟨h, by simp⟩
  | v :: vs, h => by
    unfold wipeD at h
    by_cases e : i = v
    · subst e
      rw [List.getElem?_set] at h
      simp at h
    · rw [List.getElem?_set_ne (Ne.symm e)] at h
      obtain ⟨h1, h2⟩ := wipe_get (vs := vs) h
      exact ⟨h1, by simp [e, h2]⟩
theorem wipeD_length (l : List (Option Vl)) : ∀ vs : List Nat, (wipeD l vs).length = l.length
  | [] => rfl
  | v :: vs => by unfold wipeD; rw [List.length_set, wipeD_length l vs]
theorem Rep.wipe (r : Rep B σ H Hi as s) (vs : List Nat) : Rep B (L2.wipe σ vs) H Hi as ⟨wipeD s.sl vs, s.ce⟩ := by
  refine ⟨r.sub, r.lkd, r.fr, r.hin, r.new, ?_, fun i x h => ?_, r.lea, r.cel, r.inj⟩
  · rw [L2.wipe_length, r.len]; exact (wipeD_length s.sl vs).symm
  · obtain ⟨h1, h2⟩ := wipe_get h
    obtain ⟨v, q1, q2⟩ := r.slo i x h1
    exact ⟨v, by rw [wipe_out h2]; exact q1, q2⟩
theorem wipe_in {σ : St} {i : Nat} : ∀ {vs : List Nat}, i ∈ vs → (L2.wipe σ vs)[i]? = if i < σ.length then some none else none
  | [], h => by cases h
  | v :: vs, h => by
    unfold L2.wipe
    by_cases e : i = v
    · subst e
      rw [List.getElem?_set]
      simp [L2.wipe_length]
    · rw [List.getElem?_set_ne (Ne.symm e)]
      cases h with
      | head => exact absurd rfl e
      | tail _ h => exact wipe_in h
theorem wipe_wipe (σ : St) (vs : List Nat) : L2.wipe (L2.wipe σ vs) vs = L2.wipe σ vs := by
  refine List.ext_getElem? fun i => ?_
  by_cases h : i ∈ vs
  · rw [wipe_in h, wipe_in h, L2.wipe_length]
  · rw [wipe_out h]
/-! ### a part with a frame of its own -/
def aliveA (as : List Addr) (ce : List Ce) : List Addr := ((as.zip ce).filter fun p => p.2.alive).map (·.1)
theorem mem_aliveA {as : List Addr} {ce : List Ce} {a : Addr} : a ∈ aliveA as ce ↔ ∃ (j : Nat) (c : Ce), as[j]? = some a ∧ ce[j]? = some c ∧ c.alive = true := by
  unfold aliveA
  constructor
  · intro h
    obtain ⟨⟨x, c⟩, h1, h2⟩ := List.mem_map.mp h
    obtain ⟨h3, h4⟩ := List.mem_filter.mp h1
    obtain ⟨j, hj⟩ := List.getElem?_of_mem h3
    rw [List.getElem?_zip_eq_some] at hj
    cases h2
    exact ⟨j, c, hj.1, hj.2, h4⟩
  · rintro ⟨j, c, h1, h2, h3⟩
    exact List.mem_map.mpr ⟨(a, c), List.mem_filter.mpr ⟨List.mem_of_getElem? (List.getElem?_zip_eq_some.mpr ⟨h1, h2⟩), h3⟩, rfl⟩
def Bd.sub {mg : Str → Option Value} (B : Bd mg) (H Hi : Hp) (as : List Addr) (ce : List Ce) : Bd mg := ⟨H, Hi, aliveA as ce, B.lk0 ++ B.lk1, []⟩
theorem Rep.enter (r : Rep B σ H Hi as s) : Rep (B.sub H Hi as s.ce) σ H Hi as s := by
  refine ⟨fun b o e => ?_, fun b hb => r.lkd b ?_, fun b o e n => ?_, fun b o e => .inl e, fun j a c e1 e2 al => .inl (mem_aliveA.mpr ⟨j, c, e1, e2, al⟩), r.len, r.slo, r.lea, r.cel, r.inj⟩
  · show HL (B.lk0 ++ B.lk1 ++ []) H b o
    rw [List.append_nil]
    exact r.sub b o e
  · have hb' : b ∈ B.lk0 ++ B.lk1 ++ [] := hb
    rw [List.append_nil] at hb'
    exact hb'
  · show HL [] H b o
    unfold HL
    rw [if_neg (by simp)]
    exact e
theorem Rep.leave {σ' : St} {H' Hi' : Hp} {as' : List Addr} {s' : S} (r : Rep B σ H Hi as s) (r' : Rep (B.sub H Hi as s.ce) σ' H' Hi' as' s') : Rep B σ' H' Hi' as' s' := by
  have own : ∀ a, a ∈ aliveA as s.ce → a ∈ B.A0 ∨ B.H0 a = none := fun a h => by
    obtain ⟨j, c, h1, h2, h3⟩ := mem_aliveA.mp h
    exact r.new j a c h1 h2 h3
  refine ⟨fun b o e => ?_, fun b hb => r'.lkd b ?_, fun b o e n => ?_, fun b o e => ?_, fun j a c e1 e2 al => ?_, r'.len, r'.slo, r'.lea, r'.cel, r'.inj⟩
  · have := r'.sub b o e
    have q : HL (B.lk0 ++ B.lk1 ++ []) H' b o := this
    rw [List.append_nil] at q
    exact q
  · show b ∈ B.lk0 ++ B.lk1 ++ []
    rw [List.append_nil]
    exact hb
  · have h1 := r.fr b o e n
    have keep : ∀ u, H b = some u → H' b = some u := fun u hu => by
      have hn : b ∉ aliveA as s.ce := fun z => by
        rcases own b z with q | q
        · exact n q
        · rw [q] at e; cases e
      have q : HL [] H' b u := r'.fr b u hu hn
      unfold HL at q
      rw [if_neg (by simp)] at q
      exact q
    unfold HL at h1 ⊢
    split
    · rename_i hb
      rw [if_pos hb] at h1
      obtain ⟨ob, q⟩ := h1
      exact ⟨ob, keep _ q⟩
    · rename_i hb
      rw [if_neg hb] at h1
      exact keep _ h1
  · rcases r'.hin b o e with q | q | q
    · exact r.hin b o q
    · exact .inr (r.fresh0 q)
    · exact .inr ((own b q).symm)
  · rcases r'.new j a c e1 e2 al with q | q
    · exact own a q
    · exact (r.fresh0 q).symm
/-- the new list of a comprehension is nobody's -/
theorem Rep.era (r : Rep B σ H Hi as s) {p : Addr} (h1 : Hi p = none) (h2 : B.H0 p = none ∨ p ∈ B.A0) (h3 : ∀ (j : Nat) (c : Ce), as[j]? = some p → s.ce[j]? = some c → c.alive = false) : Rep B σ (era H p) Hi as s := by
  have up : ∀ {lk : List Addr} {b : Addr} {o : HO}, HL lk H b o → b ≠ p → HL lk (DL.era H p) b o := fun {lk b o} h n => by
    unfold HL at h ⊢
    rw [era_ne n]
    exact h
  refine ⟨fun b o e => up (r.sub b o e) (ne_of_none e h1), r.lkd, fun b o e n => up (r.fr b o e n) (fun z => by subst z; rcases h2 with q | q; (rw [q] at e; cases e); exact n q), r.hin, r.new, r.len, r.slo, r.lea, fun j a c e1 e2 => ?_, r.inj⟩
  refine (r.cel j a c e1 e2).mono (Same.refl _) (List.prefix_refl _) (fun _ => rfl) fun al => era_ne fun z => ?_
  subst z
  rw [h3 j c e1 e2] at al
  cases al
/-- target and tests of a comprehension leave all names but their own -/
def KeepS (g : TG) (vs : List Nat) : Prop := ∀ (v : V) (σ : St) (H : Hp) (Q : St → Hp → Prop), g v σ H Q → g v σ H fun σ' H' => L2.wipe σ' vs = L2.wipe σ vs ∧ Q σ' H'
theorem keep_name {i : Nat} {vs : List Nat} (h : i ∈ vs) : KeepS (gName i) vs := fun v σ H Q q => by
  refine ⟨?_, q⟩
  clear q
  induction vs with
  | nil => cases h
  | cons a vs ih =>
    unfold L2.wipe
    by_cases e : i = a
    · subst e
      by_cases hm : i ∈ vs
      · rw [ih hm]
      · have key : ∀ ws : List Nat, i ∉ ws → L2.wipe (σ.set i (some v)) ws = (L2.wipe σ ws).set i (some v) := fun ws hw => by
          induction ws with
          | nil => rfl
          | cons b ws ih2 =>
            simp only [List.mem_cons, not_or] at hw
            unfold L2.wipe
            rw [ih2 hw.2, List.set_comm _ _ hw.1]
        rw [key vs hm, List.set_set]
    · have hm : i ∈ vs := by
        cases h with
        | head => exact absurd rfl e
        | tail _ h => exact h
      rw [ih hm]
def KeepSs (g : TGs) (vs : List Nat) : Prop := ∀ (v : List V) (σ : St) (H : Hp) (Q : St → Hp → Prop), g v σ H Q → g v σ H fun σ' H' => L2.wipe σ' vs = L2.wipe σ vs ∧ Q σ' H'
theorem keep_nil {vs : List Nat} : KeepSs gNil vs := fun v σ H Q q => ⟨q.1, rfl, q.2⟩
theorem mono_name {i : Nat} {v : V} {σ : St} {H : Hp} {Q Q' : St → Hp → Prop} (h : ∀ σ H, Q σ H → Q' σ H) (q : gName i v σ H Q) : gName i v σ H Q' := h _ _ q
def MonoG (g : TG) : Prop := ∀ (v : V) (σ : St) (H : Hp) (Q Q' : St → Hp → Prop), (∀ σ H, Q σ H → Q' σ H) → g v σ H Q → g v σ H Q'
def MonoGs (g : TGs) : Prop := ∀ (v : List V) (σ : St) (H : Hp) (Q Q' : St → Hp → Prop), (∀ σ H, Q σ H → Q' σ H) → g v σ H Q → g v σ H Q'
structure KG (g : TG) (vs : List Nat) : Prop where
  keep : KeepS g vs
  mono : MonoG g
structure KGs (g : TGs) (vs : List Nat) : Prop where
  keep : KeepSs g vs
  mono : MonoGs g
theorem kg_name {i : Nat} {vs : List Nat} (h : i ∈ vs) : KG (gName i) vs := ⟨keep_name h, fun v σ H Q Q' m q => m _ _ q⟩
theorem kgs_nil {vs : List Nat} : KGs gNil vs := ⟨keep_nil, fun v σ H Q Q' m q => ⟨q.1, m _ _ q.2⟩⟩
theorem kgs_cons {g : TG} {gs : TGs} {vs : List Nat} (h : KG g vs) (hs : KGs gs vs) : KGs (gCons g gs) vs :=
  ⟨fun v σ H Q ⟨a, r, e, q⟩ => ⟨a, r, e, h.mono _ _ _ _ _ (fun σ1 H1 ⟨k, q1⟩ => hs.mono _ _ _ _ _ (fun σ2 H2 ⟨k2, q2⟩ => ⟨k2.trans k, q2⟩) (hs.keep _ _ _ _ q1)) (h.keep _ _ _ _ q)⟩,
    fun v σ H Q Q' m ⟨a, r, e, q⟩ => ⟨a, r, e, h.mono _ _ _ _ _ (fun σ1 H1 q1 => hs.mono _ _ _ _ _ m q1) q⟩⟩
theorem kg_tup {K : PySem.W.Frag} {n : Nat} {gs : TGs} {vs : List Nat} (hs : KGs gs vs) : KG (gTup K n gs) vs :=
  ⟨fun v σ H Q ⟨a, xs, e, q1, q2, q3⟩ => ⟨a, xs, e, q1, q2, hs.keep _ _ _ _ q3⟩, fun v σ H Q Q' m ⟨a, xs, e, q1, q2, q3⟩ => ⟨a, xs, e, q1, q2, hs.mono _ _ _ _ _ m q3⟩⟩
theorem st_yes : ST mg W tYes fYes := fun B σ H Hi as s Q rp w => OKs.now w rp
theorem sf_lc {wi : TI} {g : TG} {tt : TT} {vs : List Nat} {fi : M (List D)} {k : Vl → M Unit} {ft : M Bool} (hi : SI mg W wi fi) (hg : SG mg WF g k) (hk : KG g vs) (ht : ST mg WF tt ft) (he : SE mg WF te fe) : SF mg W (tLc wi g tt te vs) (fLc fi k ft fe vs) := fun B σ H Hi as s Q rp w => by
  refine hi B σ H Hi as s _ rp (wp_mono (wp_bnd w) (fun xs s1 w1 => ?_) fun _ _ z => z)
  intro H1 Hi1 as1 r1 e1 p1 J L hL hJ D hD
  by_cases hn : xs.length ≤ 1000000
  case neg => rw [if_neg hn] at w1; exact w1.elim
  rw [if_pos hn] at w1
  obtain ⟨ys, ce', q0, w2⟩ : ∃ ys s', lcL k ft fe xs ⟨wipeD s1.sl vs, s1.ce⟩ = .ok ys s' ∧ OKs B σ Hi as ⟨s1.sl, s'.ce⟩ (fun H' Hi' as' => ∀ p vs, H' p = none → DqA Hi' vs ys → Q (.ref p) (upd H' p (.lst vs))) := by
    cases e : lcL k ft fe xs ⟨wipeD s1.sl vs, s1.ce⟩ with
    | ok ys s' => rw [e] at w1; exact ⟨ys, s', rfl, w1⟩
    | ex x s' => rw [e] at w1; exact w1.elim
    | no => rw [e] at w1; exact w1.elim
  have HiD : Hi1 D = none := r1.fresh hD
  refine ⟨fun i m H => m + i = xs.length ∧ ∃ acc yacc ce Hi2, H D = some (.lst acc) ∧ acc.length ≤ i ∧ Hi2 D = none ∧ Rep B (L2.wipe σ vs) (era H D) Hi2 as1 ⟨wipeD s1.sl vs, ce⟩ ∧ Same Hi1 Hi2 ∧ DqA Hi2 acc yacc ∧
    ∃ zs s', lcL k ft fe (xs.drop i) ⟨wipeD s1.sl vs, ce⟩ = .ok zs s' ∧ yacc ++ zs = ys ∧ s' = ce', ⟨xs.length, rfl, [], [], s1.ce, Hi1, upd_same, Nat.zero_le _, HiD, ?_, Same.refl _, .nil, ys, ce', q0, rfl, rfl⟩, ?_⟩
  · have ee : era (upd H1 D (.lst [])) D = H1 := by
      funext b
      by_cases z : b = D
      · subst z; rw [era_same, hD]
      · rw [era_ne z, upd_ne z]
    rw [ee]
    exact r1.wipe vs
  · rintro i m H2 ⟨hm, acc, yacc, ce, Hi2, hDa, hal, hHiD, r2, e2, da, zs, s', q2, hys, hs'⟩
    have r2' : Rep B (L2.wipe σ vs) H2 Hi2 as1 ⟨wipeD s1.sl vs, ce⟩ := by
      have := r2.add (o := .lst acc) (p := D) era_same
      rw [upd_era hDa] at this
      exact this
    have hDA : D ∉ aliveA as1 ce := fun z => by
      obtain ⟨j, c, h1, h2, h3⟩ := mem_aliveA.mp z
      exact (r2.cel j D c h1 h2).ne_new h3 era_same rfl
    have rb := r2'.enter
    have hL' : ∀ a ∈ L, a ∈ (B.sub H2 Hi2 as1 ce).lk0 ++ (B.sub H2 Hi2 as1 ce).lk1 := fun a ha => by
      show a ∈ B.lk0 ++ B.lk1 ++ []
      rw [List.append_nil]
      exact hL a ha
    obtain ⟨step, stop⟩ := hJ _ hL' (L2.wipe σ vs) H2 Hi2 as1 _ rb e2 i
    by_cases hlt : i < xs.length
    · obtain ⟨d, hd⟩ : ∃ d, xs[i]? = some d := ⟨_, List.getElem?_eq_getElem hlt⟩
      have ex : xs.drop i = d :: xs.drop (i + 1) := by
        rw [List.drop_eq_getElem_cons hlt]
        rw [List.getElem?_eq_getElem hlt] at hd
        cases hd; rfl
      rw [ex] at q2
      obtain ⟨go, yl⟩ := step d hd
      -- what stands at D behind a part with its own frame
      have keepD : ∀ {σ' : St} {H' Hi' : Hp} {as' : List Addr} {s' : S}, Rep (B.sub H2 Hi2 as1 ce) σ' H' Hi' as' s' → H' D = some (.lst acc) ∧ Hi' D = none := fun {σ' H' Hi' as' s'} r => by
        refine ⟨?_, ?_⟩
        · have q : HL [] H' D (.lst acc) := r.fr D _ hDa hDA
          unfold HL at q
          rw [if_neg (by simp)] at q
          exact q
        · cases z : Hi' D with
          | none => rfl
          | some o =>
            rcases r.hin D o z with q | q | q
            · have q' : Hi2 D = some o := q
              rw [hHiD] at q'; cases q'
            · have q' : H2 D = none := q
              rw [hDa] at q'; cases q'
            · exact absurd q hDA
      -- behind the turn
      have fin : ∀ {σ' : St} {H' Hi' : Hp} {as' : List Addr} {s' : S} (acc' : List V), Rep (B.sub H2 Hi2 as1 ce) σ' H' Hi' as' s' → Same Hi2 Hi' → as1 <+: as' →
          Rep B (L2.wipe σ vs) (era (upd H' D (.lst acc')) D) Hi' as1 ⟨wipeD s1.sl vs, cutC ce.length s'.ce⟩ := fun {σ' H' Hi' as' s'} acc' r e p => by
        have rc : Rep B (L2.wipe σ vs) H' Hi' as1 ⟨wipeD s1.sl vs, cutC ce.length s'.ce⟩ := r2'.leave (rb.cut r e p)
        have ee : era (upd H' D (.lst acc')) D = era H' D := by
          funext b
          by_cases z : b = D
          · subst z; rw [era_same, era_same]
          · rw [era_ne z, era_ne z, upd_ne z]
        rw [ee]
        refine rc.era (keepD r).2 (r2.fresh0 era_same) fun j c h1 h2 => ?_
        cases al : c.alive with
        | false => rfl
        | true =>
          rcases (rb.cut r e p).new j D c h1 h2 al with q | q
          · exact absurd q hDA
          · have q' : H2 D = none := q
            rw [hDa] at q'; cases q'
      refine .inr ⟨go, fun H' => ∃ acc yacc ce Hi2, H' D = some (.lst acc) ∧ acc.length ≤ i + 1 ∧ Hi2 D = none ∧ Rep B (L2.wipe σ vs) (era H' D) Hi2 as1 ⟨wipeD s1.sl vs, ce⟩ ∧ Same Hi1 Hi2 ∧ DqA Hi2 acc yacc ∧
        ∃ zs s', lcL k ft fe (xs.drop (i + 1)) ⟨wipeD s1.sl vs, ce⟩ = .ok zs s' ∧ yacc ++ zs = ys ∧ s' = ce', ?_, ?_⟩
      · rintro H' ⟨acc, yacc, ce, Hi3, z⟩
        exact ⟨m - 1, by omega, by omega, acc, yacc, ce, Hi3, z⟩
      · intro x H3 hy
        obtain ⟨Hi3, r3, e3, q3⟩ := yl x H3 hy
        obtain ⟨o, s4, zs', q4, q5, rfl⟩ : ∃ o s4 zs', lcT k ft fe d ⟨wipeD s1.sl vs, ce⟩ = .ok o s4 ∧ lcL k ft fe (xs.drop (i + 1)) ⟨wipeD s1.sl vs, cutC ce.length s4.ce⟩ = .ok zs' s' ∧ zs = o.toList ++ zs' := by
          simp only [lcL] at q2
          cases z : lcT k ft fe d ⟨wipeD s1.sl vs, ce⟩ with
          | no => rw [z] at q2; cases q2
          | ex x s' => rw [z] at q2; cases q2
          | ok o s4 =>
            rw [z] at q2
            simp only at q2
            cases z2 : lcL k ft fe (xs.drop (i + 1)) ⟨wipeD s1.sl vs, cutC ce.length s4.ce⟩ with
            | no => rw [z2] at q2; cases q2
            | ex x s' => rw [z2] at q2; cases q2
            | ok ys' s'' => rw [z2] at q2; cases q2; exact ⟨o, s4, ys', rfl, z2, rfl⟩
        have w4 : wpR (lcT k ft fe d ⟨wipeD s1.sl vs, ce⟩) (fun o' s' => o' = o ∧ s' = s4) (fun _ _ => False) := by rw [q4]; exact ⟨rfl, rfl⟩
        refine hk.mono _ _ _ _ _ (fun σ5 H5 ⟨k5, q⟩ => ⟨by rw [k5, wipe_wipe], q⟩) (hk.keep _ _ _ _ (hg _ _ H3 Hi3 as1 _ (.d d) x _ r3 (.d q3) (wp_mono (wp_bnd w4) (fun _ s5 w5 σ5 => ?_) fun _ _ z => z.elim)))
        intro H5 Hi5 as5 r5 e5 p5
        refine ht _ σ5 H5 Hi5 as5 s5 _ r5 (wp_mono (wp_bnd w5) (fun b s6 w6 => ?_) fun _ _ z => z.elim)
        intro H6 Hi6 as6 r6 e6 p6
        have E6 : Same Hi2 Hi6 := (e3.trans e5).trans e6
        cases b with
        | false =>
          obtain ⟨rfl, rfl⟩ := w6
          have := fin acc r6 E6 (p5.trans p6)
          obtain ⟨k1, k2⟩ := keepD r6
          refine ⟨acc, yacc, _, Hi6, k1, by omega, k2, ?_, e2.trans E6, da.mono E6, zs', s', q5, by simpa using hys, hs'⟩
          have ee : era (upd H6 D (.lst acc)) D = era H6 D := by
            funext b
            by_cases z : b = D
            · subst z; rw [era_same, era_same]
            · rw [era_ne z, era_ne z, upd_ne z]
          rw [ee] at this
          exact this
        | true =>
          simp only [if_true] at w6 ⊢
          refine se_frz he _ σ5 H6 Hi6 as6 s6 _ r6 (wp_mono (wp_bnd w6) (fun v s7 w7 => ?_) fun _ _ z => z.elim)
          intro H7 Hi7 as7 r7 e7 p7 y hy
          cases hy with
          | c q => exact w7.elim
          | d q =>
            obtain ⟨rfl, rfl⟩ := w7
            obtain ⟨k1, k2⟩ := keepD r7
            have E7 := E6.trans e7
            refine ⟨acc, k1, lt_line (by omega), acc ++ [y], yacc ++ [_], _, Hi7, upd_same, by simp; omega, k2, fin _ r7 E7 ((p5.trans p6).trans p7), e2.trans E7, (da.mono E7).append (.cons q .nil), zs', s', q5, by simpa using hys, hs'⟩
    · have ex : xs.drop i = [] := List.drop_eq_nil_of_le (by omega)
      rw [ex] at q2
      cases q2
      rw [List.append_nil] at hys
      subst hys hs'
      have r4 : Rep B σ (era H2 D) Hi2 as1 ⟨s1.sl, ce⟩ := ⟨r2.sub, r2.lkd, r2.fr, r2.hin, r2.new, r1.len, fun i x h => by
        obtain ⟨v, k1, k2⟩ := r1.slo i x h
        exact ⟨v, k1, k2.mono e2 (List.prefix_refl _)⟩, r2.lea, r2.cel, r2.inj⟩
      have := w2 (era H2 D) Hi2 as1 r4 (e1.trans e2) p1 D acc era_same da
      rw [upd_era hDa] at this
      exact .inl ⟨stop (by omega), this⟩
end
end DL

end DLsec_6

section DLsec_7
set_option maxRecDepth 100000
namespace DL
open PySem PySem.Spec PyProof.Rows L2

/-! ### defs -/
inductive FR where
  | ok (v : Vl) (cs : List Ce)
  | ex (e : Ex) (cs : List Ce)
  | no
abbrev FD := List Vl → List Ce → FR
def wpF (r : FR) (P : Vl → List Ce → Prop) (E : Ex → List Ce → Prop) : Prop := match r with
  | .ok v c => P v c
  | .ex e c => E e c
  | .no => False
/-- the promise of a def that does what g does -/
def FSp (mg : Str → Option Value) (g : FD) : Sp := fun vs H Q E => ∃ (Hi : Hp) (as : List Addr) (xs : List Vl) (cs : List Ce) (lk : List Addr),
  Rep (mg := mg) ⟨H, Hi, aliveA as cs, lk, []⟩ (vs.map some) H Hi as ⟨xs.map some, cs⟩ ∧
  wpF (g xs cs) (fun z cs' => ∀ v H' Hi' as', Rep (mg := mg) ⟨H, Hi, aliveA as cs, lk, []⟩ [] H' Hi' as' ⟨[], cs'⟩ → Same Hi Hi' → as <+: as' → RelVl Hi' as' v z → Q v H')
    (fun e cs' => ∀ cls d H' Hi' as', Rep (mg := mg) ⟨H, Hi, aliveA as cs, lk, []⟩ [] H' Hi' as' ⟨[], cs'⟩ → Same Hi Hi' → as <+: as' → ExR mg Hi' e cls d → E cls d H')
/-- a tuple with a new list behind a datum -/
def endT (n : Nat) (ce : List Ce) : List Vl → FR
  | [.d x, .c k] => if k < n then .no else match ce[k]? with
    | some (.l ys) => .ok (.c (n + 1)) (cutC n ce ++ [.l ys, .t [.d x, .c n]])
    | _ => .no
  | _ => .no
def endF (n : Nat) (v : Vl) (ce : List Ce) : FR := match v with
  | .d x => .ok (.d x) (cutC n ce)
  | .c j => if j < n then .ok (.c j) (cutC n ce) else match ce[j]? with
    | some (.l xs) => .ok (.c n) (cutC n ce ++ [.l xs])
    | some (.m kvs) => .ok (.c n) (cutC n ce ++ [.m kvs])
    | some (.f xs) => .ok (.d (.list xs)) (cutC n ce)
    | some (.t xs) => endT n ce xs
    | _ => .no
/-- ar: how many parameters; n: how many names -/
def mkF (ar n : Nat) (body : M Fl) : FD := fun xs cs => if xs.length = ar then (match body ⟨xs.map some ++ List.replicate (n - ar) none, cs⟩ with
  | .ok .nx s => .ok (.d .none) (cutC cs.length s.ce)
  | .ok (.rt v) s => endF cs.length v s.ce
  | .ex e s => .ex e (cutC cs.length s.ce)
  | _ => .no) else .no
theorem fsp_len {mg : Str → Option Value} {ar n : Nat} {body : M Fl} {vs : List V} {H : Hp} {Q : VK} {E : XK} (h : FSp mg (mkF ar n body) vs H Q E) : vs.length = ar := by
  obtain ⟨Hi, as, xs, cs, lk, r, w⟩ := h
  unfold mkF at w
  split at w
  · rename_i e
    have := r.len
    simp at this
    omega
  · exact w.elim
theorem Rep.names {mg : Str → Option Value} {B : Bd mg} {σ : St} {H Hi : Hp} {as : List Addr} {s : S} (r : Rep B σ H Hi as s) (n : Nat) : Rep B (σ ++ List.replicate n none) H Hi as ⟨s.sl ++ List.replicate n none, s.ce⟩ := by
  refine ⟨r.sub, r.lkd, r.fr, r.hin, r.new, by simp [r.len], fun i x h => ?_, r.lea, r.cel, r.inj⟩
  by_cases hi : i < s.sl.length
  · rw [List.getElem?_append_left hi] at h
    obtain ⟨v, q1, q2⟩ := r.slo i x h
    exact ⟨v, by rw [List.getElem?_append_left (by rw [r.len]; exact hi)]; exact q1, q2⟩
  · rw [List.getElem?_append_right (by omega), List.getElem?_replicate] at h
    split at h <;> cases h
theorem Rep.nil {mg : Str → Option Value} {B : Bd mg} {σ : St} {H Hi : Hp} {as : List Addr} {s : S} (r : Rep B σ H Hi as s) : Rep B [] H Hi as ⟨[], s.ce⟩ :=
  ⟨r.sub, r.lkd, r.fr, r.hin, r.new, rfl, fun i x h => by simp at h, r.lea, r.cel, r.inj⟩
theorem Rep.takeC {mg : Str → Option Value} {B : Bd mg} {σ : St} {H Hi : Hp} {as : List Addr} {s : S} (r : Rep B σ H Hi as s) {n : Nat} (hn : n ≤ as.length) : Rep B [] H Hi (as.take n) ⟨[], cutC n s.ce⟩ := by
  have l1 : ∀ (l : List Addr) (j : Nat) (a : Addr), (l.take n)[j]? = some a → l[j]? = some a := fun l j a h => by
    rw [List.getElem?_take] at h
    split at h
    · exact h
    · cases h
  refine ⟨r.sub, r.lkd, r.fr, r.hin, fun j a c e1 e2 al => ?_, rfl, fun i x h => by simp at h, ?_, fun j a c e1 e2 => ?_, fun i j a c c' e1 e2 e3 e4 a1 a2 => ?_⟩
  · obtain ⟨_, c0, q, rfl⟩ := cutC_get e2
    exact r.new j a c0 (l1 _ _ _ e1) q (kl_alive al)
  · have := r.lea
    show (as.take n).length = (cutC n s.ce).length
    rw [cutC_len, List.length_take]
    omega
  · obtain ⟨_, c0, q, rfl⟩ := cutC_get e2
    exact (r.cel j a c0 (l1 _ _ _ e1) q).kl
  · obtain ⟨_, c0, q, rfl⟩ := cutC_get e3
    obtain ⟨_, c1, q', rfl⟩ := cutC_get e4
    exact r.inj i j a c0 c1 (l1 _ _ _ e1) (l1 _ _ _ e2) q q' (kl_alive a1) (kl_alive a2)
/-- the cell that is handed back stands last -/
theorem Rep.takeB {mg : Str → Option Value} {B : Bd mg} {σ : St} {H Hi : Hp} {as : List Addr} {s : S} (r : Rep B σ H Hi as s) {n j : Nat} {a : Addr} {c : Ce} (hn : n ≤ j) (ha : as[j]? = some a) (hc : s.ce[j]? = some c) : Rep B [] H Hi (as.take n ++ [a]) ⟨[], cutC n s.ce ++ [kl c]⟩ := by
  have hj := lt_of_get ha
  have hla : (as.take n).length = n := by rw [List.length_take]; omega
  have hlc : (cutC n s.ce).length = n := by have := r.lea; rw [cutC_len]; omega
  have look : ∀ i b x, (as.take n ++ [a])[i]? = some b → (cutC n s.ce ++ [kl c])[i]? = some x → ∃ k x0, as[k]? = some b ∧ s.ce[k]? = some x0 ∧ x = kl x0 ∧ (i < n → k = i) ∧ (¬ i < n → k = j ∧ i = n) := fun i b x e1 e2 => by
    by_cases hi : i < n
    · rw [List.getElem?_append_left (by omega), List.getElem?_take, if_pos hi] at e1
      rw [List.getElem?_append_left (by omega)] at e2
      obtain ⟨_, c0, q, rfl⟩ := cutC_get e2
      exact ⟨i, c0, e1, q, rfl, fun _ => rfl, fun z => absurd hi z⟩
    · rw [List.getElem?_append_right (by omega), hla] at e1
      rw [List.getElem?_append_right (by omega), hlc] at e2
      have hz : i - n = 0 := by
        cases hh : i - n with
        | zero => rfl
        | succ m => rw [hh] at e1; simp at e1
      rw [hz] at e1 e2
      simp at e1 e2
      subst e1 e2
      exact ⟨j, c, ha, hc, rfl, fun z => absurd z hi, fun _ => ⟨rfl, by omega⟩⟩
  refine ⟨r.sub, r.lkd, r.fr, r.hin, fun i b x e1 e2 al => ?_, rfl, fun i x h => by simp at h, by simp [hla, hlc], fun i b x e1 e2 => ?_, fun i k b x y e1 e2 e3 e4 a1 a2 => ?_⟩
  · obtain ⟨m, x0, q1, q2, rfl, _⟩ := look i b x e1 e2
    exact r.new m b x0 q1 q2 (kl_alive al)
  · obtain ⟨m, x0, q1, q2, rfl, _⟩ := look i b x e1 e2
    exact (r.cel m b x0 q1 q2).kl
  · obtain ⟨m, x0, q1, q2, rfl, z1, z2⟩ := look i b x e1 e3
    obtain ⟨m', y0, q3, q4, rfl, z3, z4⟩ := look k b y e2 e4
    have hm := r.inj m m' b x0 y0 q1 q3 q2 q4 (kl_alive a1) (kl_alive a2)
    by_cases h1 : i < n
    · by_cases h2 : k < n
      · rw [z1 h1, z3 h2] at hm; exact hm
      · rw [z1 h1, (z4 h2).1] at hm; omega
    · by_cases h2 : k < n
      · rw [(z2 h1).1, z3 h2] at hm; omega
      · rw [(z2 h1).2, (z4 h2).2]
/-- a tuple's cell at the end -/
theorem Rep.pushT {mg : Str → Option Value} {B : Bd mg} {σ : St} {H Hi : Hp} {as : List Addr} {s : S} (r : Rep B σ H Hi as s) {a : Addr} {vs : List V} {xs : List Vl} (ha : Hi a = some (.tup vs)) (hv : Paired (RelVl Hi as) vs xs) : Rep B σ H Hi (as ++ [a]) ⟨s.sl, s.ce ++ [.t xs]⟩ := by
  have lb := r.lea
  have look : ∀ (j : Nat) (b : Addr) (c : Ce), (as ++ [a])[j]? = some b → (s.ce ++ [Ce.t xs])[j]? = some c → (as[j]? = some b ∧ s.ce[j]? = some c) ∨ (b = a ∧ c = Ce.t xs) := fun j b c e1 e2 => by
    by_cases hj : j < as.length
    · rw [List.getElem?_append_left hj] at e1
      rw [List.getElem?_append_left (by omega)] at e2
      exact .inl ⟨e1, e2⟩
    · rw [List.getElem?_append_right (by omega)] at e1
      rw [List.getElem?_append_right (by omega), ← lb] at e2
      have hz : j - as.length = 0 := by
        cases hh : j - as.length with
        | zero => rfl
        | succ n => rw [hh] at e1; simp at e1
      rw [hz] at e1 e2
      simp at e1 e2
      exact .inr ⟨e1.symm, e2.symm⟩
  refine ⟨r.sub, r.lkd, r.fr, r.hin, fun j b c e1 e2 al => ?_, r.len, fun i x h => ?_, by simp [lb], fun j b c e1 e2 => ?_, fun i j b c c' e1 e2 e3 e4 a1 a2 => ?_⟩
  · rcases look j b c e1 e2 with ⟨q1, q2⟩ | ⟨_, rfl⟩
    · exact r.new j b c q1 q2 al
    · cases al
  · obtain ⟨v, q1, q2⟩ := r.slo i x h
    exact ⟨v, q1, q2.mono (Same.refl _) (List.prefix_append _ _)⟩
  · rcases look j b c e1 e2 with ⟨q1, q2⟩ | ⟨rfl, rfl⟩
    · exact (r.cel j b c q1 q2).mono (Same.refl _) (List.prefix_append _ _) (fun _ => rfl) fun _ => rfl
    · exact ⟨vs, ha, paired_mono (fun _ _ q => q.mono (Same.refl _) (List.prefix_append _ _)) hv⟩
  · rcases look i b c e1 e3 with ⟨q1, q3⟩ | ⟨_, rfl⟩
    · rcases look j b c' e2 e4 with ⟨q2, q4⟩ | ⟨_, rfl⟩
      · exact r.inj i j b c c' q1 q2 q3 q4 a1 a2
      · cases a2
    · cases a1
/-- a def's body keeps the promise -/
theorem fn_end {mg : Str → Option Value} {N : List Str} {ar : Nat} {t : TS} {body : M Fl} {vs : List V} {H : Hp} {Q : VK} {E : XK} (hs : SS mg (fun cls d _ H => E cls d H) t body) (h : FSp mg (mkF ar N.length body) vs H Q E) :
    t { nx := fun _ H' => Q .non H', rt := Q } (L2.start N vs) H := by
  have hl := fsp_len h
  obtain ⟨Hi, as, xs, cs, lk, r, w⟩ := h
  have hx : xs.length = ar := by have := r.len; simp at this; omega
  unfold mkF at w
  rw [if_pos hx] at w
  have r0 := r.names (N.length - ar)
  have es : L2.start N vs = vs.map some ++ List.replicate (N.length - ar) none := by unfold L2.start; rw [hl]
  rw [es]
  refine hs _ _ H Hi as _ _ r0 ?_
  have hlen : as.length = cs.length := r.lea
  show wpR (body ⟨xs.map some ++ List.replicate (N.length - ar) none, cs⟩) _ _
  have tk : ∀ {σ' : St} {H' Hi' : Hp} {as' : List Addr} {s' : S}, Rep (mg := mg) ⟨H, Hi, aliveA as cs, lk, []⟩ σ' H' Hi' as' s' → as <+: as' → Rep (mg := mg) ⟨H, Hi, aliveA as cs, lk, []⟩ [] H' Hi' as ⟨[], cutC cs.length s'.ce⟩ := fun {σ' H' Hi' as' s'} r' p => by
    have q := r'.takeC (n := cs.length) (by rw [← hlen]; exact p.length_le)
    have e : as'.take cs.length = as := by
      obtain ⟨t, rfl⟩ := p
      rw [← hlen]
      simp
    rw [e] at q
    exact q
  cases eb : body ⟨xs.map some ++ List.replicate (N.length - ar) none, cs⟩ with
  | no => rw [eb] at w; exact w
  | ex e s' =>
    rw [eb] at w
    intro σ' H' Hi' as' r' e' p' cls d hx
    exact w cls d H' Hi' as (tk r' p') e' (List.prefix_refl _) hx
  | ok fl s' =>
    rw [eb] at w
    intro σ' H' Hi' as' r' e' p'
    cases fl with
    | bk => exact w.elim
    | ct => exact w.elim
    | nx => exact w .non H' Hi' as (tk r' p') e' (List.prefix_refl _) (.d .non)
    | rt v =>
      intro u hu
      simp only [endF] at w
      cases hu with
      | d q => exact w u H' Hi' as (tk r' p') e' (List.prefix_refl _) (.d q)
      | @c a j q =>
        simp only at w
        split at w
        · rename_i hj
          refine w _ H' Hi' as (tk r' p') e' (List.prefix_refl _) (.c ?_)
          obtain ⟨t, rfl⟩ := p'
          rw [List.getElem?_append_left (by omega)] at q
          exact q
        · rename_i hj
          have ep : as'.take cs.length = as := by
            obtain ⟨t, rfl⟩ := p'
            rw [← hlen]
            simp
          cases hc : s'.ce[j]? with
          | none => rw [hc] at w; exact w.elim
          | some c =>
            rw [hc] at w
            cases c with
            | l ys =>
              have rr := r'.takeB (n := cs.length) (Nat.le_of_not_lt hj) q hc
              rw [ep] at rr
              refine w _ H' Hi' _ rr e' (List.prefix_append _ _) (.c ?_)
              rw [← hlen, List.getElem?_append_right (Nat.le_refl _), Nat.sub_self]
              rfl
            | f ys =>
              obtain ⟨ws, z1, z2⟩ := r'.cel j a _ q hc
              exact w _ H' Hi' as (tk r' p') e' (List.prefix_refl _) (.d (.lst z1 z2))
            | m ys =>
              have rr := r'.takeB (n := cs.length) (Nat.le_of_not_lt hj) q hc
              rw [ep] at rr
              refine w _ H' Hi' _ rr e' (List.prefix_append _ _) (.c ?_)
              rw [← hlen, List.getElem?_append_right (Nat.le_refl _), Nat.sub_self]
              rfl
            | g => exact w.elim
            | x e1 => exact w.elim
            | v _ => exact w.elim
            | w _ => exact w.elim
            | t ys =>
              obtain ⟨ws, z1, z2⟩ := r'.cel j a _ q hc
              simp only at w
              unfold endT at w
              split at w
              · rename_i x k
                cases z2 with
                | cons y1 y2 =>
                cases y2 with
                | cons y3 y4 =>
                cases y4
                cases y1 with
                | d y1 =>
                cases y3 with
                | @c b _ y3 =>
                split at w
                · exact w.elim
                · rename_i hk
                  cases hck : s'.ce[k]? with
                  | none => rw [hck] at w; exact w.elim
                  | some ck =>
                    rw [hck] at w
                    cases ck with
                    | l us =>
                      have rr := r'.takeB (n := cs.length) (Nat.le_of_not_lt hk) y3 hck
                      rw [ep] at rr
                      have rr2 := rr.pushT z1 (xs := [.d x, .c cs.length]) (.cons (.d y1) (.cons (.c (by
                        rw [← hlen, List.getElem?_append_right (Nat.le_refl _), Nat.sub_self]
                        rfl)) .nil))
                      rw [List.append_assoc, List.append_assoc] at rr2
                      refine w _ H' Hi' _ rr2 e' (List.prefix_append _ _) (.c ?_)
                      rw [← hlen, List.getElem?_append_right (by omega)]
                      simp
                    | _ => exact w.elim
              · exact w.elim

/-! ### calls of defs -/
def cellsOf (xs : List Vl) : List Nat := xs.filterMap fun x => match x with
  | .c j => some j
  | .d _ => none
def renum (js : List Nat) : Vl → Vl
  | .d x => .d x
  | .c j => .c (js.idxOf j)
def putB : List Ce → List Nat → List Ce → List Ce
  | ce, j :: js, c :: cs => putB (ce.set j c) js cs
  | ce, _, _ => ce
def Ce.lone : Ce → Bool
  | .l _ => true
  | .m _ => true
  | _ => false
theorem lone_alive {c : Ce} (h : c.lone = true) : c.alive = true := by cases c <;> first | rfl | cases h
theorem lone_kl {c : Ce} (h : c.lone = true) : kl c = c := by cases c <;> first | rfl | cases h
def picks (ce : List Ce) : List Nat → Option (List Ce)
  | [] => some []
  | j :: js => match ce[j]?, picks ce js with
    | some c, some cs => if c.lone = true then some (c :: cs) else none
    | _, _ => none
/-- a tuple with a new list behind a datum is handed back -/
def callT (s : S) (js : List Nat) (n : Nat) (cs' : List Ce) : R Vl := match cs'[n + 1]?, cs'[n]? with
  | some (.t [.d x, .c k]), some (.l ys) => if k = n then .ok (.c (s.ce.length + 1)) { s with ce := putB s.ce js (cs'.map kl) ++ [.l ys, .t [.d x, .c s.ce.length]] } else .no
  | _, _ => .no
def callD (g : FD) (xs : List Vl) : M Vl := fun s => if (cellsOf xs).Nodup then (match picks s.ce (cellsOf xs) with
  | none => .no
  | some cs => match g (xs.map (renum (cellsOf xs))) cs with
    | .no => .no
    | .ex e cs' => .ex e { s with ce := putB s.ce (cellsOf xs) (cs'.map kl) }
    | .ok (.d x) cs' => .ok (.d x) { s with ce := putB s.ce (cellsOf xs) (cs'.map kl) }
    | .ok (.c k) cs' => if k = cs.length then (match cs'[k]? with
        | some (.l ys) => .ok (.c s.ce.length) { s with ce := putB s.ce (cellsOf xs) (cs'.map kl) ++ [.l ys] }
        | some (.m ys) => .ok (.c s.ce.length) { s with ce := putB s.ce (cellsOf xs) (cs'.map kl) ++ [.m ys] }
        | _ => .no) else if k = cs.length + 1 then callT s (cellsOf xs) cs.length cs' else .no) else .no
def fDef (g : FD) (f : M (List Vl)) : M Vl := bnd f (callD g)
end DL

end DLsec_7

section DLsec_8
set_option maxRecDepth 100000
namespace DL
open PySem PySem.Spec PyProof.Rows L2

theorem Rep.back {mg : Str → Option Value} {B : Bd mg} {σ σ' : St} {H Hi H' Hi' : Hp} {as as' : List Addr} {s s' : S} (r : Rep B σ H Hi as s) {A : List Addr} (own : ∀ a ∈ A, a ∈ B.A0 ∨ B.H0 a = none) (r' : Rep (mg := mg) ⟨H, Hi, A, B.lk0 ++ B.lk1, []⟩ σ' H' Hi' as' s') : Rep B σ' H' Hi' as' s' := by
  refine ⟨fun b o e => ?_, fun b hb => r'.lkd b ?_, fun b o e n => ?_, fun b o e => ?_, fun j a c e1 e2 al => ?_, r'.len, r'.slo, r'.lea, r'.cel, r'.inj⟩
  · have q : HL (B.lk0 ++ B.lk1 ++ []) H' b o := r'.sub b o e
    rw [List.append_nil] at q
    exact q
  · show b ∈ B.lk0 ++ B.lk1 ++ []
    rw [List.append_nil]
    exact hb
  · have h1 := r.fr b o e n
    have keep : ∀ u, H b = some u → H' b = some u := fun u hu => by
      have hn : b ∉ A := fun z => by
        rcases own b z with q | q
        · exact n q
        · rw [q] at e; cases e
      have q : HL [] H' b u := r'.fr b u hu hn
      unfold HL at q
      rw [if_neg (by simp)] at q
      exact q
    unfold HL at h1 ⊢
    split
    · rename_i hb
      rw [if_pos hb] at h1
      obtain ⟨ob, q⟩ := h1
      exact ⟨ob, keep _ q⟩
    · rename_i hb
      rw [if_neg hb] at h1
      exact keep _ h1
  · rcases r'.hin b o e with q | q | q
    · exact r.hin b o q
    · exact .inr (r.fresh0 q)
    · exact .inr ((own b q).symm)
  · rcases r'.new j a c e1 e2 al with q | q
    · exact own a q
    · exact (r.fresh0 q).symm
theorem putB_length : ∀ {js : List Nat} {ce cs : List Ce}, (putB ce js cs).length = ce.length
  | [], ce, cs => by simp [putB]
  | j :: js, ce, [] => by simp [putB]
  | j :: js, ce, c :: cs => by unfold putB; rw [putB_length, List.length_set]
theorem putB_out : ∀ {js : List Nat} {ce cs : List Ce} {j : Nat}, j ∉ js → (putB ce js cs)[j]? = ce[j]?
  | [], ce, cs, j, h => by simp [putB]
  | i :: js, ce, [], j, h => by simp [putB]
  | i :: js, ce, c :: cs, j, h => by
    simp only [List.mem_cons, not_or] at h
    unfold putB
    rw [putB_out h.2, List.getElem?_set_ne (Ne.symm h.1)]
theorem putB_in : ∀ {js : List Nat} {ce cs : List Ce} {k j : Nat}, js.Nodup → js[k]? = some j → j < ce.length → k < cs.length → (putB ce js cs)[j]? = cs[k]?
  | [], ce, cs, k, j, n, h, l, l2 => by simp at h
  | i :: js, ce, [], k, j, n, h, l, l2 => by simp at l2
  | i :: js, ce, c :: cs, 0, j, n, h, l, l2 => by
    simp at h
    subst h
    unfold putB
    rw [putB_out (List.nodup_cons.mp n).1, List.getElem?_set_self l]
    rfl
  | i :: js, ce, c :: cs, k + 1, j, n, h, l, l2 => by
    unfold putB
    rw [putB_in (List.nodup_cons.mp n).2 (by simpa using h) (by rw [List.length_set]; exact l) (by simpa using l2)]
    simp
theorem picks_ok : ∀ {js : List Nat} {ce cs : List Ce}, picks ce js = some cs → cs.length = js.length ∧ ∀ (k j : Nat), js[k]? = some j → ∃ c, ce[j]? = some c ∧ cs[k]? = some c ∧ c.lone = true
  | [], ce, cs, h => by cases h; exact ⟨rfl, fun k j e => by simp at e⟩
  | i :: js, ce, cs, h => by
    unfold picks at h
    cases h1 : ce[i]? with
    | none => rw [h1] at h; cases h
    | some c =>
      cases h2 : picks ce js with
      | none => rw [h1, h2] at h; cases h
      | some cs' =>
        rw [h1, h2] at h
        simp only at h
        split at h
        · rename_i al
          cases h
          obtain ⟨l, f⟩ := picks_ok h2
          refine ⟨by simp [l], fun k j e => ?_⟩
          cases k with
          | zero => simp at e; subst e; exact ⟨c, h1, rfl, al⟩
          | succ k => simpa using f k j (by simpa using e)
        · cases h
theorem mem_cellsOf {xs : List Vl} {j : Nat} : j ∈ cellsOf xs ↔ Vl.c j ∈ xs := by
  unfold cellsOf
  rw [List.mem_filterMap]
  constructor
  · rintro ⟨x, h1, h2⟩
    cases x with
    | d x => cases h2
    | c i => cases h2; exact h1
  · intro h
    exact ⟨.c j, h, rfl⟩
theorem paired_get {α β : Type} {F : α → β → Prop} : ∀ {l : List α} {m : List β} {i : Nat} {y : β}, Paired F l m → m[i]? = some y → ∃ x, l[i]? = some x ∧ F x y
  | _, _, _, _, .nil, h => by simp at h
  | _, _, 0, _, .cons a _, h => by simp at h; subst h; exact ⟨_, rfl, a⟩
  | _, _, i + 1, y, .cons _ r, h => by
    obtain ⟨x, a, b⟩ := paired_get (i := i) (y := y) r (by simpa using h)
    exact ⟨x, by simpa using a, b⟩
theorem nodup_inj {α : Type} : ∀ {l : List α} {i k : Nat} {x : α}, l.Nodup → l[i]? = some x → l[k]? = some x → i = k
  | [], i, k, x, n, h1, h2 => by simp at h1
  | y :: l, 0, 0, x, n, h1, h2 => rfl
  | y :: l, 0, k + 1, x, n, h1, h2 => by
    simp at h1 h2
    subst h1
    exact absurd (List.mem_of_getElem? h2) (List.nodup_cons.mp n).1
  | y :: l, i + 1, 0, x, n, h1, h2 => by
    simp at h1 h2
    subst h2
    exact absurd (List.mem_of_getElem? h1) (List.nodup_cons.mp n).1
  | y :: l, i + 1, k + 1, x, n, h1, h2 => by
    simp only [List.getElem?_cons_succ] at h1 h2
    rw [nodup_inj (List.nodup_cons.mp n).2 h1 h2]
def pickA (as : List Addr) (js : List Nat) : List Addr := js.map fun j => (as[j]?).getD 0
section
variable {mg : Str → Option Value} {W : WX} {B : Bd mg} {σ : St} {H Hi : Hp} {as : List Addr} {s : S}
/-- the callee's view of the cells that are handed over -/
theorem Rep.hand (r : Rep B σ H Hi as s) {vs : List V} {xs : List Vl} (hv : RelVls Hi as vs xs) (nd : (cellsOf xs).Nodup) {cs : List Ce} (hc : picks s.ce (cellsOf xs) = some cs) :
    Rep (mg := mg) ⟨H, Hi, aliveA (pickA as (cellsOf xs)) cs, B.lk0 ++ B.lk1, []⟩ (vs.map some) H Hi (pickA as (cellsOf xs)) ⟨(xs.map (renum (cellsOf xs))).map some, cs⟩ := by
  obtain ⟨hl, hp⟩ := picks_ok hc
  have at_ : ∀ (k : Nat) (a : Addr) (c : Ce), (pickA as (cellsOf xs))[k]? = some a → cs[k]? = some c → ∃ j, (cellsOf xs)[k]? = some j ∧ as[j]? = some a ∧ s.ce[j]? = some c := fun k a c e1 e2 => by
    unfold pickA at e1
    rw [List.getElem?_map] at e1
    cases hj : (cellsOf xs)[k]? with
    | none => rw [hj] at e1; cases e1
    | some j =>
      rw [hj] at e1
      obtain ⟨c', q1, q2, q3⟩ := hp k j hj
      rw [e2] at q2
      cases q2
      have hlt : j < as.length := by rw [r.lea]; exact lt_of_get q1
      refine ⟨j, rfl, ?_, q1⟩
      simp only [Option.map_some] at e1
      rw [List.getElem?_eq_getElem hlt] at e1 ⊢
      exact e1
  refine ⟨fun b o e => ?_, fun b hb => r.lkd b ?_, fun b o e n => ?_, fun b o e => .inl e, fun j a c e1 e2 al => .inl (mem_aliveA.mpr ⟨j, c, e1, e2, al⟩), ?_, fun i x h => ?_, ?_, fun k a c e1 e2 => ?_, fun i k a c c' e1 e2 e3 e4 a1 a2 => ?_⟩
  · show HL (B.lk0 ++ B.lk1 ++ []) H b o
    rw [List.append_nil]
    exact r.sub b o e
  · have hb' : b ∈ B.lk0 ++ B.lk1 ++ [] := hb
    rw [List.append_nil] at hb'
    exact hb'
  · show HL [] H b o
    unfold HL
    rw [if_neg (by simp)]
    exact e
  · simp [Paired.length hv]
  · have h' : ((xs.map (renum (cellsOf xs))).map some)[i]? = some (some x) := h
    rw [List.getElem?_map, List.getElem?_map] at h'
    cases hx : xs[i]? with
    | none => rw [hx] at h'; cases h'
    | some y =>
      rw [hx] at h'
      simp at h'
      subst h'
      obtain ⟨v, q1, q2⟩ := paired_get hv hx
      refine ⟨v, by rw [List.getElem?_map, q1]; rfl, ?_⟩
      cases q2 with
      | d q => exact .d q
      | @c a j q =>
        have hm : j ∈ cellsOf xs := mem_cellsOf.mpr (List.mem_of_getElem? hx)
        refine .c ?_
        have hlt := List.idxOf_lt_length_of_mem hm
        unfold pickA
        rw [List.getElem?_map, List.getElem?_eq_getElem hlt, List.getElem_idxOf]
        simp [q]
  · unfold pickA
    simp [hl]
  · obtain ⟨j, q1, q2, q3⟩ := at_ k a c e1 e2
    obtain ⟨c', k1, k2, k3⟩ := hp k j q1
    rw [q3] at k1
    cases k1
    have := (r.cel j a c q2 q3).kl (as' := pickA as (cellsOf xs))
    rw [lone_kl k3] at this
    exact this
  · obtain ⟨j, q1, q2, q3⟩ := at_ i a c e1 e3
    obtain ⟨j', q1', q2', q3'⟩ := at_ k a c' e2 e4
    have := r.inj j j' a c c' q2 q2' q3 q3' a1 a2
    subst this
    exact nodup_inj nd q1 q1'
theorem Rep.takeBack (r : Rep B σ H Hi as s) {xs : List Vl} (nd : (cellsOf xs).Nodup) {cs : List Ce} (hc : picks s.ce (cellsOf xs) = some cs) {H' Hi' : Hp} {as' : List Addr} {cs' : List Ce}
    (r' : Rep (mg := mg) ⟨H, Hi, aliveA (pickA as (cellsOf xs)) cs, B.lk0 ++ B.lk1, []⟩ [] H' Hi' as' ⟨[], cs'⟩) (e : Same Hi Hi') (p : pickA as (cellsOf xs) <+: as') :
    Rep B σ H' Hi' as { s with ce := putB s.ce (cellsOf xs) (cs'.map kl) } ∧ ∀ k cc a, k = cs.length → cs'[k]? = some cc → cc.lone = true → as'[k]? = some a → Rep B σ H' Hi' (as ++ [a]) { s with ce := putB s.ce (cellsOf xs) (cs'.map kl) ++ [cc] } := by
  obtain ⟨hl, hp⟩ := picks_ok hc
  have hlp : (pickA as (cellsOf xs)).length = cs.length := by unfold pickA; simp [hl]
  have hlc : cs.length ≤ cs'.length := by
    have h1 : as'.length = cs'.length := r'.lea
    have h2 := p.length_le
    omega
  -- an address that the callee may change
  have inA : ∀ {a : Addr}, a ∈ aliveA (pickA as (cellsOf xs)) cs → ∃ j c, j ∈ cellsOf xs ∧ as[j]? = some a ∧ s.ce[j]? = some c ∧ c.alive = true := fun {a} h => by
    obtain ⟨k, c, h1, h2, h3⟩ := mem_aliveA.mp h
    unfold pickA at h1
    rw [List.getElem?_map] at h1
    cases hj : (cellsOf xs)[k]? with
    | none => rw [hj] at h1; cases h1
    | some j =>
      rw [hj] at h1
      obtain ⟨c', q1, q2, q3⟩ := hp k j hj
      have hlt : j < as.length := by rw [r.lea]; exact lt_of_get q1
      refine ⟨j, c', List.mem_of_getElem? hj, ?_, q1, lone_alive q3⟩
      simp only [Option.map_some] at h1
      rw [List.getElem?_eq_getElem hlt] at h1 ⊢
      exact h1
  have rB := r.back (fun a h => by
    obtain ⟨j, c, _, h1, h2, h3⟩ := inA h
    exact r.new j a c h1 h2 h3) r'
  -- a cell of the caller behind the call
  have cell : ∀ (j : Nat) (a : Addr) (c : Ce), as[j]? = some a → (putB s.ce (cellsOf xs) (cs'.map kl))[j]? = some c →
      (∃ k, k < cs.length ∧ (cellsOf xs)[k]? = some j ∧ as'[k]? = some a ∧ ∃ c0, cs'[k]? = some c0 ∧ c = kl c0) ∨ (j ∉ cellsOf xs ∧ s.ce[j]? = some c) := fun j a c e1 e2 => by
    by_cases hj : j ∈ cellsOf xs
    · left
      obtain ⟨k, hk⟩ := List.getElem?_of_mem hj
      have hkl : k < cs.length := by rw [hl]; exact lt_of_get hk
      rw [putB_in nd hk (by rw [← r.lea]; exact lt_of_get e1) (by rw [List.length_map]; omega), List.getElem?_map] at e2
      have e2' : ∃ c0, cs'[k]? = some c0 ∧ c = kl c0 := by
        cases z : cs'[k]? with
        | none => rw [z] at e2; cases e2
        | some c0 => rw [z] at e2; cases e2; exact ⟨c0, rfl, rfl⟩
      refine ⟨k, hkl, hk, ?_, e2'⟩
      obtain ⟨t, rfl⟩ := p
      rw [List.getElem?_append_left (by omega)]
      unfold pickA
      rw [List.getElem?_map, hk]
      simp [e1]
    · right
      rw [putB_out hj] at e2
      exact ⟨hj, e2⟩
  have oldAlive : ∀ (j : Nat) (a : Addr) (c : Ce), as[j]? = some a → (putB s.ce (cellsOf xs) (cs'.map kl))[j]? = some c → c.alive = true → ∃ c0, s.ce[j]? = some c0 ∧ c0.alive = true := fun j a c e1 e2 al => by
    rcases cell j a c e1 e2 with ⟨k, _, h2, _, _⟩ | ⟨h1, h2⟩
    · obtain ⟨c0, q1, q2, q3⟩ := hp k j h2
      exact ⟨c0, q1, lone_alive q3⟩
    · exact ⟨c, h2, al⟩
  have out : ∀ (j : Nat) (a : Addr) (c : Ce), j ∉ cellsOf xs → as[j]? = some a → s.ce[j]? = some c → c.alive = true → a ∉ aliveA (pickA as (cellsOf xs)) cs := fun j a c hj e1 e2 al h => by
    obtain ⟨i, c', h0, h1, h2, h3⟩ := inA h
    have := r.inj j i a c c' e1 h1 e2 h2 al h3
    subst this
    exact hj h0
  have base : Rep B σ H' Hi' as { s with ce := putB s.ce (cellsOf xs) (cs'.map kl) } := by
    refine ⟨rB.sub, rB.lkd, rB.fr, rB.hin, fun j a c e1 e2 al => ?_, r.len, fun i x h => ?_, ?_, fun j a c e1 e2 => ?_, fun i j a c c' e1 e2 e3 e4 a1 a2 => ?_⟩
    · obtain ⟨c0, q1, q2⟩ := oldAlive j a c e1 e2 al
      exact r.new j a c0 e1 q1 q2
    · obtain ⟨v, q1, q2⟩ := r.slo i x h
      exact ⟨v, q1, q2.mono e (List.prefix_refl _)⟩
    · show as.length = (putB s.ce (cellsOf xs) (cs'.map kl)).length
      rw [putB_length]
      exact r.lea
    · rcases cell j a c e1 e2 with ⟨k, _, _, h3, c0, h4, rfl⟩ | ⟨h1, h2⟩
      · exact (rB.cel k a c0 h3 h4).kl
      · have rc := r.cel j a c e1 h2
        refine rc.mono e (List.prefix_refl _) (fun al => ?_) fun al => ?_
        · rw [rc.hi_none al]
          cases z : Hi' a with
          | none => rfl
          | some o =>
            exfalso
            rcases r'.hin a o z with q | q | q
            · have q' : Hi a = some o := q
              rw [rc.hi_none al] at q'; cases q'
            · exact rc.ne_new al q rfl
            · exact out j a c h1 e1 h2 al q
        · have hn := out j a c h1 e1 h2 al
          cases z : H a with
          | none => exact absurd rfl (rc.ne_new al z)
          | some u =>
            have q : HL [] H' a u := r'.fr a u z hn
            unfold HL at q
            rw [if_neg (by simp)] at q
            exact q
    · obtain ⟨c0, q1, q2⟩ := oldAlive i a c e1 e3 a1
      obtain ⟨c1, q3, q4⟩ := oldAlive j a c' e2 e4 a2
      exact r.inj i j a c0 c1 e1 e2 q1 q3 q2 q4
  refine ⟨base, fun k cc a hk hy hln ha => ?_⟩
  have lb : as.length = (putB s.ce (cellsOf xs) (cs'.map kl)).length := base.lea
  have look : ∀ j b c, (as ++ [a])[j]? = some b → (putB s.ce (cellsOf xs) (cs'.map kl) ++ [cc])[j]? = some c → (as[j]? = some b ∧ (putB s.ce (cellsOf xs) (cs'.map kl))[j]? = some c) ∨ (j = as.length ∧ b = a ∧ c = cc) := fun j b c e1 e2 => by
    by_cases hj : j < as.length
    · rw [List.getElem?_append_left hj] at e1
      rw [List.getElem?_append_left (by omega)] at e2
      exact .inl ⟨e1, e2⟩
    · rw [List.getElem?_append_right (by omega)] at e1
      rw [List.getElem?_append_right (by omega), ← lb] at e2
      have hz : j - as.length = 0 := by
        cases hh : j - as.length with
        | zero => rfl
        | succ n => rw [hh] at e1; simp at e1
      rw [hz] at e1 e2
      simp at e1 e2
      exact .inr ⟨by omega, e1.symm, e2.symm⟩
  have other : ∀ (j : Nat) (c : Ce), as[j]? = some a → (putB s.ce (cellsOf xs) (cs'.map kl))[j]? = some c → c.alive = true → False := fun j c e1 e2 al => by
    rcases cell j a c e1 e2 with ⟨m, h1, h2, h3, c0, h4, rfl⟩ | ⟨h1, h2⟩
    · have := r'.inj m k a c0 cc h3 ha h4 hy (kl_alive al) (lone_alive hln)
      omega
    · rcases r'.new k a _ ha hy (lone_alive hln) with q | q
      · exact out j a c h1 e1 h2 al q
      · exact (r.cel j a c e1 h2).ne_new al q rfl
  refine ⟨base.sub, base.lkd, base.fr, base.hin, fun j b c e1 e2 al => ?_, base.len, fun i x h => ?_, ?_, fun j b c e1 e2 => ?_, fun i j b c c' e1 e2 e3 e4 a1 a2 => ?_⟩
  · rcases look j b c e1 e2 with ⟨q1, q2⟩ | ⟨_, rfl, rfl⟩
    · exact base.new j b c q1 q2 al
    · exact rB.new k b _ ha hy (lone_alive hln)
  · obtain ⟨v, q1, q2⟩ := base.slo i x h
    exact ⟨v, q1, q2.mono (Same.refl _) (List.prefix_append _ _)⟩
  · simp [lb]
  · rcases look j b c e1 e2 with ⟨q1, q2⟩ | ⟨_, rfl, rfl⟩
    · exact (base.cel j b c q1 q2).mono (Same.refl _) (List.prefix_append _ _) (fun _ => rfl) fun _ => rfl
    · have := (rB.cel k b _ ha hy).kl (as' := as ++ [b])
      rw [lone_kl hln] at this
      exact this
  · rcases look i b c e1 e3 with ⟨q1, q3⟩ | ⟨z1, rfl, rfl⟩
    · rcases look j b c' e2 e4 with ⟨q2, q4⟩ | ⟨z2, rfl, rfl⟩
      · exact base.inj i j b c c' q1 q2 q3 q4 a1 a2
      · exact (other i c q1 q3 a1).elim
    · rcases look j b c' e2 e4 with ⟨q2, q4⟩ | ⟨z2, _, rfl⟩
      · exact (other j c' q2 q4 a2).elim
      · omega
theorem call_d {g : FD} {xs : List Vl} {vs : List V} {Q : VK} (r : Rep B σ H Hi as s) (hv : RelVls Hi as vs xs) (w : wpR (callD g xs s) (fun x s' => OKs B σ Hi as s' fun H' Hi' as' => ∀ v, RelVl Hi' as' v x → Q v H') (XW mg W B σ Hi as)) :
    FSp mg g vs H Q (WE W σ) := by
  unfold callD at w
  split at w
  case isFalse => exact w.elim
  case isTrue nd =>
  cases hc : picks s.ce (cellsOf xs) with
  | none => rw [hc] at w; exact w.elim
  | some cs =>
    rw [hc] at w
    simp only at w
    refine ⟨Hi, pickA as (cellsOf xs), xs.map (renum (cellsOf xs)), cs, B.lk0 ++ B.lk1, r.hand hv nd hc, ?_⟩
    cases hg : g (xs.map (renum (cellsOf xs))) cs with
    | no => rw [hg] at w; exact w
    | ex e cs' =>
      rw [hg] at w
      intro cls d H' Hi' as' r' e' p' hx
      exact w H' Hi' as (r.takeBack nd hc r' e' p').1 e' (List.prefix_refl _) cls d hx
    | ok z cs' =>
      rw [hg] at w
      intro v H' Hi' as' r' e' p' hz
      cases hz with
      | d q => exact w H' Hi' as (r.takeBack nd hc r' e' p').1 e' (List.prefix_refl _) v (.d q)
      | @c a k q =>
        simp only at w
        split at w
        case isFalse hk0 =>
          split at w
          case isFalse => exact w.elim
          case isTrue hk1 =>
          unfold callT at w
          split at w
          · rename_i x k2 ys h1 h2
            split at w
            case isFalse => exact w.elim
            case isTrue hk2 =>
            obtain ⟨ws, z1, z2⟩ := r'.cel k a _ q (by rw [hk1]; exact h1)
            cases z2 with
            | cons y1 y2 =>
            cases y2 with
            | cons y3 y4 =>
            cases y4
            cases y1 with
            | d y1 =>
            cases y3 with
            | @c b _ y3 =>
            have rr := (r.takeBack nd hc r' e' p').2 k2 _ b hk2 (by rw [hk2]; exact h2) rfl y3
            have rr2 := rr.pushT z1 (xs := [.d x, .c s.ce.length]) (.cons (.d y1) (.cons (.c (by
              rw [← r.lea, List.getElem?_append_right (Nat.le_refl _), Nat.sub_self]
              rfl)) .nil))
            simp only [List.append_assoc] at rr2
            refine w H' Hi' _ rr2 e' (List.prefix_append _ _) _ (.c ?_)
            rw [← r.lea, List.getElem?_append_right (by omega)]
            simp
          · exact w.elim
        case isTrue hk =>
        cases hy : cs'[k]? with
        | none => rw [hy] at w; exact w.elim
        | some c =>
          rw [hy] at w
          cases c with
          | l ys =>
            refine w H' Hi' _ ((r.takeBack nd hc r' e' p').2 k _ a hk hy rfl q) e' (List.prefix_append _ _) _ (.c ?_)
            rw [← r.lea, List.getElem?_append_right (Nat.le_refl _), Nat.sub_self]
            rfl
          | m ys =>
            refine w H' Hi' _ ((r.takeBack nd hc r' e' p').2 k _ a hk hy rfl q) e' (List.prefix_append _ _) _ (.c ?_)
            rw [← r.lea, List.getElem?_append_right (Nat.le_refl _), Nat.sub_self]
            rfl
          | _ => exact w.elim
theorem se_def {g : FD} {t : TA} {f : M (List Vl)} (h : SA mg W t f) : SE mg W (tCallSD (FSp mg g) [] (WE W) t) (fDef g f) := fun B σ H Hi as s Q rp w => by
  refine h B σ H Hi as s _ rp (wp_mono (wp_bnd w) (fun xs s1 w1 => ?_) fun _ _ z => z)
  intro H1 Hi1 as1 r1 e1 p1 vs hv
  rw [List.append_nil]
  exact call_d r1 hv (wp_mono w1 (fun x s2 z => OKs.mono z e1 p1) fun e s2 z => XW.mono z e1 p1)
end
end DL

end DLsec_8

section DLsec_9
set_option maxRecDepth 100000
/-! defs that may ask for a repr: no repr is under way around them -/
namespace DL
open PySem PySem.Spec PyProof.Rows L2

structure FnG (P : Program) (w : World) (K : PySem.W.Frag) (mg : Str → Option Value) (base : Heap) (k : Nat) (f : Addr) (fd : FuncData) (ps : List Str) (sp : Sp) : Prop where
  len : ∀ us G Q E, sp us G Q E → us.length = ps.length
  run : ∀ (A : Around) (out : List Env) (s : Shared) (G : Hp) (args : Args) (us : List Value) (vs : List V) (Q : VK) (E : XK), Room k A → A.guards = some [] →
    Env0 P w K mg base A out s G → BindsTo s fd args (ps.zip us) → Vals vs us → sp vs G Q E → codeAny (model P w) A (.call (.ref f) args) (CR (L2.CX P w) out P w G s Q E) s
theorem FnG.mono {P : Program} {w : World} {K : PySem.W.Frag} {mg : Str → Option Value} {base : Heap} {j k : Nat} {f : Addr} {fd : FuncData} {ps : List Str} {sp : Sp} (F : FnG P w K mg base j f fd ps sp) (h : j ≤ k) : FnG P w K mg base k f fd ps sp :=
  ⟨F.len, fun A out s G args us vs Q E hr => F.run A out s G args us vs Q E (hr.mono h)⟩
theorem FnG.of {P : Program} {w : World} {K : PySem.W.Frag} {mg : Str → Option Value} {base : Heap} {k : Nat} {f : Addr} {fd : FuncData} {ps : List Str} {sp : Sp} (F : FnOk P w K mg base (L2.CX P w) k f fd ps sp) : FnG P w K mg base k f fd ps sp :=
  ⟨F.len, fun A out s G args us vs Q E hr _ => F.run A out s G args us vs Q E hr⟩
section
variable {P : Program} {w : World} {K : PySem.W.Frag} {mg : Str → Option Value} {base : Heap}
/-- a def by its body -/
theorem _root_.L2.Fun.okG {x qual : Str} {st : Stmt} {f : Addr} {fd : FuncData} {N ps : List Str} {k : Nat} {sp : Sp} (F : Fun K x qual st f fd) (S : FnScope N ps (defScope st)) (len : ∀ us G Q E, sp us G Q E → us.length = ps.length)
    (hbody : ∀ (cdv : Value) (A : Around) (out : List Env) (s : Shared) (G : Hp) (vs : List V) (Q : VK) (E : XK), Room k (A.deeper (envOfC qual (defScope st) s.heap.objs.size f cdv)) → A.guards = some [] → sp vs G Q E →
      ∃ t, PSs (cxOf (L2.CX P w) P w K mg base N qual (defScope st) f cdv A out s G E) (defBody st) t ∧ t { nx := fun _ G' => Q .non G', rt := Q } (L2.start N vs) G) : FnG P w K mg base (k + 1) f fd ps sp := by
  obtain ⟨oc, od, kV, doc, pm, an, cdv, ct, osl, rfl, lk, hcd⟩ := F.ex
  refine ⟨len, fun A out s G args us vs Q E room grd e0 bnd rel prom => ?_⟩
  have isIn : K.In s.heap := e0.mod.kin.keeps fun b o q => (e0.bs b o q).1
  have kinds : ∀ y ∈ ps.zip us, (defScope st).names.lookup y.1 = some .local ∨ ((defScope st).names.lookup y.1 = some .cell ∧
      ((cellsFrom (s.heap.objs.size + 1) (defScope st).names []).lookup y.1).isSome = true) := by
    rintro ⟨n, v⟩ hy
    exact (S.par n (List.of_mem_zip hy).1).imp id fun q => ⟨q, PySem.W.cellsFrom_some _ _ _ (.inl q)⟩
  refine codeAny_call_function room.depth (isIn _ _ lk) rfl S.co S.gen rfl
    (PySem.W.codeRec_of isIn hcd) (bnd _ _ _ _ (wpAny_newFunctionEnv_cells S.kind kinds fun env he s1 inc => ?_))
  subst he
  refine ⟨(e0.mod.nolimit.keeps fun b o q => (e0.bs b o q).1).keeps inc.toInCall.keep, codeAny_func ?_⟩
  obtain ⟨t, der, rd⟩ := hbody cdv A out s G vs Q E (room.deeper _) grd prom
  have I0 := inv_start (CX := L2.CX P w) (E := E) S room.hd e0 (len _ _ _ _ prom) rel inc
  refine wpAny_mono (der.run [] s1 _ G _ I0 rd) (fun fl s' q => ?_) fun _ _ q => q
  cases fl with
  | ret u => obtain ⟨v, _, G', J, rv, z⟩ := q; exact ⟨v, G', J.os, J.bare, J.base, J.hok, rv, z⟩
  | next => obtain ⟨_, G', J, z⟩ := q; exact ⟨.non, G', J.os, J.bare, J.base, J.hok, rfl, z⟩
  | brk => obtain ⟨_, _, _, z⟩ := q; exact z.elim
  | cont => obtain ⟨_, _, _, z⟩ := q; exact z.elim
end
section
variable {X : Cx} {k : Nat} {f : Addr} {fd : FuncData} {ps : List Str} {sp : Sp} {W : WX} {x : Str} {p pos : Pos} {e : Expr} {es : List Expr} {t : TA}
theorem run_g {pins : List (Addr × Obj)} {σ : St} {G : Hp} {s : Shared} {Q : VK} {args : Args} {us : List Value} {vs : List V} (F : FnG X.prog X.w X.K X.mg X.base k f fd ps sp) (hr : Room k X.A) (hg : X.A.guards = some []) (tk : Takes X W)
    (I : Inv X pins σ G s) (hb : BindsTo s fd args (ps.zip us)) (r : Vals vs us) (h : sp vs G Q (WE W σ)) : codeAny (model X.prog X.w) X.A (.call (.ref f) args) (fun res s' => match res with
      | .error e => X.xe e s'
      | .ok (.ret u) => EP X pins σ Q u s'
      | .ok _ => False) s := by
  refine codeAny_mono (F.run X.A X.stack s G args us vs Q (WE W σ) hr hg I.env0 hb r h) fun res s' q => ?_
  cases res with
  | error e => exact passAt tk σ pins G s e s' I q
  | ok fl => cases fl with
    | ret u => exact I.after q
    | next => exact q.elim
    | brk => exact q.elim
    | cont => exact q.elim
/-- f(e, ..) -/
theorem pe_callG (F : FnG X.prog X.w X.K X.mg X.base k f fd ps sp) (hr : Room k X.A) (hgd : X.A.guards = some []) (hg : Gl X x) (hm : X.mg x = some (.ref f)) (hk : PySem.W.keepIn X.K (.ref f) = true) (hb : Binds X.K fd ps []) (tk : Takes X W)
    (ha : PA X (e :: es) t) (hdb : (x == ("__debug__" : Str)) = false := by decide) (he : starEach (e :: es) X.env = (false, eval e X.env) :: starEach es X.env := by rfl) (hpl : (backTo pos (starEach es X.env)).any (·.1) = false := by rfl) :
    PE X (.Call (.Name x p) (e :: es) [] pos) (tCallSD sp [] (WE W) t) := by
  refine ⟨fun pins s σ G Q I h => wpAny_Call_Name_kw (ld_glob I hg hm ?_ hdb)⟩
  refine PySem.W.callWith_K (h₀ := X.base) I.ok.mod.kin hk
    (thn (ha.run pos pins s σ G _ I h) fun us s1 ⟨vs, G1, I1, r, q⟩ => ⟨I1.kIn, ?_⟩) he hpl
  have q' : sp vs G1 Q (WE W σ) := by
    have q2 : sp (vs ++ []) G1 Q (WE W σ) := q
    rw [List.append_nil] at q2
    exact q2
  have hl : (us ++ ([] : List Value)).length = ps.length := by rw [List.append_nil, ← r.length]; exact F.len _ _ _ _ q'
  have hbb := hb s1 us I1.kIn hl
  rw [List.append_nil] at hbb
  exact wpAny_call (codeAny_mono (run_g F hr hgd tk I1 hbb r q') fun res s' z => by
    cases res with
    | error e => exact z
    | ok fl => cases fl <;> first | exact z | exact z.elim)
/-- f() -/
theorem pe_callG0 (F : FnG X.prog X.w X.K X.mg X.base k f fd [] sp) (hr : Room k X.A) (hgd : X.A.guards = some []) (hg : Gl X x) (hm : X.mg x = some (.ref f)) (hk : PySem.W.keepIn X.K (.ref f) = true) (hb : Binds X.K fd [] []) (tk : Takes X W)
    (hdb : (x == ("__debug__" : Str)) = false := by decide) : PE X (.Call (.Name x p) [] [] pos) (tCallSD sp [] (WE W) tNil) := by
  refine ⟨fun pins s σ G Q I h => wpAny_Call_Name_kw (ld_glob I hg hm ?_ hdb)⟩
  refine PySem.W.callWith_K0 I.kIn hk (wpAny_call (codeAny_mono (run_g (us := []) (vs := []) F hr hgd tk I (hb s [] I.kIn rfl) .nil h) fun res s' z => ?_))
  cases res with
  | error e => exact z
  | ok fl => cases fl <;> first | exact z | exact z.elim
def permL {α : Type} (is : List Nat) (zs : List α) : List α := is.filterMap fun i => zs[i]?
theorem perm_rel {α β : Type} {F : α → β → Prop} {zs : List α} {ws : List β} (r : Paired F zs ws) : ∀ is : List Nat, Paired F (permL is zs) (permL is ws)
  | [] => .nil
  | i :: is => by
    have ih := perm_rel r is
    unfold permL at ih ⊢
    rw [List.filterMap_cons, List.filterMap_cons]
    cases h1 : ws[i]? with
    | none =>
      have h2 : zs[i]? = none := by
        have := Paired.length r
        rw [List.getElem?_eq_none_iff] at h1 ⊢
        omega
      rw [h2]
      exact ih
    | some u =>
      obtain ⟨v, h2, h3⟩ := paired_get r h1
      rw [h2]
      exact .cons h3 ih
/-- f(k = e, ..): the values in the parameters' order by is -/
def tCallKw (sp : Sp) (is : List Nat) (E : St → XK) (tk : TA) : TE := fun σ H Q => tk σ H fun zs H1 => sp (permL is zs) H1 Q (E σ)
theorem pe_callGK {kws : List Keyword} {ks : List Str} {is : List Nat} {tkw : TA} (F : FnG X.prog X.w X.K X.mg X.base k f fd ps sp) (hr : Room k X.A) (hgd : X.A.guards = some []) (hg : Gl X x) (hm : X.mg x = some (.ref f)) (hk : PySem.W.keepIn X.K (.ref f) = true)
    (hb : ∀ us : List Value, (permL is us).length = ps.length → bindArgs fd ⟨[], ks.zip us⟩ = pure (ps.zip (permL is us))) (tk : Takes X W) (hkw : PK X kws tkw)
    (hall : (backToKw pos (keywordEach kws X.env)).all (·.1.isSome) = true := by rfl) (hks : (backToKw pos (keywordEach kws X.env)).filterMap (·.1) = ks := by rfl) (hdb : (x == ("__debug__" : Str)) = false := by decide)
    (hpl : ((backTo pos (starEach [] X.env)).any (·.1) || (backToKw pos (keywordEach kws X.env)).any (·.1.isNone)) = false := by rfl) : PE X (.Call (.Name x p) [] kws pos) (tCallKw sp is (WE W) tkw) := by
  refine ⟨fun pins s σ G Q I h => wpAny_Call_Name_kw (ld_glob I hg hm ?_ hdb)⟩
  refine PySem.W.callWith_KW0 (h₀ := X.base) I.ok.mod.kin hk hall
    (thn (hkw.run pos pins s σ G _ I h) fun ws s1 ⟨zs, G1, I1, r, q⟩ => ⟨I1.kIn, ?_⟩) hpl
  rw [hks]
  exact wpAny_call (codeAny_mono (run_g F hr hgd tk I1 (.of_eq (hb ws (by rw [← Paired.length (perm_rel r is)]; exact F.len _ _ _ _ q))) (perm_rel r is) q) fun res s' z => by
    cases res with
    | error e => exact z
    | ok fl => cases fl <;> first | exact z | exact z.elim)
end
section
variable {mg : Str → Option Value} {W : WX} {B : Bd mg} {σ : St} {H Hi : Hp} {as : List Addr} {s : S}
def fPerm (is : List Nat) (f : M (List Vl)) : M (List Vl) := bnd f fun xs => ret (permL is xs)
theorem se_defK {g : FD} {t : TA} {is : List Nat} {f : M (List Vl)} (h : SA mg W t f) : SE mg W (tCallKw (FSp mg g) is (WE W) t) (fDef g (fPerm is f)) := fun B σ H Hi as s Q rp w => by
  have w0 := wp_bnd w
  refine h B σ H Hi as s _ rp (wp_mono (wp_bnd w0) (fun xs s1 w1 => ?_) fun _ _ z => z)
  intro H1 Hi1 as1 r1 e1 p1 vs hv
  exact call_d r1 (perm_rel hv is) (wp_mono w1 (fun x s2 z => OKs.mono z e1 p1) fun e s2 z => XW.mono z e1 p1)
end
end DL

end DLsec_9

section DLsec_10
set_option maxRecDepth 100000
namespace DL
open PySem PySem.Spec PyProof.Rows L2

def orA {α : Type} (o o' : OA α) : OA α := fun xs s => match o xs s with
  | some z => some z
  | none => o' xs s
theorem cas_or {r r' : RC} {o o' : OA Vl} (h : CaS r o) (h' : CaS r' o') : CaS (fun xs H Q => r xs H Q ∨ r' xs H Q) (orA o o') := fun B σ H Hi as s xs z vs Q rp hv e q => by
  unfold orA at e
  cases k : o xs s with
  | none => rw [k] at e; exact .inr (h' B σ H Hi as s xs z vs Q rp hv e q)
  | some w => rw [k] at e; cases e; exact .inl (h B σ H Hi as s xs z vs Q rp hv k q)
def datA (o : OA (List D)) : OA Vl := fun xs s => (o xs s).map fun ys => .d (.list ys)
theorem cas_dat {r : RC} {o : OA (List D)} (h : CaF r o) : CaS r (datA o) := fun B σ H Hi as s xs z vs Q rp hv e q => by
  unfold datA at e
  cases k : o xs s with
  | none => rw [k] at e; cases e
  | some ys => rw [k] at e; cases e; exact h B σ H Hi as s xs ys vs Q rp hv k q.dat
/-! ### len -/
def oLen : OA Vl := fun xs s => match xs with
  | [x] => match datL s x with
    | some ys => some (.d (.int ys.length))
    | none => match x with
      | .d (.tuple ys) => some (.d (.int ys.length))
      | _ => none
  | _ => none
theorem ca_len {K : PySem.W.Frag} : CaS (fun xs H Q => ∃ p ys, xs = [.ref p] ∧ (SqL K H p ys ∨ SqT K H p ys) ∧ Q (.int ys.length) H) oLen := fun B σ H Hi as s xs z vs Q rp hv e q => by
  cases hv with
  | nil => cases e
  | cons a1 a2 =>
    cases a2 with
    | cons _ _ => cases e
    | nil =>
      rename_i v x
      simp only [oLen] at e
      cases h1 : datL s x with
      | some ys =>
        rw [h1] at e
        cases e
        obtain ⟨a, ws, rfl, ha, da⟩ := rp.datL a1 h1
        exact ⟨a, ws, rfl, .inl (.inl (.inl ha)), by rw [da.length]; exact q.now rp (.d (.int _))⟩
      | none =>
        rw [h1] at e
        cases a1 with
        | c _ => cases e
        | d q' =>
          cases q' with
          | tup ha da => cases e; exact ⟨_, _, rfl, .inr (.inl (.inl (rp.tup ha))), by rw [da.length]; exact q.now rp (.d (.int _))⟩
          | _ => cases e
def oLenS : OA Vl := fun xs _ => match xs with
  | [.d (.str z)] => if z.length ≤ 1000000 then some (.d (.int z.length)) else none
  | _ => none
theorem ca_lenS : CaS (fun xs H Q => ∃ z : Str, xs = [.str z] ∧ z.length ≤ sizeLine ∧ Q (.int z.length) H) oLenS := fun B σ H Hi as s xs z vs Q rp hv e q => by
  cases hv with
  | nil => cases e
  | cons a1 a2 =>
    cases a1 with
    | c _ => cases e
    | d q' =>
      cases a2 with
      | cons _ _ => cases q' <;> cases e
      | nil =>
        cases q' <;> first | (cases e; done) | skip
        simp only [oLenS] at e
        split at e
        · rename_i hn; cases e; exact ⟨_, rfl, le_line hn, q.now rp (.d (.int _))⟩
        · cases e
/-! ### int -/
def oInt : OA Vl := fun xs _ => match xs with
  | [.d (.int i)] => some (.d (.int i))
  | [.d (.bool b)] => some (.d (.int (if b then 1 else 0)))
  | _ => none
theorem ca_int : CaS (fun xs H Q => (∃ i, xs = [.int i] ∧ Q (.int i) H) ∨ ∃ k, xs = [.bl k] ∧ Q (.int (if k then 1 else 0)) H) oInt := fun B σ H Hi as s xs z vs Q rp hv e q => by
  cases hv with
  | nil => cases e
  | cons a1 a2 =>
    cases a1 with
    | c _ => cases a2 <;> cases e
    | d q' =>
      cases a2 with
      | cons _ _ => cases q' <;> cases e
      | nil =>
        cases q' with
        | int i => cases e; exact .inl ⟨i, rfl, q.now rp (.d (.int _))⟩
        | bl b => cases e; exact .inr ⟨b, rfl, q.now rp (.d (.int _))⟩
        | _ => cases e
/-! ### list, tuple -/
def oList : OA (List D) := fun xs s => match xs with
  | [x] => match datL s x with
    | some ys => some ys
    | none => match x with
      | .d (.tuple ys) => some ys
      | _ => none
  | _ => none
theorem ca_list {K : PySem.W.Frag} : CaF (fun xs H Q => ∃ p ys, xs = [.ref p] ∧ (SqL K H p ys ∨ SqT K H p ys) ∧ ∀ l, H l = none → Q (.ref l) (upd H l (.lst ys))) oList := fun B σ H Hi as s xs z vs Q rp hv e q => by
  cases hv with
  | nil => cases e
  | cons a1 a2 =>
    cases a2 with
    | cons _ _ => cases e
    | nil =>
      rename_i v x
      simp only [oList] at e
      cases h1 : datL s x with
      | some ys =>
        rw [h1] at e
        cases e
        obtain ⟨a, ws, rfl, ha, da⟩ := rp.datL a1 h1
        exact ⟨a, ws, rfl, .inl (.inl (.inl ha)), fun l hl => q.now rp hl da⟩
      | none =>
        rw [h1] at e
        cases a1 with
        | c _ => cases e
        | d q' =>
          cases q' with
          | tup ha da => cases e; exact ⟨_, _, rfl, .inr (.inl (.inl (rp.tup ha))), fun l hl => q.now rp hl da⟩
          | _ => cases e
def oTuple : OA Vl := fun xs s => match xs with
  | [x] => match datL s x with
    | some ys => some (.d (.tuple ys))
    | none => match x with
      | .d (.tuple ys) => some (.d (.tuple ys))
      | _ => none
  | _ => none
theorem ca_tuple {K : PySem.W.Frag} : CaS (fun xs H Q => ∃ p ys, xs = [.ref p] ∧ ((SqL K H p ys ∧ ∀ l, H l = none → Q (.ref l) (upd H l (.tup ys))) ∨ (SqT K H p ys ∧ Q (.ref p) H))) oTuple := fun B σ H Hi as s xs z vs Q rp hv e q => by
  cases hv with
  | nil => cases e
  | cons a1 a2 =>
    cases a2 with
    | cons _ _ => cases e
    | nil =>
      rename_i v x
      simp only [oTuple] at e
      cases h1 : datL s x with
      | some ys =>
        rw [h1] at e
        cases e
        obtain ⟨a, ws, rfl, ha, da⟩ := rp.datL a1 h1
        refine ⟨a, ws, rfl, .inl ⟨.inl (.inl ha), fun l hl => ?_⟩⟩
        have sm : Same Hi (upd Hi l (.tup ws)) := same_new (rp.fresh hl)
        exact q _ _ (rp.addI hl) sm _ (.d (.tup upd_same (da.mono sm)))
      | none =>
        rw [h1] at e
        cases a1 with
        | c _ => cases e
        | d q' =>
          cases q' with
          | tup ha da => cases e; exact ⟨_, _, rfl, .inr ⟨.inl (.inl (rp.tup ha)), q.now rp (.d (.tup ha da))⟩⟩
          | _ => cases e
/-! ### sorted, ints -/
def intsOf : List D → Option (List Int)
  | [] => some []
  | .int i :: xs => (intsOf xs).map (i :: ·)
  | _ => none
theorem intsOf_map : ∀ ns : List Int, intsOf (ns.map PyData.int) = some ns
  | [] => rfl
  | n :: ns => by simp [intsOf, intsOf_map ns]
theorem intsOf_inv : ∀ {xs : List D} {ns : List Int}, intsOf xs = some ns → xs = ns.map PyData.int
  | [], ns, h => by cases h; rfl
  | .int i :: xs, ns, h => by
    simp only [intsOf] at h
    cases k : intsOf xs with
    | none => rw [k] at h; cases h
    | some ms => rw [k] at h; cases h; rw [intsOf_inv k]; rfl
  | .none :: xs, ns, h => by simp [intsOf] at h
  | .bool _ :: xs, ns, h => by simp [intsOf] at h
  | .str _ :: xs, ns, h => by simp [intsOf] at h
  | .list _ :: xs, ns, h => by simp [intsOf] at h
  | .tuple _ :: xs, ns, h => by simp [intsOf] at h
  | .dict _ :: xs, ns, h => by simp [intsOf] at h
def srt (ns : List Int) : List Int := ns.mergeSort fun a b => decide (a ≤ b)
theorem srt_perm (ns : List Int) : (srt ns).Perm ns := List.mergeSort_perm ns _
theorem srt_sorted (ns : List Int) : (srt ns).Pairwise (· ≤ ·) := by
  have := List.pairwise_mergeSort (le := fun a b : Int => decide (a ≤ b)) (fun a b c h1 h2 => by simp at h1 h2 ⊢; omega) (fun a b => by simp; omega) ns
  exact this.imp fun h => by simpa using h
theorem sorted_eq : ∀ {xs ys : List Int}, xs.Perm ys → xs.Pairwise (· ≤ ·) → ys.Pairwise (· ≤ ·) → xs = ys
  | [], ys, p, _, _ => (List.nil_perm.mp p).symm
  | x :: xs, [], p, _, _ => by have := p.length_eq; simp at this
  | x :: xs, y :: ys, p, h1, h2 => by
    have e : x = y := by
      have m1 : x ∈ y :: ys := p.mem_iff.mp List.mem_cons_self
      have m2 : y ∈ x :: xs := p.mem_iff.mpr List.mem_cons_self
      rcases List.mem_cons.mp m1 with e | m1
      · exact e
      · rcases List.mem_cons.mp m2 with e | m2
        · exact e.symm
        · have a1 := (List.pairwise_cons.mp h1).1 y m2
          have a2 := (List.pairwise_cons.mp h2).1 x m1
          omega
    subst e
    rw [sorted_eq ((List.perm_cons x).mp p) (List.pairwise_cons.mp h1).2 (List.pairwise_cons.mp h2).2]
def oSorted : OA (List D) := fun xs s => match xs with
  | [x] => match datL s x with
    | some ys => match intsOf ys with
      | some ns => some ((srt ns).map PyData.int)
      | none => none
    | none => none
  | _ => none
theorem ca_sorted {K : PySem.W.Frag} : CaF (rSortedI K) oSorted := fun B σ H Hi as s xs z vs Q rp hv e q => by
  cases hv with
  | nil => cases e
  | cons a1 a2 =>
    cases a2 with
    | cons _ _ => cases e
    | nil =>
      rename_i v x
      simp only [oSorted] at e
      cases h1 : datL s x with
      | none => rw [h1] at e; cases e
      | some ys =>
        rw [h1] at e
        simp only at e
        cases h2 : intsOf ys with
        | none => rw [h2] at e; cases e
        | some ns =>
          rw [h2] at e
          cases e
          have hy := intsOf_inv h2
          subst hy
          obtain ⟨a, ws, rfl, ha, da⟩ := rp.datL a1 h1
          have hw := da.ints_inv
          subst hw
          refine ⟨a, ns, rfl, .inl (.inl ha), fun ns' p hp hs hn => ?_⟩
          have : ns' = srt ns := sorted_eq (hp.trans (srt_perm ns).symm) hs (srt_sorted ns)
          subst this
          exact q.now rp hn (DqA.ints _)
/-! ### isinstance of data -/
def tyN : D → String
  | .none => "NoneType"
  | .bool _ => "bool"
  | .int _ => "int"
  | .str _ => "str"
  | .list _ => "list"
  | .tuple _ => "tuple"
  | .dict _ => "dict"
def tyVl (s : S) : Vl → Option String
  | .d x => some (tyN x)
  | .c j => match s.ce[j]? with
    | some (.l _) => some "list"
    | some (.f _) => some "list"
    | _ => none
def fIsi (n : String) (f : M Vl) : M Vl := bnd f fun x => gets fun s => match tyVl s x with
  | some t => match kitB t n with
    | some b => some (.d (.bool b))
    | none => none
  | none => none
section
variable {mg : Str → Option Value} {W : WX} {B : Bd mg} {σ : St} {H Hi : Hp} {as : List Addr} {s : S}
variable {ta tb tc te : TE} {fa fb fc fe : M Vl}
theorem Rep.ty {K : PySem.W.Frag} (r : Rep B σ H Hi as s) (nl : B.lk0 ++ B.lk1 = [] ∨ ∀ y, (∃ ds, y = PyData.dict ds) → True) {v : V} {x : Vl} {n : String} (h : RelVl Hi as v x) (e : tyVl s x = some n) : TyX K H v (.type n) := by
  cases h with
  | d q =>
    cases e
    cases q with
    | non => exact .base .non
    | bl b => exact .base (.bl b)
    | int i => exact .base (.int i)
    | str z => exact .base (.str z)
    | lst h1 _ => exact .base (.lst (r.lst h1))
    | tup h1 _ => exact .base (.tup (r.tup h1))
    | dct h1 _ =>
      have q := r.sub _ _ h1
      unfold HL at q
      split at q
      · rename_i hl
        obtain ⟨k, z⟩ := r.lkd _ hl
        rw [h1] at z; cases z
      · exact .fDict q
  | @c a j q =>
    simp only [tyVl] at e
    cases hc : s.ce[j]? with
    | none => rw [hc] at e; cases e
    | some c =>
      rw [hc] at e
      have k := r.cel j a c q hc
      cases c with
      | l xs => cases e; obtain ⟨_, vs, z, _⟩ := k; exact .base (.lst z)
      | f xs => cases e; obtain ⟨vs, z, _⟩ := k; exact .base (.lst (r.lst z))
      | m k => cases e
      | g => cases e
      | x e1 => cases e
      | v _ => cases e
      | w _ => cases e
      | t _ => cases e
theorem se_isi {K : PySem.W.Frag} {n : String} (h : SE mg W ta fa) : SE mg W (tCB (rIsi K) (tCons ta (tCons (tC (.ty n)) tNil))) (fIsi n fa) := fun B σ H Hi as s Q rp w => by
  refine h B σ H Hi as s _ rp (wp_mono (wp_bnd w) (fun x s1 w1 => ?_) fun _ _ z => z)
  intro H1 Hi1 as1 r1 e1 p1 v hv
  obtain ⟨z, q, w2⟩ := wp_gets w1
  cases h1 : tyVl s1 x with
  | none => rw [h1] at q; cases q
  | some t =>
    rw [h1] at q
    simp only at q
    cases h2 : kitB t n with
    | none => rw [h2] at q; cases q
    | some b =>
      rw [h2] at q
      cases q
      exact ⟨v, .ty n, .type t, .type n, b, rfl, .ty n, r1.ty (.inr fun _ _ => trivial) hv h1, kit_ty h2, w2 H1 Hi1 as1 r1 e1 p1 _ (.d (.bl b))⟩
/-! ### repr -/
def rRepr (K : PySem.W.Frag) : RC := fun xs H Q => ∃ x d, xs = [x] ∧ Dp K H x d ∧ d.showable = true ∧ d.hasDict = false ∧ d.depth ≤ 30 ∧ d.shown.length ≤ sizeLine ∧ Q (.str d.shown) H
theorem call_repr {X : Cx} {k : Nat} (hr : Room k X.A) (hgd : X.A.guards = some []) : CallR X (.builtin "repr") (rRepr X.K) := by
  intro pins s σ H xs us Q I r h
  obtain ⟨x, d, rfl, hd, hs, hn, hdp, hz, q⟩ := h
  obtain ⟨u, rfl, ru⟩ := vals1 r
  obtain ⟨ads, rd⟩ := Dp.reads I d x u hd ru
  have hun := hr.units
  cases rd with
  | none => exact PySem.P.repr_of_none ⟨.str _, H, I.tok _, ⟨_, rfl⟩, by simpa only [PyData.shown] using q⟩
  | bool b => exact PySem.P.repr_of_bool ⟨.str _, H, I.tok _, ⟨_, rfl⟩, by simpa only [PyData.shown] using q⟩
  | int i t => exact PySem.P.repr_of_int (by simpa [PyData.showable] using hs) ⟨.str _, H, I.tok _, ⟨_, rfl⟩, by simpa only [PyData.shown] using q⟩
  | str y t => exact PySem.P.repr_of_str ⟨.str _, H, I.tok _, ⟨_, rfl⟩, by simpa only [PyData.shown] using q⟩ (by simpa only [PyData.shown] using hz)
  | list h1 h2 h3 h4 =>
    exact PySem.repr_of_reads' (.list h1 h2 h3 h4) hs (PyData.noDict_hsm hn) hgd (by omega) (fun _ _ e => e) (fun h' t tk hk => ⟨.str _, H, I.kept hk, ⟨_, rfl⟩, q⟩) hz
  | tuple h1 h2 h3 h4 =>
    exact PySem.repr_of_reads' (.tuple h1 h2 h3 h4) hs (PyData.noDict_hsm hn) hgd (by omega) (fun _ _ e => e) (fun h' t tk hk => ⟨.str _, H, I.kept hk, ⟨_, rfl⟩, q⟩) hz
  | dict h1 h2 h3 h4 h5 => simp [PyData.hasDict] at hn
def okR (d : D) : Bool := noD d && d.showable && !d.hasDict && decide (d.depth ≤ 30) && decide (d.shown.length ≤ 1000000)
def oRepr : OA Vl := fun xs s => match xs with
  | [x] => match dat s x with
    | some d => if okR d = true then some (.d (.str d.shown)) else none
    | none => none
  | _ => none
theorem ca_repr {K : PySem.W.Frag} : CaS (rRepr K) oRepr := fun B σ H Hi as s xs z vs Q rp hv e q => by
  cases hv with
  | nil => cases e
  | cons a1 a2 =>
    cases a2 with
    | cons _ _ => cases e
    | nil =>
      rename_i v x
      simp only [oRepr] at e
      cases h1 : dat s x with
      | none => rw [h1] at e; cases e
      | some d =>
        rw [h1] at e
        simp only at e
        split at e
        · rename_i hk
          cases e
          simp only [okR, Bool.and_eq_true, decide_eq_true_eq, Bool.not_eq_true'] at hk
          exact ⟨v, d, rfl, rp.dpV a1 h1 hk.1.1.1.1, hk.1.1.1.2, hk.1.1.2, hk.1.2, le_line hk.2, q.now rp (.d (.str _))⟩
        · cases e
end
end DL

end DLsec_10

section DLsec_11
set_option maxRecDepth 100000
namespace DL
open PySem PySem.Spec PyProof.Rows L2
/-! ### methods that change a cell -/
def needL (x : Vl) : M Unit := fun s => match datL s x with
  | some _ => .ok () s
  | none => .no
def upC (x : Vl) (k : List D → Option (Vl × List D)) : M Vl := fun s => match x with
  | .c j => match s.ce[j]? with
    | some (.l xs) => match k xs with
      | some (y, ys) => .ok y { s with ce := s.ce.set j (.l ys) }
      | none => .no
    | _ => .no
  | _ => .no
def fApp (fo : M Vl) (fa : M Vl) : M Vl := bnd fo fun x => bnd (needL x) fun _ => bnd fa fun y => bnd (frz y) fun d => upC x fun xs => if xs.length < 1000000 then some (.d .none, xs ++ [d]) else none
def fPop (fo : M Vl) : M Vl := bnd fo fun x => bnd (needL x) fun _ => upC x fun xs => match xs.getLast? with
  | some d => some (.d d, xs.dropLast)
  | none => none
def fPopAt (fo : M Vl) (fi : M Vl) : M Vl := bnd fo fun x => bnd (needL x) fun _ => bnd fi fun i => match i with
  | .d (.int i) => upC x fun xs => if -1000000000 ≤ i ∧ i ≤ 1000000000 then (match seqIndex? i xs.length with
      | some k => (xs[k]?).map fun d => (.d d, xs.eraseIdx k)
      | none => none) else none
  | _ => stuck
def setIt (o i : Vl) (d : D) : M Unit := fun s => match o, i with
  | .c j, .d (.int i) => match s.ce[j]? with
    | some (.l xs) => match ixN xs.length i with
      | some k => .ok () { s with ce := s.ce.set j (.l (xs.set k d)) }
      | none => .no
    | _ => .no
  | _, _ => .no
def kSub (fo fi : M Vl) : Vl → M Unit := fun x => bnd fo fun o => bnd fi fun i => bnd (frz x) fun d => setIt o i d
section
variable {mg : Str → Option Value} {W : WX} {B : Bd mg} {σ : St} {H Hi : Hp} {as : List Addr} {s : S}
variable {ta tb tc te : TE} {fa fb fc fe : M Vl}
theorem wp_needL {x : Vl} {v : V} {P : Unit → S → Prop} {E : Ex → S → Prop} {K : PySem.W.Frag} (r : Rep B σ H Hi as s) (h : RelVl Hi as v x) (w : wpR (needL x s) P E) : P () s ∧ tyV K "list" v H := by
  unfold needL at w
  cases e : datL s x with
  | none => rw [e] at w; exact w.elim
  | some xs =>
    rw [e] at w
    obtain ⟨a, vs, rfl, h1, h2⟩ := r.datL h e
    exact ⟨w, .inl ⟨rfl, vs, .inl (.inl h1)⟩⟩
/-- the cell that is changed -/
theorem wp_upC {x : Vl} {v : V} {k : List D → Option (Vl × List D)} {P : Vl → S → Prop} {E : Ex → S → Prop} (r : Rep B σ H Hi as s) (h : RelVl Hi as v x) (w : wpR (upC x k s) P E) :
    ∃ j a xs vs y ys, x = .c j ∧ v = .ref a ∧ as[j]? = some a ∧ s.ce[j]? = some (.l xs) ∧ H a = some (.lst vs) ∧ DqA Hi vs xs ∧ k xs = some (y, ys) ∧ P y { s with ce := s.ce.set j (.l ys) } ∧
      ∀ ws, DqA Hi ws ys → Rep B σ (upd H a (.lst ws)) Hi as { s with ce := s.ce.set j (.l ys) } := by
  cases h with
  | d q => exact w.elim
  | @c a j q =>
    simp only [upC] at w
    cases hc : s.ce[j]? with
    | none => rw [hc] at w; exact w.elim
    | some c =>
      rw [hc] at w
      cases c with
      | l xs =>
        simp only at w
        cases hk : k xs with
        | none => rw [hk] at w; exact w.elim
        | some p =>
          obtain ⟨y, ys⟩ := p
          rw [hk] at w
          obtain ⟨hn, vs, h1, h2⟩ := r.cel j a _ q hc
          exact ⟨j, a, xs, vs, y, ys, rfl, rfl, q, hc, h1, h2, hk, w, fun ws hw => r.mut q hc rfl rfl ⟨hn, ws, upd_same, hw⟩⟩
      | _ => exact w.elim
theorem se_append {K : PySem.W.Frag} (ho : SE mg W ta fa) (hb : SE mg W tb fb) : SE mg W (tBM K "list" rAppend ta (tCons tb tNil)) (fApp fa fb) := fun B σ H Hi as s Q rp w => by
  refine ho B σ H Hi as s _ rp (wp_mono (wp_bnd w) (fun x s1 w1 => ?_) fun _ _ z => z)
  intro H1 Hi1 as1 r1 e1 p1 v hv
  obtain ⟨w2, ty⟩ := wp_needL (K := K) r1 hv (wp_bnd w1)
  refine ⟨ty, hb B σ H1 Hi1 as1 s1 _ r1 (wp_mono (wp_bnd w2) (fun y s2 w3 => ?_) fun e s' z => XW.mono z e1 p1)⟩
  intro H2 Hi2 as2 r2 e2 p2 u hu
  obtain ⟨d, s3, Hi3, w4, r3, e3, q3⟩ := r2.frz hu (wp_bnd w3)
  obtain ⟨j, a, xs, vs, y', ys, rfl, rfl, ha, hc, h1, h2, hk, w5, up⟩ := wp_upC r3 (hv.mono (e2.trans e3) p2) w4
  split at hk
  · rename_i hn
    cases hk
    refine ⟨a, vs, u, rfl, rfl, h1, by rw [h2.length]; exact lt_line hn, ?_⟩
    exact w5 _ Hi3 as2 (up (vs ++ [u]) (h2.append (.cons q3 .nil))) ((e1.trans e2).trans e3) (p1.trans p2) _ (.d .non)
  · cases hk
theorem DqA.dropLast {v : List V} {d : List D} (h : DqA Hi v d) : DqA Hi v.dropLast d.dropLast := by
  rw [List.dropLast_eq_take, List.dropLast_eq_take, h.length]
  exact h.take _
theorem se_pop {K : PySem.W.Frag} (ho : SE mg W ta fa) : SE mg W (tBM0 K "list" rPop ta) (fPop fa) := fun B σ H Hi as s Q rp w => by
  refine ho B σ H Hi as s _ rp (wp_mono (wp_bnd w) (fun x s1 w1 => ?_) fun _ _ z => z)
  intro H1 Hi1 as1 r1 e1 p1 v hv
  obtain ⟨w2, ty⟩ := wp_needL (K := K) r1 hv (wp_bnd w1)
  obtain ⟨j, a, xs, vs, y', ys, rfl, rfl, ha, hc, h1, h2, hk, w5, up⟩ := wp_upC r1 hv w2
  cases hl : xs.getLast? with
  | none => rw [hl] at hk; cases hk
  | some d =>
    rw [hl] at hk
    cases hk
    rw [List.getLast?_eq_getElem?] at hl
    obtain ⟨u, q1, q2⟩ := h2.get hl
    rw [← h2.length] at q1
    exact ⟨ty, a, vs, u, rfl, rfl, h1, q1, w5 _ Hi1 as1 (up _ h2.dropLast) e1 p1 _ (.d q2)⟩
theorem se_popAt {K : PySem.W.Frag} (ho : SE mg W ta fa) (hb : SE mg W tb fb) : SE mg W (tBM K "list" rPopAt ta (tCons tb tNil)) (fPopAt fa fb) := fun B σ H Hi as s Q rp w => by
  refine ho B σ H Hi as s _ rp (wp_mono (wp_bnd w) (fun x s1 w1 => ?_) fun _ _ z => z)
  intro H1 Hi1 as1 r1 e1 p1 v hv
  obtain ⟨w2, ty⟩ := wp_needL (K := K) r1 hv (wp_bnd w1)
  refine ⟨ty, hb B σ H1 Hi1 as1 s1 _ r1 (wp_mono (wp_bnd w2) (fun y s2 w3 => ?_) fun e s' z => XW.mono z e1 p1)⟩
  intro H2 Hi2 as2 r2 e2 p2 u hu
  cases hu with
  | c q => exact w3.elim
  | d q =>
    cases q with
    | int i =>
      obtain ⟨j, a, xs, vs, y', ys, rfl, rfl, ha, hc, h1, h2, hk, w5, up⟩ := wp_upC r2 (hv.mono e2 p2) w3
      split at hk
      · rename_i hn
        cases hs : seqIndex? i xs.length with
        | none => rw [hs] at hk; cases hk
        | some k =>
          rw [hs] at hk
          simp only at hk
          cases hg : xs[k]? with
          | none => rw [hg] at hk; cases hk
          | some d =>
            rw [hg] at hk
            cases hk
            obtain ⟨u, q1, q2⟩ := h2.get hg
            exact ⟨a, vs, i, k, u, rfl, rfl, h1, by omega, by omega, by rw [h2.length]; exact hs, q1, w5 _ Hi2 as2 (up _ (h2.erase k)) (e1.trans e2) (p1.trans p2) _ (.d q2)⟩
      · cases hk
    | _ => exact w3.elim
theorem sg_sub (ho : SE mg W ta fa) (hi : SE mg W tb fb) : SG mg W (gSub ta tb rSetL) (kSub fa fb) := fun B σ H Hi as s x v Q rp hv w => by
  refine ho B σ H Hi as s _ rp (wp_mono (wp_bnd w) (fun o s1 w1 => ?_) fun _ _ z => z σ)
  intro H1 Hi1 as1 r1 e1 p1 vo hvo
  refine hi B σ H1 Hi1 as1 s1 _ r1 (wp_mono (wp_bnd w1) (fun i s2 w2 => ?_) fun e s' z => XW.mono (z σ) e1 p1)
  intro H2 Hi2 as2 r2 e2 p2 vi hvi
  obtain ⟨d, s3, Hi3, w3, r3, e3, q3⟩ := r2.frz (hv.mono (e1.trans e2) (p1.trans p2)) (wp_bnd w2)
  have hvo' := hvo.mono (e2.trans e3) p2
  have hvi' := hvi.mono e3 (List.prefix_refl _)
  unfold setIt at w3
  cases hvo' with
  | d q => exact w3.elim
  | @c a j q =>
    cases hvi' with
    | c q' => exact w3.elim
    | d q' =>
      cases q' with
      | int i =>
        simp only at w3
        cases hc : s3.ce[j]? with
        | none => rw [hc] at w3; exact w3.elim
        | some c =>
          rw [hc] at w3
          cases c with
          | l xs =>
            simp only at w3
            obtain ⟨hn, vs, h1, h2⟩ := r3.cel j a _ q hc
            cases hk : ixN xs.length i with
            | none => rw [hk] at w3; exact w3.elim
            | some k =>
              rw [hk] at w3
              have r4 := r3.mut q hc rfl rfl (c' := .l (xs.set k d)) ⟨hn, vs.set k v, upd_same, h2.set q3 k⟩
              exact ⟨a, vs, i, k, rfl, rfl, h1, by rw [h2.length]; exact hk, w3 σ _ Hi3 as2 r4 ((e1.trans e2).trans e3) (p1.trans p2)⟩
          | _ => exact w3.elim
      | _ => exact w3.elim
/-! ### x += e -/
def fAug (i : Nat) (o : O2 Vl) (f : M Vl) : M Fl := bnd (fVar i) fun x => bnd f fun y => bnd (gets (o x y)) fun z => bnd (kName i z) fun _ => ret .nx
theorem ss_aug {i : Nat} {r : TIp} {o : O2 Vl} (ho : OpS r o) (h : SE mg W ta fa) : SS mg W (tAug i ta r) (fAug i o fa) := fun B σ H Hi as s Dn rp w => by
  have w0 := wp_bnd w
  unfold fVar at w0
  cases e : s.sl[i]? with
  | none => rw [e] at w0; exact w0.elim
  | some ov =>
    cases ov with
    | none => rw [e] at w0; exact w0.elim
    | some x =>
      rw [e] at w0
      obtain ⟨v, h1, h2⟩ := rp.slo i x e
      refine ⟨v, h1, h B σ H Hi as s _ rp (wp_mono (wp_bnd w0) (fun y s1 w1 => ?_) fun _ _ z => z σ)⟩
      intro H1 Hi1 as1 r1 e1 p1 u hu
      obtain ⟨z, q, w2⟩ := wp_gets (wp_bnd w1)
      exact ho B σ H1 Hi1 as1 s1 x y z v u _ r1 (h2.mono e1 p1) hu q fun H' Hi' r' e' t ht => (w2 _) H' Hi' as1 (r'.bind ht) (e1.trans e') p1
/-! ### in, not in: flat things -/
def eqF : D → D → Bool
  | .none, .none => true
  | .bool a, .bool b => a == b
  | .bool a, .int b => (if a then 1 else 0) == b
  | .int a, .bool b => a == (if b then 1 else 0)
  | .int a, .int b => a == b
  | .str a, .str b => a == b
  | _, _ => false
end
end DL

end DLsec_11

section DLsec_12
set_option maxRecDepth 100000
namespace DL
open PySem PySem.Spec PyProof.Rows L2
/-! ### the law's own end -/
theorem law_g {P : Program} {w : World} {K : PySem.W.Frag} {mg mb : Str → Option Value} {k : Nat} {fa a : Addr} {fd : FuncData} {x : Str} {sp : Sp} {t₁ : Shared} {us : List Value} {ns : List Int}
    (isIn : K.In t₁.heap) (nsp : t₁.heap.Ns mainGlobals mg) (bsp : t₁.heap.Ns builtinsNs mb) (bbb : ∀ x : Str, x ≠ "__name__" → mb x = bootBuiltins x) (lim : t₁.heap.NoLimit) (gn : t₁.gens = #[])
    (obj : t₁.heap.get? a = some { cls := .type "list", data := .seq us.toArray }) (hint : IntsAre us ns) (small : ns.length ≤ sizeLine) (room : Room k callerA)
    (F : ∀ base : Heap, K.In base → base.Ns mainGlobals mg → FnG P w K mg base k fa fd [x] sp) (binds : ∀ (s : Shared) (u : Value), BindsTo s fd ⟨[u], []⟩ [(x, u)])
    (prom : ∀ G : Hp, Only G → SqL K G a (ns.map V.int) → sp [.ref a] G (fun v _ => v = .bl true) fun _ _ _ => False) :
    codeAny (model P w) callerA (.call (.ref fa) ⟨[.ref a], []⟩) (fun res s' => res = .ok (.ret (.bool true)) ∧ OldK t₁.heap s'.heap ∧ s'.os = t₁.os ∧ AllBare s'.gens) t₁ := by
  have key : ∀ G : Hp, Only G → SqL K G a (ns.map V.int) → HOk P w G t₁.heap → (∀ b, G b ≠ none → b = a) → (G a ≠ none → K.lookup a = none) →
      codeAny (model P w) callerA (.call (.ref fa) ⟨[.ref a], []⟩) (fun res s' => res = .ok (.ret (.bool true)) ∧ OldK t₁.heap s'.heap ∧ s'.os = t₁.os ∧ AllBare s'.gens) t₁ := by
    intro G only sq hok alone notK
    have free : ∀ {b : Addr} {o : Obj} {es : Array DictEntry} {ep : Nat}, t₁.heap.get? b = some o → o.data = .dict es ep → G b = none := by
      intro b o es ep hb hd
      refine Classical.byContradiction fun hne => ?_
      cases alone b hne
      rw [obj] at hb
      cases hb
      cases (show Data.seq us.toArray _ = Data.dict es ep from hd)
    have nsKeep : ∀ {b : Addr} {m : Str → Option Value}, t₁.heap.Ns b m → (hidT t₁.heap G).Ns b m := by
      rintro b m ⟨o, es, ep, h1, h2, h3⟩
      exact ⟨o, es, ep, hidT_get h1 (free h1 h2), h2, h3⟩
    have inKeep : K.In (hidT t₁.heap G) := by
      intro b o hb
      refine hidT_get (isIn b o hb) (Classical.byContradiction fun hne => ?_)
      cases alone b hne
      rw [notK hne] at hb
      cases hb
    obtain ⟨mc, l1, l2⟩ := lim
    have md : Mod K mg (hidT t₁.heap G) := ⟨inKeep, nsKeep nsp, ⟨mb, nsKeep bsp, bbb⟩, ⟨mc, nsKeep l1, l2⟩⟩
    have e0 : Env0 P w K mg (hidT t₁.heap G) callerA [] t₁ G :=
      ⟨rfl, md, fun b o e => of_hidT e, Nat.le_of_eq (hidT_size _ _), trivial, by rintro b ⟨⟩, hok, .of_eq gn⟩
    have rn := (F _ inKeep (nsKeep nsp)).run callerA [] t₁ G ⟨[.ref a], []⟩ [.ref a] [.ref a] _ _ room rfl e0 (binds t₁ (.ref a)) (.cons rfl .nil) (prom G only sq)
    refine codeAny_mono rn fun res s' h => ?_
    cases res with
    | error e => obtain ⟨_, _, _, _, _, _, _, _, _, _, _, _, z⟩ := h; exact z.elim
    | ok fl => cases fl with
      | next => exact h.elim
      | brk => exact h.elim
      | cont => exact h.elim
      | ret u =>
        obtain ⟨v, G', os, bare, un, hok', rv, q⟩ := h
        cases (show v = .bl true from q)
        cases (show u = Value.bool true from rv)
        refine ⟨rfl, OldK.of_keep fun b o hb => ?_, os, bare⟩
        rcases only b with z | ⟨ob, xs, z⟩
        · exact un.keep b o hb z (by rintro ⟨⟩) (by rintro ⟨⟩)
        · have z1 := (hok b _ z).1
          rw [hb] at z1
          cases z1
          exact (hok' b _ (un.frzs b _ _ z)).1
  have vals := vals_ints hint
  cases hk : K.lookup a with
  | some o =>
    have e := isIn a o hk
    rw [obj] at e
    cases e
    refine key (fun _ => none) (fun _ => .inl rfl) (.inr ⟨_, us.toArray, _, hk, rfl, rfl, rfl, ?_, by simpa using vals⟩) (by rintro b u ⟨⟩) (fun b z => absurd rfl z) fun z => absurd rfl z
    rw [List.size_toArray, hint.length]
    exact small
  | none =>
    have self : (fun b => if b = a then some (HO.frz { cls := .type "list", data := .seq us.toArray } (.lst (ns.map V.int))) else none) a = some (HO.frz { cls := .type "list", data := .seq us.toArray } (.lst (ns.map V.int))) := if_pos rfl
    refine key (fun b => if b = a then some (.frz { cls := .type "list", data := .seq us.toArray } (.lst (ns.map V.int))) else none) (fun b => ?_) (.inl (.inr ⟨_, self⟩)) (fun b u z => ?_) (fun b z => ?_) fun _ => hk
    · by_cases hb : b = a
      · subst hb; exact .inr ⟨_, _, self⟩
      · exact .inl (if_neg hb)
    · by_cases hb : b = a
      · subst hb
        cases (self.symm.trans z)
        exact ⟨obj, by rw [List.length_map]; exact small, us, _, vals, obj⟩
      · cases ((if_neg hb).symm.trans z)
    · exact Classical.byContradiction fun hb => z (if_neg hb)
theorem walk_g {l : PySem.W.OpenLaw} {n k : Nat} {q : Program} {loose : List Str} {XP : (Str → Option Value) → Heap → Prop} {YP : World → Heap → Prop} {d : DefRec} {K : Params → PySem.W.Frag} {sp : World → (Str → Option Value) → Sp} {x : Str}
    (hn : l.most = some n) (hn2 : n ≤ sizeLine) (hdf : d.params.defaults = []) (hr : Room k callerA) (hY : ∀ (w : World) (h : Heap), YP w h → (K w.params).In h)
    (F : ∀ (w : World) (mg : Str → Option Value) (fa : Addr) (h : Heap), (K w.params).In h → h.Ns mainGlobals mg → mg d.name = some (.ref fa) →
      ∃ fd : FuncData, (∀ (s : Shared) (u : Value), BindsTo s fd ⟨[u], []⟩ [(x, u)]) ∧ ∀ base : Heap, (K w.params).In base → base.Ns mainGlobals mg → FnG l.prog w (K w.params) mg base k fa fd [x] (sp w mg))
    (hsp : ∀ (w : World) (mg : Str → Option Value) (G : Hp) (a : Addr) (ns : List Int), ns.length ≤ n → Only G → SqL (K w.params) G a (ns.map V.int) → sp w mg [.ref a] G (fun v _ => v = .bl true) fun _ _ _ => False) :
    PySem.W.WalkO q loose XP YP l.row.toRowW d [] (fun f vs => PySem.call f vs) := by
  refine Att.attach_call hn hdf fun w s₀ s₁ mg mb fa o pm cd doc a vs ns GG Y ho hd hcd hmg hobj hints hlen hg => ?_
  obtain ⟨fd, hb, hF⟩ := F w mg fa _ (hY w _ Y) GG.T.g hmg
  exact law_g (hY w _ Y) GG.T.g GG.T.b GG.T.builtins GG.T.nolimit hg hobj hints
    (Nat.le_trans hlen hn2) hr hF hb fun G hO hS => hsp w mg G a ns hlen hO hS
end DL

end DLsec_12

section DLsec_13
set_option maxRecDepth 100000
namespace DL
open PySem PySem.Spec PyProof.Rows L2
/-! ### sum(lists, list) -/
def flatL (ps : List (Addr × List Value)) : List Value := (ps.map (·.2)).flatten
section
variable {prog : Program} {w : World} {A : Around} {R : Result → Shared → Prop}
theorem sum_lists (hh : A.handled = none) {I l St : Addr} {items : Array Value} {N0 : Nat} (hI : N0 ≤ I) (hS : N0 ≤ St) (hIS : I ≠ St) (hl0 : l < N0) :
    ∀ (ps : List (Addr × List Value)) (i : Nat) (s : Shared) (T : Addr) (tot : List Value) (c nT : Nat), (∀ (k : Nat) (p : Addr × List Value), ps[k]? = some p → items[i + k]? = some (.ref p.1)) → items.size = i + ps.length →
    s.heap.IsList l items → s.heap.IsListIter I l i → s.heap.get? St = some { cls := .type "list", dict := none, data := .seq #[.ref T] c, slots := #[] } → s.heap.get? T = some { cls := .type "list", data := .seq tot.toArray nT } → T ≠ I → T ≠ St →
    (∀ p ∈ ps, p.1 < N0 ∧ ∃ n, s.heap.get? p.1 = some { cls := .type "list", data := .seq p.2.toArray n }) → tot.length + (flatL ps).length ≤ sizeLine → N0 ≤ s.heap.objs.size →
    (∀ h' tk T' n', (∀ b o, b ≠ I → b ≠ St → s.heap.get? b = some o → h'.get? b = some o) → h'.get? T' = some { cls := .type "list", data := .seq (tot ++ flatL ps).toArray n' } → (ps = [] → T' = T) → (ps ≠ [] → N0 ≤ T') →
      R (.ok (.ret (.ref T'))) { s with heap := h', toks := tk }) →
    codeAny (model prog w) A (.builtin "sum.loop" ⟨[.ref I, .ref St, rawInt 2, rawInt 0], []⟩) R s := by
  intro ps
  induction ps with
  | nil =>
    intro i s T tot c nT hit hsz hl hI' hSt hT n1 n2 hps hlen hN hR
    refine codeAny_builtin F.entry_sum_loop ?_
    rw [Around.under_plainId F.plain_sum_loop _]
    show wpAny _ A.in1 (seqItems? (.ref St) >>= _) _ _ s
    refine wpAny_bind (wpAny_seqItems hSt rfl ?_)
    show wpAny _ A.in1 (tryCatch (pyNext (.ref I)) _ >>= _) _ _ s
    refine wpAny_bind (wpAny_tryCatch (wpAny_pyNext_list_end hh hI' hl (by simp at hsz; simp [hsz]) fun h' ex => ?_))
    refine wpAny_pure (hR h' s.toks T nT (fun b o b1 b2 e => ?_) ?_ (fun _ => rfl) fun z => absurd rfl z)
    · exact ex b o b1 e
    · simp only [flatL, List.map_nil, List.flatten_nil, List.append_nil]
      exact ex T _ n1 hT
  | cons p ps ih =>
    intro i s T tot c nT hit hsz hl hI' hSt hT n1 n2 hps hlen hN hR
    obtain ⟨hp0, np, hp⟩ := hps p List.mem_cons_self
    have hlen2 : tot.length + (p.2.length + (flatL ps).length) ≤ sizeLine := by
      have : (flatL (p :: ps)).length = p.2.length + (flatL ps).length := by simp [flatL]
      omega
    refine codeAny_builtin F.entry_sum_loop ?_
    rw [Around.under_plainId F.plain_sum_loop _]
    show wpAny _ A.in1 (seqItems? (.ref St) >>= _) _ _ s
    refine wpAny_bind (wpAny_seqItems hSt rfl ?_)
    show wpAny _ A.in1 (tryCatch (pyNext (.ref I)) _ >>= _) _ _ s
    have h0 : items[i]? = some (.ref p.1) := by simpa using hit 0 p rfl
    refine wpAny_bind (wpAny_tryCatch (wpAny_pyNext_list_item hI' hl h0 fun h1 it1 sb1 => ?_))
    have pI : p.1 ≠ I := by have : p.1 < I := Nat.lt_of_lt_of_le hp0 hI; exact Nat.ne_of_lt this
    have pS : p.1 ≠ St := by have : p.1 < St := Nat.lt_of_lt_of_le hp0 hS; exact Nat.ne_of_lt this
    have T1 : h1.get? T = some { cls := .type "list", data := .seq tot.toArray nT } := (sb1.2 T n1).trans hT
    have P1 : h1.get? p.1 = some { cls := .type "list", data := .seq p.2.toArray np } := (sb1.2 p.1 pI).trans hp
    have S1 : h1.get? St = some { cls := .type "list", dict := none, data := .seq #[.ref T] c, slots := #[] } := (sb1.2 St (Ne.symm hIS)).trans hSt
    show wpAny _ A.in1 ((holding [Value.ref p.1] (binaryOp .Add (.ref T) (.ref p.1))).attempt >>= _) _ _ _
    refine wpAny_bind (wpAny_attempt (wpAny_holding (PySem.P.add_list T1 P1 ?_ (by rw [List.size_toArray, List.size_toArray]; omega))))
    have hst : St < h1.objs.size := Heap.lt_size S1
    have S2 : (h1.push { cls := .type "list", data := .seq (tot.toArray ++ p.2.toArray) }).get? St = some { cls := .type "list", dict := none, data := .seq #[.ref T] c, slots := #[] } := Heap.get?_push_of_some _ S1
    show wpAny _ A.in1 (updateSeq St (fun _ => #[.ref h1.objs.size]) >>= _) _ _ _
    refine wpAny_bind (wpAny_updateSeq S2 rfl ?_)
    have S3 := Heap.get?_update_self (Obj.mapSeq fun _ => #[Value.ref h1.objs.size]) S2 rfl
    refine wpAny_bind (wpAny_letGo ?_)
    refine wpAny_bind (wpAny_updateSeq S3 rfl (wpAny_pure ⟨plainId_quiet F.plain_sum_loop _, ?_⟩))
    have S4 := Heap.get?_update_self (Obj.mapSeq fun _ => #[Value.ref h1.objs.size]) S3 rfl
    have keep : ∀ b o, b ≠ St → h1.get? b = some o → (((h1.push { cls := .type "list", data := .seq (tot.toArray ++ p.2.toArray) }).update St (Obj.mapSeq fun _ => #[Value.ref h1.objs.size])).update St (Obj.mapSeq fun _ => #[Value.ref h1.objs.size])).get? b = some o := fun b o hb e =>
      (Heap.get?_update_other _ _ (Ne.symm hb)).trans ((Heap.get?_update_other _ _ (Ne.symm hb)).trans (Heap.get?_push_of_some _ e))
    have hsz1 : N0 ≤ h1.objs.size := by rw [sb1.1]; exact hN
    have nT2 : h1.objs.size ≠ St := (Nat.ne_of_lt hst).symm
    have lI : l ≠ I := by have : l < I := Nat.lt_of_lt_of_le hl0 hI; exact Nat.ne_of_lt this
    have lS : l ≠ St := by have : l < St := Nat.lt_of_lt_of_le hl0 hS; exact Nat.ne_of_lt this
    have T4 : (((h1.push { cls := .type "list", data := .seq (tot.toArray ++ p.2.toArray) }).update St (Obj.mapSeq fun _ => #[Value.ref h1.objs.size])).update St (Obj.mapSeq fun _ => #[Value.ref h1.objs.size])).get? h1.objs.size = some { cls := .type "list", data := .seq (tot ++ p.2).toArray 0 } := by
      refine (Heap.get?_update_other _ _ nT2.symm).trans ((Heap.get?_update_other _ _ nT2.symm).trans ?_)
      rw [Heap.get?_push_size _ rfl]
      simp
    refine ih (i + 1) _ h1.objs.size (tot ++ p.2) _ 0 (fun k q hk => ?_) ?_ ?_ ?_ S4 T4 ?_ nT2 (fun q hq => ?_) ?_ ?_ fun h' tk T' n' k1 k2 k3 k4 => ?_
    · have := hit (k + 1) q (by simpa using hk)
      rw [show i + 1 + k = i + (k + 1) by omega]
      exact this
    · simp at hsz
      omega
    · obtain ⟨ol, hol, z1, z2⟩ := hl
      exact ⟨ol, keep l ol lS ((sb1.2 l lI).trans hol), z1, z2⟩
    · exact it1.at fun o e => keep I o hIS e
    · have : I < h1.objs.size := by obtain ⟨o, ho, _⟩ := it1; exact Heap.lt_size ho
      exact (Nat.ne_of_lt this).symm
    · obtain ⟨q0, nq, hq'⟩ := hps q (List.mem_cons_of_mem _ hq)
      have qI : q.1 ≠ I := by have : q.1 < I := Nat.lt_of_lt_of_le q0 hI; exact Nat.ne_of_lt this
      have qS : q.1 ≠ St := by have : q.1 < St := Nat.lt_of_lt_of_le q0 hS; exact Nat.ne_of_lt this
      exact ⟨q0, nq, keep q.1 _ qS ((sb1.2 q.1 qI).trans hq')⟩
    · simp only [List.length_append]
      omega
    · exact Nat.le_trans hsz1 (Nat.le_of_lt (Heap.lt_size T4))
    · refine hR h' tk T' n' (fun b o b1 b2 e => k1 b o b1 b2 (keep b o b2 ((sb1.2 b b1).trans e))) ?_ (fun z => by cases z) fun _ => ?_
      · have e : tot ++ p.2 ++ flatL ps = tot ++ flatL (p :: ps) := by simp [flatL]
        rw [← e]
        exact k2
      · cases ps with
        | nil => rw [k3 rfl]; exact hsz1
        | cons q r => exact k4 (by simp)
theorem args_sum2 (a b : Value) : argsOk "sum" ⟨[a, b], []⟩ := by unfold argsOk; kernel_rfl
end
def rSumL : RC := fun vs H Q => ∃ (a b : Addr) (ps : List (Addr × List V)) (zs : List V), vs = [.ref a, .ref b] ∧ H a = some (.lst (ps.map fun p => .ref p.1)) ∧ (∀ p ∈ ps, H p.1 = some (.lst p.2)) ∧ H b = some (.lst zs) ∧
  zs.length + ((ps.map (·.2)).flatten).length ≤ sizeLine ∧ (ps = [] → Q (.ref b) H) ∧ (ps ≠ [] → ∀ p, H p = none → Q (.ref p) (upd H p (.lst (zs ++ (ps.map (·.2)).flatten))))
theorem call_sumL {X : Cx} (hc : X.calm = true) : CallR X (.builtin "sum") rSumL := by
  intro pins s σ H xs us Q I r h
  obtain ⟨a, b, ps, zs, rfl, hA, hP, hB, hlen, q1, q2⟩ := h
  obtain ⟨u, w', rfl, ru, rw'⟩ := vals2 r
  cases ru
  cases rw'
  have hh : X.A.handled = none := I.ok.hd hc
  obtain ⟨za, its, na, ra, ea⟩ := I.hok a _ hA
  obtain ⟨zb, itb, nb, rb, eb⟩ := I.hok b _ hB
  -- the lists as they stand
  have lists : ∀ (ps : List (Addr × List V)) (its : List Value), Vals (ps.map fun p => .ref p.1) its → (∀ p ∈ ps, H p.1 = some (.lst p.2)) →
      ∃ qs : List (Addr × List Value), its = qs.map (fun q => .ref q.1) ∧ qs.length = ps.length ∧ (∀ q ∈ qs, q.1 < s.heap.objs.size ∧ ∃ n, s.heap.get? q.1 = some { cls := .type "list", data := .seq q.2.toArray n }) ∧ Vals (ps.map (·.2)).flatten (flatL qs) := fun ps => by
    induction ps with
    | nil => intro its v _; cases v; exact ⟨[], rfl, rfl, by simp, .nil⟩
    | cons p ps ih =>
      intro its v hp
      cases v with
      | cons r1 r2 =>
        cases r1
        obtain ⟨qs, e1, e2, e3, e4⟩ := ih _ r2 fun q hq => hp q (List.mem_cons_of_mem _ hq)
        obtain ⟨_, itp, np, rp, ep⟩ := I.hok p.1 _ (hp p List.mem_cons_self)
        refine ⟨(p.1, itp) :: qs, by rw [e1]; rfl, by simp [e2], fun q hq => ?_, ?_⟩
        · rcases List.mem_cons.mp hq with rfl | hq
          · exact ⟨Heap.lt_size ep, np, ep⟩
          · exact e3 q hq
        · simp only [flatL, List.map_cons, List.flatten_cons]
          exact rp.append e4
  obtain ⟨qs, e1, e2, e3, e4⟩ := lists ps its ra hP
  refine call_function_tree F.kind_sum F.plain_sum F.entry_sum (args_sum2 _ _) ?_
  unfold Builtin.«sum»
  simp only [List.length_cons, List.length_nil]
  rw [if_neg (by decide)]
  refine wpAny_bind (wpAny_of_eq (show Builtin.Builtins.bindParams "sum" ["start"] 0 ⟨[.ref b], []⟩ = pure [some (.ref b)] from rfl) ?_)
  have hla : s.heap.IsList a its.toArray := ⟨_, ea, rfl, _, rfl⟩
  refine wpAny_bind (wpAny_pyIter_list hla ?_)
  refine wpAny_bind (wpAny_pure ?_)
  simp only [List.forIn_cons, List.forIn_nil]
  have tb : ({ s with heap := s.heap.push { cls := .type "list_iterator", data := .fields #[.ref a, .int 0 0] } } : Shared).TypeIs (.ref b) "list" := ⟨_, Heap.get?_push_of_some _ eb, rfl⟩
  refine wpAny_bind (wpAny_bind (wpAny_bind (wpAny_isInstance (T := "list") (b := false) tb F.sub_list_str ?_)))
  simp only [Bool.false_eq_true, if_false]
  refine wpAny_pure (wpAny_bind (wpAny_bind (wpAny_isInstance (T := "list") (b := false) tb F.sub_list_bytes ?_)))
  simp only [Bool.false_eq_true, if_false]
  refine wpAny_pure (wpAny_bind (wpAny_bind (wpAny_isInstance (T := "list") (b := false) tb F.sub_list_bytearray ?_)))
  simp only [Bool.false_eq_true, if_false]
  refine wpAny_pure (wpAny_pure ?_)
  refine wpAny_bind (wpAny_newObj_type ?_)
  have sz1 : (s.heap.push { cls := .type "list_iterator", data := .fields #[.ref a, .int 0 0] }).objs.size = s.heap.objs.size + 1 := by simp [Heap.push]
  have keep : ∀ x o, s.heap.get? x = some o → ((s.heap.push { cls := .type "list_iterator", data := .fields #[.ref a, .int 0 0] }).push { cls := .type "list", data := .seq #[.ref b] }).get? x = some o := fun x o e =>
    Heap.get?_push_of_some _ (Heap.get?_push_of_some _ e)
  refine wpAny_pure ⟨plainId_quiet F.plain_sum_loop _, sum_lists (N0 := s.heap.objs.size) (items := its.toArray) (l := a) hh (Nat.le_refl _) (by rw [sz1]; exact Nat.le_succ _) (by rw [sz1]; exact Nat.ne_of_lt (Nat.lt_succ_self _)) (Heap.lt_size ea) qs 0 _ b itb 0 nb (fun k p hk => ?_) ?_ ?_ ?_ (Heap.get?_push_size _ rfl) (keep _ _ eb) (Nat.ne_of_lt (Heap.lt_size eb)) ?_ (fun p hp => ?_) ?_ ?_ fun h' tk T' n' k1 k2 k3 k4 => ?_⟩
  · rw [e1]
    simp [hk]
  · rw [e1]
    simp
  · exact ⟨_, keep _ _ ea, rfl, _, rfl⟩
  · exact ⟨_, Heap.get?_push_of_some _ (Heap.get?_push_size _ rfl), rfl, rfl⟩
  · rw [sz1]
    exact Nat.ne_of_lt (Nat.lt_succ_of_lt (Heap.lt_size eb))
  · obtain ⟨h1, n, h2⟩ := e3 p hp
    exact ⟨h1, n, keep _ _ h2⟩
  · rw [← rb.length, ← e4.length]
    exact hlen
  · have z : (s.heap.push { cls := .type "list_iterator", data := .fields #[.ref a, .int 0 0] }).objs.size < ((s.heap.push { cls := .type "list_iterator", data := .fields #[.ref a, .int 0 0] }).push { cls := .type "list", data := .seq #[.ref b] }).objs.size := Heap.lt_size (Heap.get?_push_size _ rfl)
    rw [sz1] at z
    exact Nat.le_of_lt (Nat.lt_trans (Nat.lt_succ_self _) z)
  · have kp : ∀ x o, s.heap.get? x = some o → h'.get? x = some o := fun x o e =>
      k1 x o (Nat.ne_of_lt (Heap.lt_size e)) (by rw [sz1]; exact Nat.ne_of_lt (Nat.lt_succ_of_lt (Heap.lt_size e))) (keep x o e)
    by_cases hq : ps = []
    · have : qs = [] := List.length_eq_zero_iff.mp (by rw [e2, hq]; rfl)
      rw [k3 this]
      exact ⟨.ref b, H, I.kept kp, rfl, q1 hq⟩
    · have hq' : qs ≠ [] := fun z => hq (List.length_eq_zero_iff.mp (by rw [← e2, z]; rfl))
      have hT := k4 hq'
      exact ⟨.ref T', _, I.laid (t' := tk) kp hT (show ObjOk X.prog X.w _ h' T' (.lst (zs ++ (ps.map (·.2)).flatten)) from ⟨by rw [List.length_append]; exact hlen, _, n', rb.append e4, k2⟩), rfl, q2 hq T' (I.hok.fresh hT)⟩
/-! .. as data -/
def listsOf : List D → Option (List (List D))
  | [] => some []
  | .list ys :: xs => (listsOf xs).map (ys :: ·)
  | _ => none
def oSumL : OA Vl := fun xs s => match xs with
  | [x, y] => match datL s x, y with
    | some ys, .d (.list zs) => match listsOf ys with
      | some yss => if zs.length + yss.flatten.length ≤ 1000000 then some (.d (.list (zs ++ yss.flatten))) else none
      | none => none
    | _, _ => none
  | _ => none
theorem ca_sumL : CaS rSumL oSumL := fun B σ H Hi as s xs z vs Q rp hv e q => by
  cases hv with
  | nil => cases e
  | cons a1 a2 =>
    cases a2 with
    | nil => cases e
    | cons b1 b2 =>
      cases b2 with
      | cons _ _ => cases e
      | nil =>
        rename_i v x v' x'
        simp only [oSumL] at e
        cases h1 : datL s x with
        | none => rw [h1] at e; simp at e
        | some ys =>
          rw [h1] at e
          cases b1 with
          | c _ => simp at e
          | d q' =>
            cases q' with
            | lst hb db =>
              simp only at e
              cases h2 : listsOf ys with
              | none => rw [h2] at e; cases e
              | some yss =>
                rw [h2] at e
                simp only at e
                split at e
                · rename_i hn
                  cases e
                  obtain ⟨a, ws, rfl, ha, da⟩ := rp.datL a1 h1
                  have lists : ∀ (ys : List D) (yss : List (List D)) (ws : List V), listsOf ys = some yss → DqA Hi ws ys → ∃ ps : List (Addr × List V), ws = ps.map (fun p => .ref p.1) ∧ (∀ p ∈ ps, H p.1 = some (.lst p.2)) ∧ DqA Hi (ps.map (·.2)).flatten yss.flatten ∧ (ps = [] → yss = []) := fun ys => by
                    induction ys with
                    | nil => intro yss ws h d; cases h; cases d; exact ⟨[], rfl, by simp, .nil, fun _ => rfl⟩
                    | cons y ys ih =>
                      intro yss ws h d
                      cases d with
                      | cons d1 d2 =>
                        cases d1 with
                        | lst hy dy =>
                          simp only [listsOf] at h
                          rename_i aa vv dd
                          cases k : listsOf ys with
                          | none => rw [k] at h; cases h
                          | some zss =>
                            rw [k] at h
                            cases h
                            obtain ⟨ps, e1, e2, e3, _⟩ := ih zss _ k d2
                            refine ⟨(aa, vv) :: ps, by rw [e1]; rfl, fun p hp => ?_, ?_, fun z => by cases z⟩
                            · rcases List.mem_cons.mp hp with rfl | hp
                              · exact rp.lst hy
                              · exact e2 p hp
                            · simp only [List.map_cons, List.flatten_cons]
                              exact dy.append e3
                        | _ => simp [listsOf] at h
                  obtain ⟨ps, e1, e2, e3, e4⟩ := lists ys yss ws h2 da
                  subst e1
                  refine ⟨a, _, ps, _, rfl, ha, e2, rp.lst hb, by rw [db.length, e3.length]; exact le_line hn, fun z => ?_, fun _ p hp => ?_⟩
                  · have := e4 z
                    subst this
                    exact q.now rp (.d (.lst hb (by simpa using db)))
                  · exact (EndV.dat q).now rp hp (db.append e3)
                · cases e
            | _ => simp at e
end DL

end DLsec_13

section DLsec_14
set_option maxRecDepth 100000
namespace DL
open PySem PySem.Spec PyProof.Rows L2
theorem tkF {X : Cx} : Takes X WF := fun u s' h => by
  obtain ⟨_, _, _, _, _, _, _, _, _, _, _, _, _, _, _, _, z⟩ := h
  exact z.elim
theorem _root_.L2.Fun.bindsK {K : PySem.W.Frag} {x qual : Str} {st : Stmt} {f : Addr} {fd : FuncData} {ps ks : List Str} {is : List Nat} (F : Fun K x qual st f fd)
    (h : ∀ (kV doc pm : Value) (an : Option Addr) (cdv ct : Value) (us : List Value), (permL is us).length = ps.length → bindArgs (PySem.W.fnOf x qual (defArgs st) (defBody st) (defScope st) .none kV doc pm an cdv ct) ⟨[], ks.zip us⟩ = pure (ps.zip (permL is us))) :
    ∀ us : List Value, (permL is us).length = ps.length → bindArgs fd ⟨[], ks.zip us⟩ = pure (ps.zip (permL is us)) := by
  obtain ⟨oc, od, kV, doc, pm, an, cdv, ct, osl, rfl, lk, hcd⟩ := F.ex
  exact h kV doc pm an cdv ct
/-! great powers -/
def CPowW (i j : Int) : Prop := 0 ≤ j ∧ (Builtin.Int.intBits i : Int) * j ≤ 2 ^ 27
theorem op_powW {X : Cx} : OpR X (binaryOp .Pow) (rI CPowW fun i j => .int (i ^ j.toNat)) := opI fun _ _ _ _ _ _ _ hc q => pow_int hc.1 hc.2 q
def cPowW (i j : Int) : Bool := decide (0 ≤ j) && decide ((Builtin.Int.intBits i : Int) * j ≤ 134217728)
abbrev oPowW : O2 Vl := oIC cPowW fun i j => .int (i ^ j.toNat)
theorem os_powW : OpS (rI CPowW fun i j => .int (i ^ j.toNat)) oPowW := ops_IC (fun i j h => by
  simp only [cPowW, Bool.and_eq_true, decide_eq_true_eq] at h
  exact ⟨h.1, by simpa using h.2⟩) fun i j _ => .int _
/-! unary minus -/
def fNeg (f : M Vl) : M Vl := bnd f fun x => match x with
  | .d (.int i) => ret (.d (.int (-i)))
  | _ => stuck
section
variable {mg : Str → Option Value} {W : WX} {ta : TE} {fa : M Vl}
theorem se_neg (h : SE mg W ta fa) : SE mg W (tUn (rU fun i => .int (-i)) ta) (fNeg fa) := fun B σ H Hi as s Q rp w => by
  refine h B σ H Hi as s _ rp (wp_mono (wp_bnd w) (fun x s1 w1 => ?_) fun _ _ z => z)
  intro H1 Hi1 as1 r1 e1 p1 v hv
  cases hv with
  | c q => exact w1.elim
  | d q =>
    cases q with
    | int i => exact ⟨i, rfl, w1 H1 Hi1 as1 r1 e1 p1 _ (.d (.int _))⟩
    | _ => exact w1.elim
end
/-! tuples joined -/
def oCatT : O2 Vl
  | .d (.tuple xs), .d (.tuple ys), _ => if xs.length + ys.length ≤ 1000000 then some (.d (.tuple (xs ++ ys))) else none
  | _, _, _ => none
theorem os_catT {K : PySem.W.Frag} : OpS (rCatA K) oCatT := fun B σ H Hi as s x y z u v Q rp hu hv e q => by
  cases hu with
  | c _ => cases e
  | d q1 =>
    cases hv with
    | c _ => cases q1 <;> cases e
    | d q2 =>
      cases q1 with
      | tup h1 d1 =>
        cases q2 with
        | tup h2 d2 =>
          simp only [oCatT] at e
          split at e
          · rename_i hn
            cases e
            refine ⟨_, _, _, _, rfl, rfl, .inl (.inl (rp.tup h1)), .inl (.inl (rp.tup h2)), by rw [d1.length, d2.length]; exact le_line hn, fun z => ?_, fun _ z => ?_, fun _ _ p hp => ?_⟩
            · subst z
              cases d1
              exact q.now rp (.d (.tup h2 d2))
            · subst z
              cases d2
              rw [List.append_nil] at q
              exact q.now rp (.d (.tup h1 d1))
            · exact q _ _ (rp.addI hp) (same_new (rp.fresh hp)) _ (.d (.tup upd_same ((d1.append d2).mono (same_new (rp.fresh hp)))))
          · cases e
        | _ => cases e
      | _ => cases q2 <;> cases e
abbrev oAdd : O2 Vl := orO oAddI (orO oCatD (orO oAddS oCatT))
theorem op_addG {X : Cx} {K : PySem.W.Frag} (hK : X.K = K := by rfl) : OpR X (binaryOp .Add) (fun x y H Q => (rI0 fun i j => .int (i + j)) x y H Q ∨ (rCat x y H Q ∨ ((∃ i j, x = .str i ∧ y = .str j ∧ i.length + j.length ≤ sizeLine ∧ Q (.str (i ++ j)) H) ∨ rCatA K x y H Q))) := op_add.or (op_cat.or (op_add_str.or (hK ▸ op_catA)))
theorem os_addG {K : PySem.W.Frag} : OpS (fun x y H Q => (rI0 fun i j => .int (i + j)) x y H Q ∨ (rCat x y H Q ∨ ((∃ i j, x = .str i ∧ y = .str j ∧ i.length + j.length ≤ sizeLine ∧ Q (.str (i ++ j)) H) ∨ rCatA K x y H Q))) oAdd := ops_or os_addI (ops_or os_cat (ops_or os_addS os_catT))
abbrev oSl : Vl → Option Int → Option Int → S → Option Vl := slOr oSlD (slOr oSlT oSlS)
theorem sl_G {X : Cx} : SlR X (fun x lo hi H Q => rSlL X.K x lo hi H Q ∨ (rSlA X.K x lo hi H Q ∨ rSlS x lo hi H Q)) := sl_list.or (sl_tupA.or sl_str)
theorem ss_G {K : PySem.W.Frag} : SlS (fun x lo hi H Q => rSlL K x lo hi H Q ∨ (rSlA K x lo hi H Q ∨ rSlS x lo hi H Q)) oSl := sls_or sl_lS (sls_or sl_tS sl_sS)
abbrev oLenG : OA Vl := orA oLen oLenS
theorem call_lenG {X : Cx} : CallR X (.builtin "len") (fun xs H Q => (∃ p ys, xs = [.ref p] ∧ (SqL X.K H p ys ∨ SqT X.K H p ys) ∧ Q (.int ys.length) H) ∨ ∃ z : Str, xs = [.str z] ∧ z.length ≤ sizeLine ∧ Q (.int z.length) H) := call_len_seq.or call_len_str
theorem ca_lenG {K : PySem.W.Frag} : CaS (fun xs H Q => (∃ p ys, xs = [.ref p] ∧ (SqL K H p ys ∨ SqT K H p ys) ∧ Q (.int ys.length) H) ∨ ∃ z : Str, xs = [.str z] ∧ z.length ≤ sizeLine ∧ Q (.int z.length) H) oLenG := cas_or ca_len ca_lenS
end DL

end DLsec_14

section DLsec_15
set_option maxRecDepth 100000
/-! the rules with the written part by name (a reading must not hang on a block's own context) -/
namespace DL
open PySem PySem.Spec PyProof.Rows L2
/-- texts are compared as they stand -/
def oEqS : O2 Vl
  | .d (.str a), .d (.str b), _ => some (.d (.bool (decide (a = b))))
  | _, _, _ => none
def oNeS : O2 Vl
  | .d (.str a), .d (.str b), _ => some (.d (.bool (!decide (a = b))))
  | _, _, _ => none
theorem dec_strV (a b : Str) : decide (V.str a = V.str b) = decide (a = b) := by
  by_cases h : a = b <;> simp [h]
theorem os_eqS : OpS rEq oEqS := fun B σ H Hi as s x y z u v Q rp hu hv e q => by
  cases hu with
  | c q => cases e
  | d q1 =>
    cases hv with
    | c q' => cases q1 <;> cases e
    | d q2 =>
      cases q1 <;> cases q2 <;> first | (cases e; done) | skip
      cases e
      exact ⟨rfl, by rw [dec_strV]; exact q.now rp (.d (.bl _))⟩
theorem os_neS : OpS rNe oNeS := fun B σ H Hi as s x y z u v Q rp hu hv e q => by
  cases hu with
  | c q => cases e
  | d q1 =>
    cases hv with
    | c q' => cases q1 <;> cases e
    | d q2 =>
      cases q1 <;> cases q2 <;> first | (cases e; done) | skip
      cases e
      exact ⟨rfl, by rw [dec_strV]; exact q.now rp (.d (.bl _))⟩
abbrev oEqG : O2 Vl := orO oEqS oEq
abbrev oNeG : O2 Vl := orO oNeS oNe
theorem os_eqG {K : PySem.W.Frag} : OpS (fun x y H Q => rEq x y H Q ∨ rEqD K x y H Q) oEqG := ops_or os_eqS os_eq
theorem os_neG {K : PySem.W.Frag} : OpS (fun x y H Q => rNe x y H Q ∨ rNeD K x y H Q) oNeG := ops_or os_neS os_ne
section
variable {X : Cx} {K : PySem.W.Frag}
theorem ixK (hK : X.K = K := by rfl) : IxR X (rIx K) := hK ▸ ix_seq
theorem slK (hK : X.K = K := by rfl) : SlR X (fun x lo hi H Q => rSlL K x lo hi H Q ∨ (rSlA K x lo hi H Q ∨ rSlS x lo hi H Q)) := hK ▸ sl_G
theorem slLK (hK : X.K = K := by rfl) : SlR X (rSlL K) := hK ▸ sl_list
theorem lenK (hK : X.K = K := by rfl) : CallR X (.builtin "len") (fun xs H Q => (∃ p ys, xs = [.ref p] ∧ (SqL K H p ys ∨ SqT K H p ys) ∧ Q (.int ys.length) H) ∨ ∃ z : Str, xs = [.str z] ∧ z.length ≤ sizeLine ∧ Q (.int z.length) H) := hK ▸ call_lenG
theorem eqK (hu : X.A.units + 64 < cLine) (hK : X.K = K := by rfl) : OpR X (compareOp .Eq) (fun x y H Q => rEq x y H Q ∨ rEqD K x y H Q) := op_eq.or (hK ▸ op_eqD hu)
theorem neK (hu : X.A.units + 64 < cLine) (hK : X.K = K := by rfl) : OpR X (compareOp .NotEq) (fun x y H Q => rNe x y H Q ∨ rNeD K x y H Q) := op_ne.or (hK ▸ op_neD hu)
theorem isiK (hK : X.K = K := by rfl) : CallR X (.builtin "isinstance") (rIsi K) := hK ▸ call_isi
theorem reprK {k : Nat} (hr : Room k X.A) (hgd : X.A.guards = some []) (hK : X.K = K := by rfl) : CallR X (.builtin "repr") (rRepr K) := hK ▸ call_repr hr hgd
theorem listK (hK : X.K = K := by rfl) : CallR X (.type "list") (fun xs H Q => ∃ p ys, xs = [.ref p] ∧ (SqL K H p ys ∨ SqT K H p ys) ∧ ∀ l, H l = none → Q (.ref l) (upd H l (.lst ys))) := hK ▸ call_list_of
theorem tupleK (hK : X.K = K := by rfl) : CallR X (.type "tuple") (fun xs H Q => ∃ p ys, xs = [.ref p] ∧ ((SqL K H p ys ∧ ∀ l, H l = none → Q (.ref l) (upd H l (.tup ys))) ∨ (SqT K H p ys ∧ Q (.ref p) H))) := hK ▸ call_tuple_of
theorem sortedK (hK : X.K = K := by rfl) : CallR X (.builtin "sorted") (rSortedI K) := hK ▸ cr_sortedI
theorem piLK {tg l : Expr} {tl : TE} (hl : PE X l tl) (hK : X.K = K := by rfl) : PI X tg l (iList K tl) := hK ▸ pi_list hl
theorem piTK {tg l : Expr} {tl : TE} (hl : PE X l tl) (hK : X.K = K := by rfl) : PI X tg l (iTup K tl) := hK ▸ pi_tup hl
theorem piEK {e : Expr} {ta : TA} {p pos tpos : Pos} {elts : List Expr} {kk : Nat} (hg : Gl X "enumerate") (hm : X.mg "enumerate" = none) (ha : PA X [e] ta) (hs : starEach [e] X.env = [(false, eval e X.env)] := by rfl) (hK : X.K = K := by rfl) :
    PI X (.Tuple elts kk tpos) (.Call (.Name "enumerate" p) [e] [] pos) (iEnum K ta) := hK ▸ pi_enum hg hm ha hs
theorem piZK {e e2 : Expr} {ta : TA} {p pos tpos : Pos} {elts : List Expr} {kk : Nat} (hg : Gl X "zip") (hm : X.mg "zip" = none) (ha : PA X [e, e2] ta) (q : starEach [e, e2] X.env = (false, eval e X.env) :: starEach [e2] X.env := by rfl)
    (q2 : (backTo pos (starEach [e2] X.env)).any (·.1) = false := by rfl) (hK : X.K = K := by rfl) : PI X (.Tuple elts kk tpos) (.Call (.Name "zip" p) [e, e2] [] pos) (iZip K ta) := hK ▸ pi_zip hg hm ha q q2
theorem pgTK {es : List Expr} {k : Nat} {t : TGs} {n : Nat} {pos : Pos} (hc : X.calm = true) (h : PGs X es t) (q : (assignEach es X.env).length = n := by rfl) (q2 : (assignEach es X.env).findIdx? (·.1) = none := by rfl) (hK : X.K = K := by rfl) : PG X (.Tuple es k pos) (gTup K n t) := by
  subst hK
  exact pg_tup hc h q q2
theorem ptK {a : Expr} {ta : TE} (ha : PE X a ta) (he : ∀ whole, isTrue a X.env whole = (do let v ← whole; standAt a.pos; holding [v] (truthy v))) (hK : X.K = K := by rfl) : PT X a (fun σ H Q => ta σ H fun x H' => ∃ k, TruV K x H' k ∧ Q k H') := hK ▸ pt_truth ha he
end
end DL

end DLsec_15

section DLsec_16
set_option maxRecDepth 100000
/-! the two shapes of a law's own def -/
namespace DL
open PySem PySem.Spec PyProof.Rows L2
def noHp : Hp := fun _ => none
def spLaw (K : PySem.W.Frag) : Sp := fun vs G Q _ => ∃ (a : Addr) (ns : List Int), vs = [.ref a] ∧ SqL K G a (ns.map V.int) ∧ ns.length ≤ 63 ∧ ∀ G', Q (.bl true) G'
theorem spLaw_len {K : PySem.W.Frag} {vs : List V} {G : Hp} {Q : VK} {E : XK} (h : spLaw K vs G Q E) : vs.length = 1 := by
  obtain ⟨a, ns, rfl, _⟩ := h
  rfl
abbrev tCellsOf (K : PySem.W.Frag) : TE := tOp rCat (tSl (rSlL K) (tVar 0) tNoPart (tPart (tC (.int 6)))) (tLst (tCons (tC (.int 0)) tNil))
/-- the cells: a new list of ints -/
theorem cells_of {K : PySem.W.Frag} {k : Int} {σ : St} {G : Hp} {a : Addr} {ns : List Int} {Q : VK} (h0 : σ[0]? = some (some (.ref a))) (hS : SqL K G a (ns.map V.int)) (hn : ns.length ≤ 63)
    (h : ∀ (cs : List Int) (r : Addr) (G' : Hp), cs.length ≤ 64 → G' r = some (.lst (cs.map V.int)) → Q (.ref r) G') :
    (tOp rCat (tSl (rSlL K) (tVar 0) tNoPart (tPart (tC (.int k)))) (tLst (tCons (tC (.int 0)) tNil))) σ G Q := by
  refine ⟨.ref a, h0, k, rfl, a, ns.map V.int, rfl, hS, fun p hp => ?_⟩
  refine ⟨by show 1 ≤ sizeLine; decide, fun q hq => ?_⟩
  have hqp : p ≠ q := by
    rintro rfl
    rw [upd_same] at hq; cases hq
  have e : cutV (ns.map V.int) none (some k) = ((ns.drop (HT.sIx ns.length 0 none)).take (HT.sIx ns.length ns.length (some k) - HT.sIx ns.length 0 none)).map V.int := by
    unfold cutV
    rw [List.length_map, List.map_take, List.map_drop]
  have hl : ((ns.drop (HT.sIx ns.length 0 none)).take (HT.sIx ns.length ns.length (some k) - HT.sIx ns.length 0 none)).length ≤ 63 := by
    rw [List.length_take, List.length_drop]
    omega
  refine ⟨p, q, _, _, rfl, rfl, by rw [upd_ne hqp, upd_same], upd_same, ?_, fun r hr => ?_⟩
  · rw [e, List.length_map]
    exact le_line (by simp; omega)
  · refine h (((ns.drop (HT.sIx ns.length 0 none)).take (HT.sIx ns.length ns.length (some k) - HT.sIx ns.length 0 none)) ++ [0]) r _ (by simp only [List.length_append, List.length_cons, List.length_nil]; omega) ?_
    rw [upd_same, e, List.map_append]
    rfl
/-- a state that knows one cell's name alone -/
theorem rep_one {σ : St} {H : Hp} {m i : Nat} {p : Addr} {vs : List V} {st : List D} (hm : σ.length = m) (hi : i < m) (hσ : σ[i]? = some (some (.ref p))) (hp : H p = some (.lst vs)) (hd : DqA noHp vs st) :
    Rep (mg := mg) ⟨H, noHp, [p], [], []⟩ σ H noHp [p] ⟨(List.replicate m none).set i (some (.c 0)), [.l st]⟩ := by
  refine ⟨fun b o e => (by cases e), fun b hb => (by cases hb), fun b o e n => e, fun b o e => (by cases e), fun j a c e1 e2 _ => .inl ?_, by simp [hm], fun j x h => ?_, rfl, fun j a c e1 e2 => ?_, fun j k a c c' e1 e2 e3 e4 _ _ => ?_⟩
  · exact List.mem_of_getElem? e1
  · by_cases e : j = i
    · subst e
      rw [List.getElem?_set_self (by simpa using hi)] at h
      cases h
      exact ⟨_, hσ, .c rfl⟩
    · rw [List.getElem?_set_ne (Ne.symm e), List.getElem?_replicate] at h
      split at h <;> cases h
  · cases j with
    | zero => cases e1; cases e2; exact ⟨rfl, vs, hp, hd⟩
    | succ j => simp at e1
  · have h1 := lt_of_get e1
    have h2 := lt_of_get e2
    simp at h1 h2
    omega
theorem rep_data {mg : Str → Option Value} {σ : St} {H : Hp} {m i : Nat} {c : Int} (hm : σ.length = m) (hi : i < m) (hσ : σ[i]? = some (some (.int c))) : Rep (mg := mg) ⟨H, noHp, [], [], []⟩ σ H noHp [] ⟨(List.replicate m none).set i (some (.d (.int c))), []⟩ := by
  refine ⟨fun b o e => (by cases e), fun b hb => (by cases hb), fun b o e n => e, fun b o e => (by cases e), fun j a c e1 e2 _ => (by simp at e1), by simp [hm], fun j x h => ?_, rfl, fun j a c e1 e2 => (by simp at e1), fun j k a c c' e1 => by simp at e1⟩
  by_cases e : j = i
  · subst e
    rw [List.getElem?_set_self (by simpa using hi)] at h
    cases h
    exact ⟨_, hσ, .d (.int _)⟩
  · rw [List.getElem?_set_ne (Ne.symm e), List.getElem?_replicate] at h
    split at h <;> cases h
theorem hl_nil {H : Hp} {b : Addr} {o : HO} (h : HL [] H b o) : H b = some o := HL.of_notin h (by simp)
/-- for cell in script[:k] + [0]: body; return True -/
theorem law_B {K : PySem.W.Frag} {mg : Str → Option Value} {E : XK} {N : List Str} {ic : Nat} {k : Int} {tb : TS} {fb : M Fl} (hb : SS mg (fun cls d _ H => E cls d H) tb fb) (hi : ic < N.length)
    (step : ∀ c : Int, ∃ s', fb ⟨(List.replicate N.length none).set ic (some (.d (.int c))), []⟩ = .ok .nx s' ∧ s'.sl.length = N.length) {vs : List V} {G : Hp} {Q : VK} (h : spLaw K vs G Q E) :
    (tSeq (tFor (fun σ H R => iList K (tOp rCat (tSl (rSlL K) (tVar 0) tNoPart (tPart (tC (.int k)))) (tLst (tCons (tC (.int 0)) tNil))) σ H R ∨ iTup K (tOp rCat (tSl (rSlL K) (tVar 0) tNoPart (tPart (tC (.int k)))) (tLst (tCons (tC (.int 0)) tNil))) σ H R) (gName ic) tb)
      (tRet (tC (.bl true)))) { nx := fun _ G' => Q .non G', rt := Q } (L2.start N vs) G := by
  obtain ⟨a, ns, rfl, hS, hn, q⟩ := h
  refine .inl (cells_of rfl hS hn fun cs r G1 hcl hr => ⟨r, rfl, ⟨_, .inl (.inl hr)⟩, ?_⟩)
  refine for_list (K := K) (a := r) (xs := cs.map V.int) (fun i σ H => σ.length = N.length ∧ H r = some (.lst (cs.map V.int))) ⟨by
    have h1 : 0 < N.length := by omega
    simp [L2.start]; omega, hr⟩ (fun i σ H _ h => .inl (.inl h.2)) (fun i x σ H hx h => ?_) fun σ H h => q _
  obtain ⟨hm, hr'⟩ := h
  rw [List.getElem?_map] at hx
  cases hc : cs[i]? with
  | none => rw [hc] at hx; cases hx
  | some c =>
    rw [hc] at hx
    cases hx
    obtain ⟨s', e1, e2⟩ := step c
    refine hb _ _ H noHp [] _ _ (rep_data (by simp [hm]) hi (by rw [List.getElem?_set_self (by omega)])) ?_
    rw [e1]
    intro σ' H' Hi' as' r' _ _
    exact ⟨by rw [r'.len, e2], hl_nil (r'.fr r _ hr' (by rintro ⟨⟩))⟩
/-- for draws in [g(cell) for cell in script[:k] + [0]]: body; return True -/
theorem law_A {K : PySem.W.Frag} {mg : Str → Option Value} {E : XK} {N : List Str} {ic id : Nat} {k : Int} {tb : TS} {fb : M Fl} {gD : FD} {init : Int → List D} {inv : List D → Prop} (hb : SS mg (fun cls d _ H => E cls d H) tb fb) (hi : id < N.length) (hic : ic < N.length)
    (hD : ∀ c : Int, gD [.d (.int c)] [] = .ok (.c 0) [.l (init c)]) (hf : ∀ c, (init c).all flat = true) (h0 : ∀ c, inv (init c))
    (step : ∀ st, inv st → ∃ s', fb ⟨(List.replicate N.length none).set id (some (.c 0)), [.l st]⟩ = .ok .nx s' ∧ s'.sl.length = N.length) {vs : List V} {G : Hp} {Q : VK} (h : spLaw K vs G Q E) :
    (tSeq (tFor (fun σ H R => iList K (tLc (fun σ H R => iList K (tOp rCat (tSl (rSlL K) (tVar 0) tNoPart (tPart (tC (.int k)))) (tLst (tCons (tC (.int 0)) tNil))) σ H R ∨ iTup K (tOp rCat (tSl (rSlL K) (tVar 0) tNoPart (tPart (tC (.int k)))) (tLst (tCons (tC (.int 0)) tNil))) σ H R)
        (gName ic) tYes (tCallSD (FSp mg gD) [] (WE WF) (tCons (tVar ic) tNil)) [ic]) σ H R ∨
      iTup K (tLc (fun σ H R => iList K (tOp rCat (tSl (rSlL K) (tVar 0) tNoPart (tPart (tC (.int k)))) (tLst (tCons (tC (.int 0)) tNil))) σ H R ∨ iTup K (tOp rCat (tSl (rSlL K) (tVar 0) tNoPart (tPart (tC (.int k)))) (tLst (tCons (tC (.int 0)) tNil))) σ H R)
        (gName ic) tYes (tCallSD (FSp mg gD) [] (WE WF) (tCons (tVar ic) tNil)) [ic]) σ H R) (gName id) tb)
      (tRet (tC (.bl true)))) { nx := fun _ G' => Q .non G', rt := Q } (L2.start N vs) G := by
  obtain ⟨a, ns, rfl, hS, hn, q⟩ := h
  have hm0 : (L2.start N [.ref a]).length = N.length := by simp [L2.start]; omega
  refine .inl (.inl (cells_of rfl hS hn fun cs r G1 hcl hr => ⟨r, rfl, ⟨_, .inl (.inl hr)⟩, fun D hDn => ?_⟩))
  -- the lists that are made
  let Made : List Addr → Hp → Prop := fun ps H => ps.Nodup ∧ ∀ (j : Nat) (p : Addr), ps[j]? = some p → ∃ (c : Int) (vs : List V), H p = some (.lst vs) ∧ DqA noHp vs (init c)
  refine lc_list (K := K) (a := r) (xs := cs.map V.int) (fun i H => ∃ ps : List Addr, ps.length = i ∧ H r = some (.lst (cs.map V.int)) ∧ H D = some (.lst (ps.map V.ref)) ∧ r ≠ D ∧ D ∉ ps ∧ Made ps H) ⟨[], rfl, ?_, upd_same, ne_of_none hr hDn, by simp, by simp, fun j p e => by simp at e⟩
    (fun i H _ ⟨_, _, h, _⟩ => .inl (.inl h)) (fun i x H hx ⟨ps, hpl, hrH, hDH, hrD, hDp, nd, hps⟩ => ?_) fun H ⟨ps, hpl, hrH, hDH, hrD, hDp, nd, hps⟩ => ?_
  · rw [upd_ne (ne_of_none hr hDn)]; exact hr
  · -- a turn of the comprehension
    rw [List.getElem?_map] at hx
    cases hc : cs[i]? with
    | none => rw [hc] at hx; cases hx
    | some c =>
      rw [hc] at hx
      cases hx
      refine ⟨?_, .int c, ?_, ?_⟩
      · show L2.wipe ((L2.wipe (L2.start N [.ref a]) [ic]).set ic (some (.int c))) [ic] = L2.wipe (L2.start N [.ref a]) [ic]
        simp [L2.wipe]
      · show ((L2.wipe (L2.start N [.ref a]) [ic]).set ic (some (.int c)))[ic]? = some (some (.int c))
        rw [List.getElem?_set_self (by rw [L2.wipe_length, hm0]; exact hic)]
      · refine ⟨noHp, [], [.d (.int c)], [], [], ?_, ?_⟩
        · refine ⟨fun b o e => (by cases e), fun b hb => (by cases hb), fun b o e n => e, fun b o e => (by cases e), fun j a c e1 e2 _ => (by simp at e1), rfl, fun j x h => ?_, rfl, fun j a c e1 e2 => (by simp at e1), fun j k a c c' e1 => by simp at e1⟩
          cases j with
          | zero => cases h; exact ⟨_, rfl, .d (.int _)⟩
          | succ j => simp at h
        · rw [hD c]
          intro v H' Hi' as' r' _ _ hv
          cases hv with
          | @c p _ hp =>
            have keep : ∀ b o, H b = some o → H' b = some o := fun b o e => hl_nil (r'.fr b o e (by rintro ⟨⟩))
            obtain ⟨_, vs, e1, e2⟩ := r'.cel 0 p _ hp rfl
            have hnew : H p = none := by
              rcases r'.new 0 p _ hp rfl rfl with z | z
              · cases z
              · exact z
            refine ⟨ps.map V.ref, keep D _ hDH, ?_, ps ++ [p], by simp [hpl], ?_, ?_, hrD, ?_, ?_, fun j b e => ?_⟩
            · have : i < cs.length := lt_of_get hc
              rw [List.length_map, hpl]
              exact lt_line (by omega)
            · rw [upd_ne hrD]; exact keep r _ hrH
            · rw [upd_same, List.map_append]; rfl
            · simp only [List.mem_append, List.mem_singleton, not_or]
              exact ⟨hDp, ne_of_none hDH hnew⟩
            · rw [List.nodup_append]
              refine ⟨nd, by simp, fun x hx y hy => ?_⟩
              simp at hy
              subst hy
              obtain ⟨j, hj⟩ := List.getElem?_of_mem hx
              obtain ⟨_, _, e, _⟩ := hps j x hj
              exact ne_of_none e hnew
            · by_cases hj : j < ps.length
              · rw [List.getElem?_append_left hj] at e
                obtain ⟨c', ws, f1, f2⟩ := hps j b e
                refine ⟨c', ws, ?_, f2⟩
                rw [upd_ne (fun z => hDp (by rw [← z]; exact List.mem_of_getElem? e))]
                exact keep b _ f1
              · rw [List.getElem?_append_right (by omega)] at e
                have hb : b = p := by
                  cases hz : j - ps.length with
                  | zero => rw [hz] at e; simpa using e.symm
                  | succ n => rw [hz] at e; simp at e
                subst hb
                refine ⟨c, vs, ?_, e2.flat (hf c)⟩
                rw [upd_ne (ne_of_none hDH hnew).symm]
                exact e1
  · -- the loop over the lists
    refine ⟨D, rfl, ⟨_, .inl (.inl hDH)⟩, ?_⟩
    refine for_list (K := K) (a := D) (xs := ps.map V.ref) (fun i σ H => σ.length = N.length ∧ H D = some (.lst (ps.map V.ref)) ∧ ∀ (j : Nat) (p : Addr), i ≤ j → ps[j]? = some p → ∃ (c : Int) (vs : List V), H p = some (.lst vs) ∧ DqA noHp vs (init c)) ⟨hm0, hDH, fun j p _ e => hps j p e⟩
      (fun i σ H _ h => .inl (.inl h.2.1)) (fun i x σ H hx ⟨hm, hDH', hps'⟩ => ?_) fun σ H h => q _
    rw [List.getElem?_map] at hx
    cases hp : ps[i]? with
    | none => rw [hp] at hx; cases hx
    | some p =>
      rw [hp] at hx
      cases hx
      obtain ⟨c, ws, e1, e2⟩ := hps' i p (Nat.le_refl _) hp
      obtain ⟨s', f1, f2⟩ := step (init c) (h0 c)
      refine hb _ _ H noHp [p] _ _ (rep_one (by simp [hm]) hi (by rw [List.getElem?_set_self (by omega)]) e1 e2) ?_
      rw [f1]
      intro σ' H' Hi' as' r' _ _
      have keep : ∀ b o, H b = some o → b ≠ p → H' b = some o := fun b o e n => hl_nil (r'.fr b o e (by simpa using n))
      refine ⟨by rw [r'.len, f2], keep D _ hDH' fun z => hDp (by rw [z]; exact List.mem_of_getElem? hp), fun j b hj hb => ?_⟩
      obtain ⟨c', ws', g1, g2⟩ := hps' j b (by omega) hb
      refine ⟨c', ws', keep b _ g1 fun z => ?_, g2⟩
      subst z
      have := nodup_inj nd hb hp
      omega
end DL

end DLsec_16

section DLsec_17
set_option maxRecDepth 100000
/-! plain facts about data and the state functions -/
namespace DL
open PySem PySem.Spec PyProof.Rows L2
abbrev il (ns : List Int) : D := .list (ns.map PyData.int)
theorem ofs_len (s : String) : (Str.ofString s).length = s.length := PySem.ofString_length s
theorem textFrom_le : ∀ (ts : List Str) (k : Nat) (acc : Str), (textFrom k acc ts).length ≤ acc.length + piled ts
  | [], k, acc => by simp [textFrom, piled]
  | t :: ts, k, acc => by
    unfold textFrom
    refine Nat.le_trans (textFrom_le ts (k + 1) _) ?_
    rw [piled_cons, Str.length_append, Str.length_append, ofs_len]
    have : (if k > 0 then ", " else "" : String).length ≤ 2 := by split <;> decide
    omega
theorem listText_le (ts : List Str) : (listText ts).length ≤ 2 + piled ts := by
  unfold listText
  rw [Str.length_append]
  have := textFrom_le ts 0 (Str.ofString "[")
  have h1 : (Str.ofString "[").length = 1 := by rw [ofs_len]; rfl
  have h2 : (Str.ofString "]").length = 1 := by rw [ofs_len]; rfl
  omega
theorem tupleText_le (ts : List Str) : (tupleText ts).length ≤ 3 + piled ts := by
  unfold tupleText
  rw [Str.length_append, Str.length_append, ofs_len, ofs_len]
  have h1 : ("(" : String).length = 1 := rfl
  have h2 : (if (ts.length == 1) = true then ",)" else ")" : String).length ≤ 2 := by split <;> decide
  cases ts with
  | nil =>
    have : (Str.join (Str.ofString ", ") []).length = 0 := rfl
    rw [this]
    simp [piled]
    decide
  | cons t ts =>
    have := join_length_add (t :: ts) (by simp)
    omega
/-- no dict, to be compared and shown, of depth at most k, shown in at most w signs -/
structure Sm (k w : Nat) (d : D) : Prop where
  nd : noD d = true
  lay : d.canLay0 = true
  dep : d.depth ≤ k
  sho : d.showable = true
  len : d.shown.length ≤ w
theorem hasDict_of : ∀ d : D, d.canLay0 = true → d.hasDict = false := PyData.hasDict_of_canLay
theorem Sm.mono {k k' w w' : Nat} {d : D} (h : Sm k w d) (hk : k ≤ k') (hw : w ≤ w') : Sm k' w' d := ⟨h.nd, h.lay, Nat.le_trans h.dep hk, h.sho, Nat.le_trans h.len hw⟩
theorem Sm.int {i : Int} (h : i.natAbs < 10 ^ 40) : Sm 0 42 (.int i) := by
  refine ⟨rfl, rfl, Nat.le_refl _, ?_, ?_⟩
  · simp only [PyData.showable, decide_eq_true_eq]
    have h2 : i.natAbs < 2 ^ 1920 := Nat.lt_of_lt_of_le h (by decide)
    by_cases e : i.natAbs = 0
    · rw [e]; decide
    · exact (Nat.log2_lt e).mpr h2
  · simp only [PyData.shown]
    rw [ofs_len]
    exact Nat.le_trans (int_text_length_le10 (by decide) h) (by decide)
theorem Sm.none : Sm 0 42 .none := ⟨rfl, rfl, Nat.le_refl _, rfl, by simp only [PyData.shown]; rw [ofs_len]; decide⟩
theorem Sm.bool (b : Bool) : Sm 0 42 (.bool b) := ⟨rfl, rfl, Nat.le_refl _, rfl, by simp only [PyData.shown]; cases b <;> (simp only [if_true, Bool.false_eq_true, if_false]; rw [ofs_len]; decide)⟩
theorem noDs_of : ∀ {xs : List D}, (∀ x ∈ xs, noD x = true) → noDs xs = true
  | [], _ => rfl
  | x :: xs, h => by simp [noDs, h x, noDs_of (xs := xs) fun y hy => h y (List.mem_cons_of_mem _ hy)]
theorem lay_of : ∀ {xs : List D}, (∀ x ∈ xs, x.canLay0 = true) → PyData.canLayAll0 xs = true
  | [], _ => by simp [PyData.canLayAll0]
  | x :: xs, h => by simp [PyData.canLayAll0, h x, lay_of (xs := xs) fun y hy => h y (List.mem_cons_of_mem _ hy)]
theorem dep_of {k : Nat} : ∀ {xs : List D}, (∀ x ∈ xs, x.depth ≤ k) → PyData.depthAll xs ≤ k
  | [], _ => by simp [PyData.depthAll]
  | x :: xs, h => by
    have h1 := h x List.mem_cons_self
    have h2 := dep_of (xs := xs) fun y hy => h y (List.mem_cons_of_mem _ hy)
    simp only [PyData.depthAll]
    omega
theorem sho_of : ∀ {xs : List D}, (∀ x ∈ xs, x.showable = true) → PyData.showableAll xs = true
  | [], _ => by simp [PyData.showableAll]
  | x :: xs, h => by simp [PyData.showableAll, h x, sho_of (xs := xs) fun y hy => h y (List.mem_cons_of_mem _ hy)]
theorem pil_of {w : Nat} : ∀ {xs : List D}, (∀ x ∈ xs, x.shown.length ≤ w) → piled (PyData.shownAll xs) ≤ xs.length * (w + 2)
  | [], _ => by simp [PyData.shownAll, piled]
  | x :: xs, h => by
    have h1 := h x List.mem_cons_self
    have h2 := pil_of (xs := xs) fun y hy => h y (List.mem_cons_of_mem _ hy)
    simp only [PyData.shownAll, piled_cons, List.length_cons, Nat.add_mul, Nat.one_mul]
    omega
theorem Sm.list {k w n : Nat} {xs : List D} (h : ∀ x ∈ xs, Sm k w x) (hn : xs.length ≤ n) : Sm (k + 1) (3 + n * (w + 2)) (.list xs) := by
  refine ⟨noDs_of fun x hx => (h x hx).nd, lay_of fun x hx => (h x hx).lay, ?_, sho_of fun x hx => (h x hx).sho, ?_⟩
  · simp only [PyData.depth]
    have := dep_of fun x hx => (h x hx).dep
    omega
  · simp only [PyData.shown]
    refine Nat.le_trans (listText_le _) ?_
    have h1 := pil_of fun x hx => (h x hx).len
    have h2 := Nat.mul_le_mul_right (w + 2) hn
    omega
theorem Sm.tuple {k w n : Nat} {xs : List D} (h : ∀ x ∈ xs, Sm k w x) (hn : xs.length ≤ n) : Sm (k + 1) (3 + n * (w + 2)) (.tuple xs) := by
  refine ⟨noDs_of fun x hx => (h x hx).nd, lay_of fun x hx => (h x hx).lay, ?_, sho_of fun x hx => (h x hx).sho, ?_⟩
  · simp only [PyData.depth]
    have := dep_of fun x hx => (h x hx).dep
    omega
  · simp only [PyData.shown]
    refine Nat.le_trans (tupleText_le _) ?_
    have h1 := pil_of fun x hx => (h x hx).len
    have h2 := Nat.mul_le_mul_right (w + 2) hn
    omega
theorem Sm.eqOk {k w : Nat} {d : D} (h : Sm k w d) (hk : k ≤ 64 := by decide) : okE d = true := by
  simp only [okE, SeqAt.shaped, Bool.and_eq_true, decide_eq_true_eq]
  exact ⟨h.nd, h.lay, Nat.le_trans h.dep hk⟩
theorem Sm.reprOk {k w : Nat} {d : D} (h : Sm k w d) (hk : k ≤ 30 := by decide) (hw : w ≤ 1000000 := by decide) : okR d = true := by
  simp only [okR, Bool.and_eq_true, decide_eq_true_eq, Bool.not_eq_true']
  exact ⟨⟨⟨⟨h.nd, h.sho⟩, hasDict_of d h.lay⟩, Nat.le_trans h.dep hk⟩, Nat.le_trans h.len hw⟩
/-- equality of int lists; without bounds -/
theorem okE_il (ns : List Int) : okE (il ns) = true := by
  simp only [okE, SeqAt.shaped, Bool.and_eq_true, decide_eq_true_eq]
  refine ⟨noDs_of fun x hx => ?_, lay_of fun x hx => ?_, ?_⟩
  · obtain ⟨i, _, rfl⟩ := List.mem_map.mp hx; rfl
  · obtain ⟨i, _, rfl⟩ := List.mem_map.mp hx; rfl
  · simp only [PyData.depth]
    have := dep_of (k := 0) (xs := ns.map PyData.int) fun x hx => by obtain ⟨i, _, rfl⟩ := List.mem_map.mp hx; exact Nat.le_refl _
    omega
theorem okE_nil : okE (.list []) = true := okE_il []
theorem eqvAll_ints : ∀ (xs ys : List Int), PyData.eqvAll (xs.map .int) (ys.map .int) = decide (xs = ys)
  | [], [] => by simp [PyData.eqvAll]
  | [], y :: ys => by simp [PyData.eqvAll]
  | x :: xs, [] => by simp [PyData.eqvAll]
  | x :: xs, y :: ys => by
    simp only [List.map_cons, PyData.eqvAll, PyData.eqv, eqvAll_ints xs ys]
    by_cases h : x = y <;> by_cases h2 : xs = ys <;> simp [h, h2]
theorem eqv_il (xs ys : List Int) : PyData.eqv (il xs) (il ys) = decide (xs = ys) := by simp only [il, PyData.eqv, eqvAll_ints]
theorem eqv_il_nil (xs : List Int) : PyData.eqv (il xs) (.list []) = decide (xs = []) := eqv_il xs []
theorem okE_int (i : Int) : okE (.int i) = true := rfl
/-- ints within bounds -/
def Bdd (b : Nat) (ns : List Int) : Prop := ∀ x ∈ ns, x.natAbs ≤ b
theorem Sm.il {ns : List Int} {n : Nat} (h : Bdd (10 ^ 30) ns) (hn : ns.length ≤ n) : Sm 1 (3 + n * 44) (il ns) := Sm.list (w := 42) (fun x hx => by
  obtain ⟨i, hi, rfl⟩ := List.mem_map.mp hx
  exact Sm.int (Nat.lt_of_le_of_lt (h i hi) (by decide))) (by simpa using hn)

/-! ### comprehensions -/
theorem lcL_fm {k : Vl → M Unit} {t : M Bool} {e : M Vl} {sl : List (Option Vl)} {ce : List Ce} {f : D → Option D} : ∀ {xs : List D}, (∀ x ∈ xs, ∃ s', lcT k t e x ⟨sl, ce⟩ = .ok (f x) s' ∧ cutC ce.length s'.ce = ce) → lcL k t e xs ⟨sl, ce⟩ = .ok (xs.filterMap f) ⟨sl, ce⟩
  | [], _ => rfl
  | x :: xs, h => by
    obtain ⟨s', e1, e2⟩ := h x List.mem_cons_self
    simp only [lcL, e1, e2]
    rw [lcL_fm fun y hy => h y (List.mem_cons_of_mem _ hy)]
    simp only [List.filterMap_cons]
    cases f x <;> simp
theorem lcL_all {k : Vl → M Unit} {e : M Vl} {sl : List (Option Vl)} {P : D → Prop} {I : Nat → List Ce → Prop} (step : ∀ x n ce, I (n + 1) ce → ∃ z s', lcT k fYes e x ⟨sl, ce⟩ = .ok (some z) s' ∧ P z ∧ I n (cutC ce.length s'.ce)) :
    ∀ (xs : List D) (n : Nat) (ce : List Ce), I (n + xs.length) ce → ∃ ys ce', lcL k fYes e xs ⟨sl, ce⟩ = .ok ys ⟨sl, ce'⟩ ∧ ys.length = xs.length ∧ (∀ y ∈ ys, P y) ∧ I n ce'
  | [], n, ce, h => ⟨[], ce, rfl, rfl, by simp, h⟩
  | x :: xs, n, ce, h => by
    obtain ⟨z, s', e1, e2, e3⟩ := step x (n + xs.length) ce (by simpa [Nat.add_assoc] using h)
    obtain ⟨ys, ce', f1, f2, f3, f4⟩ := lcL_all step xs n _ e3
    refine ⟨z :: ys, ce', ?_, by simp [f2], fun y hy => ?_, f4⟩
    · simp only [lcL, e1, f1]
      rfl
    · rcases List.mem_cons.mp hy with rfl | hy
      · exact e2
      · exact f3 y hy
theorem forL_cons {k : Vl → M Unit} {b : M Fl} {x : D} {xs : List D} {s s' : S} (h : bnd (k (.d x)) (fun _ => b) s = .ok .nx s') : forL k b (x :: xs) s = forL k b xs s' := by simp only [forL, h]
/-- a loop that goes through, by an invariant -/
theorem forL_inv {k : Vl → M Unit} {b : M Fl} {xs : List D} (I : Nat → S → Prop) (step : ∀ i x s, xs[i]? = some x → I i s → ∃ s', bnd (k (.d x)) (fun _ => b) s = .ok .nx s' ∧ I (i + 1) s') :
    ∀ s, I 0 s → ∃ s', forL k b xs s = .ok .nx s' ∧ I xs.length s' := by
  have gen : ∀ (n i : Nat) (s : S), n + i = xs.length → I i s → ∃ s', forL k b (xs.drop i) s = .ok .nx s' ∧ I xs.length s' := fun n => by
    induction n with
    | zero =>
      intro i s hi hI
      have : i = xs.length := by omega
      subst this
      rw [List.drop_length]
      exact ⟨s, rfl, hI⟩
    | succ n ih =>
      intro i s hi hI
      have hlt : i < xs.length := by omega
      rw [List.drop_eq_getElem_cons hlt]
      obtain ⟨s', e1, e2⟩ := step i _ s (List.getElem?_eq_getElem hlt) hI
      rw [forL_cons e1]
      exact ih (i + 1) s' (by omega) e2
  intro s h
  have := gen xs.length 0 s (by omega) h
  rwa [List.drop_zero] at this
/-- a while, by a measure: it ends, and the invariant holds with the test false -/
theorem while_inv {c : M Bool} {b : M Fl} (I : S → Prop) (J : S → Prop) (μ : S → Nat) (step : ∀ s, I s → (∃ s', c s = .ok false s' ∧ J s') ∨ ∃ s1 s2, c s = .ok true s1 ∧ (b s1 = .ok .nx s2 ∨ b s1 = .ok .ct s2) ∧ I s2 ∧ μ s2 < μ s) :
    ∀ s, I s → ∃ s', fWhile c b s = .ok .nx s' ∧ J s' := by
  have gen : ∀ (n : Nat) (s : S), μ s ≤ n → I s → ∃ s', fWhile c b s = .ok .nx s' ∧ J s' := fun n => by
    induction n with
    | zero =>
      intro s hm hI
      rcases step s hI with ⟨s', e, j⟩ | ⟨s1, s2, e1, e2, i2, lt⟩
      · exact ⟨s', fWhile_eq (by simp [bnd, e]; rfl) (by intro z; cases z), j⟩
      · omega
    | succ n ih =>
      intro s hm hI
      rcases step s hI with ⟨s', e, j⟩ | ⟨s1, s2, e1, e2, i2, lt⟩
      · exact ⟨s', fWhile_eq (by simp [bnd, e]; rfl) (by intro z; cases z), j⟩
      · obtain ⟨s', f1, f2⟩ := ih s2 (by omega) i2
        refine ⟨s', fWhile_eq ?_ (by intro z; cases z), f2⟩
        rcases e2 with e2 | e2 <;> simp [bnd, e1, e2, f1]
  exact fun s => gen (μ s) s (Nat.le_refl _)
theorem intBits10 : cPowW 10 6 = true := by decide +kernel
end DL

end DLsec_17

section DLsec_18
/-! the state functions at a state: for simp, so that nothing is unfolded where no state stands -/
namespace DL
open PySem PySem.Spec PyProof.Rows L2
section
variable {α β : Type} {s : S} {f g fa fb fo fi fl fh fe : M Vl} {c d : M Bool} {ff gg : M Fl} {fA : M (List Vl)} {fL gL : M (List D)}
theorem x_bnd (m : M α) (k : α → M β) (s : S) : bnd m k s = match m s with
  | .ok a s' => k a s'
  | .ex e s' => .ex e s'
  | .no => .no := id rfl
theorem x_ret (a : α) (s : S) : DL.ret a s = .ok a s := id rfl
theorem x_stuck (s : S) : (stuck : M α) s = .no := id rfl
theorem x_gets (o : S → Option α) (s : S) : gets o s = match o s with
  | some a => .ok a s
  | none => .no := id rfl
theorem x_fVar (i : Nat) (s : S) : fVar i s = match s.sl[i]? with
  | some (some x) => .ok x s
  | _ => .no := id rfl
theorem x_fC (x : D) (s : S) : fC x s = .ok (.d x) s := id rfl
theorem x_fOp (o : O2 α) (s : S) : fOp o fa fb s = bnd fa (fun x => bnd fb fun y => gets (o x y)) s := id rfl
theorem x_fNil (s : S) : fNil s = .ok [] s := id rfl
theorem x_fCons (s : S) : fCons fa fA s = bnd fa (fun x => bnd fA fun xs => DL.ret (x :: xs)) s := id rfl
theorem x_fCall (o : OA α) (s : S) : fCall o fA s = bnd fA (fun xs => gets (o xs)) s := id rfl
theorem x_fDat (s : S) : fDat fL s = bnd fL (fun xs => DL.ret (.d (.list xs))) s := id rfl
theorem x_fCell (s : S) : fCell fL s = bnd fL (fun xs s => .ok (.c s.ce.length) { s with ce := s.ce ++ [.l xs] }) s := id rfl
theorem x_fLst (s : S) : fLst fA s = bnd fA (fun xs => if xs.length ≤ 1000000 then frzs xs else stuck) s := id rfl
theorem x_fTup (s : S) : fTup fA s = bnd fA (fun xs => if xs.length ≤ 1000000 then bnd (frzs xs) fun ys => DL.ret (.d (.tuple ys)) else stuck) s := id rfl
theorem x_fTest (s : S) : fTest f s = bnd f (fun x => match x with
  | .d (.bool b) => DL.ret b
  | _ => stuck) s := id rfl
theorem x_fTru (s : S) : fTru f s = bnd f (fun x => gets fun s => tru s x) s := id rfl
theorem x_fAnd (s : S) : fAnd c d s = bnd c (fun b => if b = true then d else DL.ret false) s := id rfl
theorem x_fOr (s : S) : fOr c d s = bnd c (fun b => if b = true then DL.ret true else d) s := id rfl
theorem x_fNot (s : S) : fNot c s = bnd c (fun b => DL.ret (!b)) s := id rfl
theorem x_fIf (p q : M α) (s : S) : fIf c p q s = bnd c (fun b => if b = true then p else q) s := id rfl
theorem x_asB (x : Vl) (s : S) : asB x s = match x with
  | .d (.bool b) => .ok b s
  | _ => .no := by
  cases x with
  | c j => rfl
  | d y => cases y <;> rfl
theorem x_fAndV (s : S) : fAndV f g s = bnd f (fun x => bnd (asB x) fun b => if b = true then g else DL.ret (.d (.bool false))) s := id rfl
theorem x_fOrV (s : S) : fOrV f g s = bnd f (fun x => bnd (asB x) fun b => if b = true then DL.ret (.d (.bool true)) else g) s := id rfl
theorem x_fNotV (s : S) : fNotV f s = bnd f (fun x => bnd (asB x) fun b => DL.ret (.d (.bool (!b)))) s := id rfl
theorem x_fIsN (s : S) : fIsN f s = bnd f (fun x => DL.ret (.d (.bool (isNon x)))) s := id rfl
theorem x_fNotN (s : S) : fNotN f s = bnd f (fun x => DL.ret (.d (.bool (!isNon x)))) s := id rfl
theorem x_frz (x : Vl) (s : S) : frz x s = match x with
  | .d y => .ok y s
  | .c j => match s.ce[j]? with
    | some (.l xs) => .ok (.list xs) { s with ce := s.ce.set j (.f xs) }
    | some (.f xs) => .ok (.list xs) s
    | some (.v xs) => bnd (frzs0 xs) (fun ys s' => .ok (.list ys) { s' with ce := s'.ce.set j (.f ys) }) s
    | some (.t xs) => bnd (frzs0 xs) (fun ys s' => .ok (.tuple ys) s') s
    | _ => .no := id rfl
theorem x_frzs0 (s : S) : frzs [] s = .ok [] s := id rfl
theorem x_frzs1 (x : Vl) (xs : List Vl) (s : S) : frzs (x :: xs) s = bnd (frz x) (fun y => bnd (frzs xs) fun ys => DL.ret (y :: ys)) s := id rfl
theorem x_fFrz (s : S) : fFrz f s = match bnd f frz s with
  | .ok y s2 => .ok (.d y) ⟨s.sl, cutC s.ce.length s2.ce⟩
  | .ex e s2 => .ex e s2
  | .no => .no := id rfl
theorem x_fSeq (s : S) : fSeq ff gg s = match ff s with
  | .ok .nx s' => gg s'
  | r => r := id rfl
theorem x_fNext (s : S) : fNext s = .ok .nx s := id rfl
theorem x_fExpr (s : S) : fExpr f s = bnd f (fun _ => DL.ret .nx) s := id rfl
theorem x_fRet (s : S) : fRet f s = bnd f (fun x => DL.ret (.rt x)) s := id rfl
theorem x_fRetN (s : S) : fRetN s = .ok (.rt (.d .none)) s := id rfl
theorem x_fAsg (k : Vl → M Unit) (s : S) : fAsg f k s = bnd f (fun x => bnd (k x) fun _ => DL.ret .nx) s := id rfl
theorem x_kName (i : Nat) (x : Vl) (s : S) : kName i x s = .ok () { s with sl := s.sl.set i (some x) } := id rfl
theorem x_fPar (i j : Nat) (s : S) : fPar i j fA s = bnd fA (fun vs => match vs with
  | [x, y] => bnd (kName i x) fun _ => bnd (kName j y) fun _ => DL.ret .nx
  | _ => stuck) s := id rfl
theorem x_kNil (s : S) : kNil [] s = .ok () s := id rfl
theorem x_kCons (k : Vl → M Unit) (ks : List D → M Unit) (x : D) (xs : List D) (s : S) : kCons k ks (x :: xs) s = bnd (k (.d x)) (fun _ => ks xs) s := id rfl
theorem x_kTup (n : Nat) (ks : List D → M Unit) (xs : List D) (s : S) : kTup n ks (.d (.tuple xs)) s = (if xs.length = n then ks xs else stuck) s := id rfl
theorem x_kSub (x : Vl) (s : S) : kSub fo fi x s = bnd fo (fun o => bnd fi fun i => bnd (frz x) fun d => setIt o i d) s := id rfl
theorem x_setIt (o i : Vl) (d : D) (s : S) : setIt o i d s = match o, i with
  | .c j, .d (.int i) => match s.ce[j]? with
    | some (.l xs) => match ixN xs.length i with
      | some k => .ok () { s with ce := s.ce.set j (.l (xs.set k d)) }
      | none => .no
    | _ => .no
  | _, _ => .no := id rfl
theorem x_needL (x : Vl) (s : S) : needL x s = match datL s x with
  | some _ => .ok () s
  | none => .no := id rfl
theorem x_upC (x : Vl) (k : List D → Option (Vl × List D)) (s : S) : upC x k s = match x with
  | .c j => match s.ce[j]? with
    | some (.l xs) => match k xs with
      | some (y, ys) => .ok y { s with ce := s.ce.set j (.l ys) }
      | none => .no
    | _ => .no
  | _ => .no := id rfl
theorem x_fApp (s : S) : fApp fo fa s = bnd fo (fun x => bnd (needL x) fun _ => bnd fa fun y => bnd (frz y) fun d => upC x fun xs => if xs.length < 1000000 then some (.d .none, xs ++ [d]) else none) s := id rfl
theorem x_fPopAt (s : S) : fPopAt fo fi s = bnd fo (fun x => bnd (needL x) fun _ => bnd fi fun i => match i with
  | .d (.int i) => upC x fun xs => if -1000000000 ≤ i ∧ i ≤ 1000000000 then (match seqIndex? i xs.length with
      | some k => (xs[k]?).map fun d => (.d d, xs.eraseIdx k)
      | none => none) else none
  | _ => stuck) s := id rfl
theorem x_fPop (s : S) : fPop fo s = bnd fo (fun x => bnd (needL x) fun _ => upC x fun xs => match xs.getLast? with
  | some d => some (.d d, xs.dropLast)
  | none => none) s := id rfl
theorem x_fSl (o : Vl → Option Int → Option Int → S → Option α) (pl ph : M (Option Int)) (s : S) : fSl o f pl ph s = bnd f (fun x => bnd pl fun lo => bnd ph fun hi => gets (o x lo hi)) s := id rfl
theorem x_fNoP (s : S) : fNoP s = .ok none s := id rfl
theorem x_fP (s : S) : fP f s = bnd f (fun x => match x with
  | .d (.int i) => DL.ret (some i)
  | _ => stuck) s := id rfl
theorem x_fDef (g : FD) (s : S) : fDef g fA s = bnd fA (callD g) s := id rfl
theorem x_callD (g : FD) (xs : List Vl) (s : S) : callD g xs s = if (cellsOf xs).Nodup then (match picks s.ce (cellsOf xs) with
  | none => .no
  | some cs => match g (xs.map (renum (cellsOf xs))) cs with
    | .no => .no
    | .ex e cs' => .ex e { s with ce := putB s.ce (cellsOf xs) (cs'.map kl) }
    | .ok (.d x) cs' => .ok (.d x) { s with ce := putB s.ce (cellsOf xs) (cs'.map kl) }
    | .ok (.c k) cs' => if k = cs.length then (match cs'[k]? with
        | some (.l ys) => .ok (.c s.ce.length) { s with ce := putB s.ce (cellsOf xs) (cs'.map kl) ++ [.l ys] }
        | some (.m ys) => .ok (.c s.ce.length) { s with ce := putB s.ce (cellsOf xs) (cs'.map kl) ++ [.m ys] }
        | _ => .no) else if k = cs.length + 1 then callT s (cellsOf xs) cs.length cs' else .no) else .no := id rfl
theorem x_fPerm (is : List Nat) (s : S) : fPerm is fA s = bnd fA (fun xs => DL.ret (permL is xs)) s := id rfl
theorem x_fIsi (n : String) (s : S) : fIsi n f s = bnd f (fun x => gets fun s => match tyVl s x with
  | some t => match kitB t n with
    | some b => some (.d (.bool b))
    | none => none
  | none => none) s := id rfl
theorem x_fNeg (s : S) : fNeg f s = bnd f (fun x => match x with
  | .d (.int i) => DL.ret (.d (.int (-i)))
  | _ => stuck) s := id rfl
theorem x_asL (xs : List D) (s : S) : asL (.list xs) s = .ok xs s := id rfl
theorem x_asLt (xs : List D) (s : S) : asL (.tuple xs) s = .no := id rfl
theorem x_asT (xs : List D) (s : S) : asT (.tuple xs) s = .ok xs s := id rfl
theorem x_fItL (s : S) : fItL f s = bnd f (fun x => bnd (frz x) asL) s := id rfl
theorem x_fItT (s : S) : fItT f s = bnd f (fun x => bnd (frz x) asT) s := id rfl
theorem x_orI (p q : M α) (s : S) : orI p q s = match p s with
  | .no => q s
  | r => r := id rfl
theorem x_fRng1 (s : S) : fRng1 fA s = bnd fA (fun vs => match vs with
  | [.d (.int j)] => if -1000000000 ≤ j ∧ j ≤ 1000000000 then DL.ret (rng 0 j.toNat) else stuck
  | _ => stuck) s := id rfl
theorem x_fRng2 (s : S) : fRng2 fA s = bnd fA (fun vs => match vs with
  | [.d (.int i), .d (.int j)] => if (-1000000000 ≤ i ∧ i ≤ 1000000000) ∧ (-1000000000 ≤ j ∧ j ≤ 1000000000) then DL.ret (rng i (j - i).toNat) else stuck
  | _ => stuck) s := id rfl
theorem x_fEnum (s : S) : fEnum fA s = bnd fA (fun vs => match vs with
  | [x] => bnd (frz x) fun d => bnd (asL d) fun xs => DL.ret (enumD 0 xs)
  | _ => stuck) s := id rfl
theorem x_fZip (s : S) : fZip fA s = bnd fA (fun vs => match vs with
  | [x, y] => bnd (frz x) fun d => bnd (asL d) fun xs => bnd (frz y) fun e => bnd (asL e) fun ys => DL.ret (zipD xs ys)
  | _ => stuck) s := id rfl
theorem x_fFor (fi : M (List D)) (k : Vl → M Unit) (b : M Fl) (s : S) : fFor fi k b s = bnd fi (fun xs => forL k b xs) s := id rfl
theorem x_forL0 (k : Vl → M Unit) (b : M Fl) (s : S) : forL k b [] s = .ok .nx s := id rfl
theorem x_fAug (i : Nat) (o : O2 Vl) (s : S) : fAug i o f s = bnd (fVar i) (fun x => bnd f fun y => bnd (gets (o x y)) fun z => bnd (kName i z) fun _ => DL.ret .nx) s := id rfl
theorem x_fYes (s : S) : fYes s = .ok true s := id rfl
theorem x_lcT (k : Vl → M Unit) (t : M Bool) (e : M Vl) (x : D) (s : S) : lcT k t e x s = bnd (k (.d x)) (fun _ => bnd t fun b => if b = true then bnd (fFrz e) (fun v => match v with
  | .d d => DL.ret (some d)
  | .c _ => stuck) else DL.ret none) s := id rfl
theorem x_fRstT (m : M α) (s : S) : fRstT m s = match m s with
  | .ok a s' => .ok a (rst s s')
  | .ex e s' => .ex e s'
  | .no => .no := id rfl
theorem x_fRstV (s : S) : fRstV f s = match f s with
  | .ok (.d x) s' => if flat x = true then .ok (.d x) (rst s s') else .ok (.d x) s'
  | r => r := id rfl
theorem x_ite {p : Prop} [Decidable p] (m n : M α) (s : S) : (if p then m else n) s = if p then m s else n s := by split <;> rfl
end
end DL

end DLsec_18

section DLsec_19
set_option maxRecDepth 100000
/-! exceptions of own classes: raised, kept, read -/
namespace DL
open PySem PySem.Spec PyProof.Rows L2

/-! ### an object that is known is told of -/
section
variable {X : Cx} {pins : List (Addr × Obj)} {σ : St} {G : Hp} {s : Shared} {a : Addr} {ob : Obj} {cls : Value} {d : Option Addr}
theorem exK_own {e x : Addr} : exK e cls d ≠ .own x := fun z => by
  have z' : HO.ext _ = HO.own x := z
  cases z'
theorem exK_tup {e : Addr} {xs : List V} : exK e cls d ≠ .tup xs := fun z => by
  have z' : HO.ext _ = HO.tup xs := z
  cases z'
theorem exK_dct {e : Addr} {kvs : List (Key × V)} (z : exK e cls d = .dK kvs) : False := by
  have z' : HO.ext _ = HO.dK kvs := z
  cases z'
theorem exK_ok {P : Program} {w : World} {h : Heap} {vs : Array Value} (ha : h.get? a = some ob) (h1 : ob.cls = cls) (h2 : ob.dict = d) (h3 : ob.data = .fields vs) : ObjOk P w G h a (exK a cls d) :=
  ⟨⟨ob, vs, ha, h1, h2, h3⟩, ⟨_, ha⟩, fun p q z k => by
    obtain ⟨o, us, z1, z2⟩ := z
    exact ⟨o, us, k _ z1, z2⟩⟩
theorem exK_at {P : Program} {w : World} {h : Heap} (hok : HOk P w G h) (ha : G a = some (exK a cls d)) : ∃ (o : Obj) (vs : Array Value), h.get? a = some o ∧ o.cls = cls ∧ o.dict = d ∧ o.data = .fields vs := by
  have x : ObjOk P w G h a (.ext fun h => ∃ (o : Obj) (vs : Array Value), h.get? a = some o ∧ o.cls = cls ∧ o.dict = d ∧ o.data = .fields vs) := hok a _ ha
  exact x.1
theorem _root_.L2.Inv.keepX {vs : Array Value} (I : Inv X pins σ G s) (n0 : X.s_0.heap.get? a = none) (na : G a = none) (nL : a ≠ X.env.locals) (ha : s.heap.get? a = some ob) (h1 : ob.cls = cls) (h2 : ob.dict = d) (h3 : ob.data = .fields vs) (np : ∀ p ∈ X.pn ++ pins, p.1 ≠ a) : Inv X pins σ (upd G a (exK a cls d)) s := by
  have nn : ∀ {c : Addr} {o : HO}, G c = some o → c ≠ a := fun {c o} hc z => by rw [z, na] at hc; cases hc
  refine ⟨I.ok, I.os, I.bare, ⟨I.base.keep, I.base.slot, fun b o q n hx => ?_, I.base.there, fun b xs q => ?_, fun b o u q => ?_, fun b ps q => ?_⟩, I.loc, I.cell, ?_, fun y c e => ?_, fun p hp => ?_, fun b o q => ?_, I.len⟩
  · rw [upd_ne (fun z => by rw [z, n0] at q; cases q)]
    exact I.base.free b o q n hx
  · rw [upd_ne (nn (I.base.tups b xs q))]
    exact I.base.tups b xs q
  · rw [upd_ne (nn (I.base.frzs b o u q))]
    exact I.base.frzs b o u q
  · obtain ⟨m, e⟩ := I.base.tbls b ps q
    exact ⟨m, by rw [upd_ne (nn e)]; exact e⟩
  · rw [upd_ne (Ne.symm nL)]
    exact I.free
  · refine (upd_ne fun z => ?_).trans (I.freeC y c e)
    obtain ⟨v, o, q1, q2⟩ := I.cell y c e
    rw [z, ha] at q1
    cases q1
    rw [h3] at q2
    cases q2
  · obtain ⟨z1, z2, z3⟩ := I.pin p hp
    exact ⟨z1, by rw [upd_ne (np p hp)]; exact z2, z3⟩
  · by_cases hb : b = a
    · subst hb
      rw [upd_same] at q
      cases q
      exact exK_ok ha h1 h2 h3
    · rw [upd_ne hb] at q
      exact (I.hok b o q).stay (fun c v _ z => z) (fun c hc => by rw [upd_ne (nn hc)]; exact hc) (fun c xs hc => by rw [upd_ne (nn hc)]; exact hc)
end
/-! ### try: .. except C as n: m = n -/
/-- what the clause wishes: the exception stands in m's slot j, and is told of -/
def wKp (K : PySem.W.Frag) (f : Value → Option Bool) (i j : Nat) (Wout : WX) (Dn : Ends) : WX := fun cls d σ G =>
  ∃ b, f cls = some b ∧ (b = true → ∀ a, G a = none → Dn.nx ((((σ.set i (some (.ref a))).set j (some (.ref a)))).set i none) (upd G a (exK a cls d))) ∧ (b = false → Wout cls d σ G)
/-- the clause's test -/
def TestOk (X : Cx) (te : Expr) (f : Value → Option Bool) : Prop := ∀ (a : Addr) (ob : Obj) (vs : Array Value) (pn : List (Addr × Obj)) (σ : St) (G : Hp) (s : Shared) (b : Bool), Inv (X.suite a ((a, ob) :: pn)) [] σ G s → ob.data = .fields vs → f ob.cls = some b →
  ∀ {Q : Bool → Shared → Prop} {E : Value → Shared → Prop}, Q b s → wpAny (model X.prog X.w) (X.A.mark (some (.ref a))) (eval te X.env) (fun c s1 => wpAny (model X.prog X.w) (X.A.mark (some (.ref a))) (excMatches (.ref a) c) Q E s1) E s
theorem test_nm {X : Cx} {x : Str} {c : Value} {np : Pos} (hc : Names X x c) : TestOk X (.Name x np) (fun cls => PySem.W.exmOne X.K cls c) := fun a ob vs pn σ G s b I hd hb {Q E} q => by
  obtain ⟨hget, _⟩ := I.pin (a, ob) (List.mem_append_left _ List.mem_cons_self)
  have LT : PySem.W.Looks (model X.prog X.w) s.heap (typeOf (.ref a)) ob.cls := fun A' Q' E' s' k z => wpAny_typeOf_ref (k _ _ hget) z
  have LM := PySem.W.exm_one (M := model X.prog X.w) I.kIn LT hb
  obtain ⟨hg, hdb, hm | ⟨hm, hv, hnn⟩⟩ := hc
  · exact ld_glob (X := X.suite a ((a, ob) :: pn)) I hg hm (LM.here q) hdb
  · exact ld_blt (X := X.suite a ((a, ob) :: pn)) I hg hm hv (LM.here q) hnn hdb
section
variable {X : Cx} {te : Expr} {n m : Str} {f : Value → Option Bool} {i j : Nat} {body : List Stmt} {mp np2 ap pos pos' : Pos} {tb : WX → TS} {Wout : WX}
theorem ps_tryK (hs : X.stack = X.env :: X.outer) (hf : X.env.frame = some X.env.locals) (hex : X.ex = []) (hN : X.N.Nodup) (hi : X.N[i]? = some n) (hln : X.env.kindOf n = some .local) (hte : TestOk X te f) (tk : Takes X Wout)
    (hb : ∀ (W : WX) (pn : List (Addr × Obj)) (xe : Value → Shared → Prop), Takes (X.tr pn xe) W → PassesOwn (model X.prog X.w) X.A X.env xe → PSs (X.tr pn xe) body (tb W))
    (hsu : ∀ (a : Addr) (ob : Obj) (pn : List (Addr × Obj)), PSs (X.suite a ((a, ob) :: pn)) [.Assign [.Name m mp] (.Name n np2) ap] (tAsg (tVar i) (gName j))) (hij : i ≠ j) :
    PS X (.Try body [.ExceptHandler (some te) (some n) [.Assign [.Name m mp] (.Name n np2) ap] pos'] [] [] pos) (fun Dn σ G => tb (wKp X.K f i j Wout Dn) Dn σ G) := by
  refine ⟨fun pins s σ G Dn I h => ?_⟩
  have okX := I.ok
  have frm : X.A.frames = some (X.env :: X.outer) := by rw [okX.frames, hs]
  have nloc : Loc X.env.scope n := .inl hln
  refine wpAny_Try_except ?_
  have cat : Takes (X.tr (X.pn ++ pins) (fun e s1 => wpAny (model X.prog X.w) X.A (noteFrame e X.env) (fun _ s2 => wpAny (model X.prog X.w) X.A (setFlight e none) (fun _ s3 =>
      wpAny (model X.prog X.w) X.A (handleBy e X.env [.ExceptHandler (some te) (some n) [.Assign [.Name m mp] (.Name n np2) ap] pos']) (SP X pins Dn) X.xe s3) X.xe s2) X.xe s1)) (wKp X.K f i j Wout Dn) := by
    intro u s' air
    obtain ⟨a, Bh, sI, pins', σ', G', cls, d, rfl, J0, nb, up, sky, na, hos, ag, b, hb1, yes, no⟩ := air
    have J : Inv X pins σ' G' sI := J0.ofTry okX
    have sky2 : Sky Bh (X.env :: X.outer) a (Zc cls d) X.env.locals s'.heap := by rw [← hs]; exact sky
    show wpAny (model X.prog X.w) X.A (noteFrame (.ref a) X.env) _ _ _
    refine Sky.land Zc.steady frm hf sky2 fun h3 fl up3 => ?_
    have J3 : Inv X pins σ' G' { s' with heap := h3 } := J.landed nb fl.1 (up.trans up3) hos ag
    obtain ⟨o3, v3, g3, z3, d3⟩ := fl.there
    have noframe : a ∉ frs (X.env :: X.outer) := fun hm => by
      obtain ⟨_, o', e', hnf⟩ := fl.2.2.1.mem hm
      rw [g3] at e'
      cases e'
      exact hnf _ d3
    have neL : a ≠ X.env.locals := fun z => noframe (List.mem_filterMap.mpr ⟨X.env, List.mem_cons_self, by rw [hf, z]⟩)
    have neF : a ∉ X.fs := fun hm => by
      obtain ⟨e, he, q⟩ := List.mem_filterMap.mp hm
      exact noframe (List.mem_filterMap.mpr ⟨e, List.mem_cons_of_mem _ he, q⟩)
    have fresh : ∀ {c : Addr} {o : Obj}, sI.heap.get? c = some o → c ≠ a := fun {c o} e z => by
      subst z
      have q := nb c o e (by rw [hs]; exact noframe)
      rw [fl.2.1] at q
      cases q
    have new0 : X.s_0.heap.get? a = none := by
      cases q : X.s_0.heap.get? a with
      | none => rfl
      | some o =>
        obtain ⟨o', e⟩ := J.base.there a o q (by rw [hex]; simp)
        exact absurd rfl (fresh e)
    have nopin : ∀ p ∈ X.pn ++ pins, p.1 ≠ a := fun p hp => fresh (J.pin p hp).1
    have S3 := J3.suite g3 d3 na neL neF
    refine wpAny_handleBy_cons (codeAny_handlers_test ?_) (by intro q; cases q)
    refine hte a o3 v3 (X.pn ++ pins) σ' G' _ b S3 d3 (by rw [z3.1]; exact hb1) ?_
    cases b with
    | true =>
      refine codeAny_handlers_suite_as (HandSPX.lands_againZ fl fun h4 fl4 up4 => ?_)
      have J4 : Inv X pins σ' G' { s' with heap := h4 } := J.landed nb fl4.1 ((up.trans up3).trans up4) hos ag
      obtain ⟨o4, v4, g4, z4, d4⟩ := fl4.there
      have S4 := J4.suite g4 d4 na neL neF
      refine store_ok (X := X.suite a ((a, o4) :: (X.pn ++ pins))) (v := .ref a) S4 hN hi nloc rfl (fun s5 S5 => ?_) (.inr hln)
      have hlen : i < σ'.length := by
        have e1 := J.len
        have e2 := (List.getElem?_eq_some_iff.mp hi).1
        omega
      refine wpAny_mono ((hsu a o4 (X.pn ++ pins)).run [] s5 _ G' ⟨fun σ6 G6 => σ6 = (σ'.set i (some (.ref a))).set j (some (.ref a)) ∧ G6 = G', fun _ _ => False, fun _ _ => False, fun _ _ => False⟩ S5 ⟨.ref a, by rw [List.getElem?_set_self hlen], rfl, rfl⟩) (fun fl6 s6 q6 => ?_) (fun _ _ z => z.elim)
      cases fl6 with
      | next =>
        obtain ⟨σ6, G6, S6, rfl, rfl⟩ := q6
        refine gone_ok (X := X.suite a ((a, o4) :: (X.pn ++ pins))) S6 hN hi hln fun s7 S7 => ?_
        obtain ⟨p1, p2, _⟩ := S7.pin (a, o4) (List.mem_append_left _ List.mem_cons_self)
        exact ⟨_, _, (S7.unsuite okX).keepX new0 p2 neL p1 z4.1 z4.2 d4 nopin, yes rfl a na⟩
      | brk => obtain ⟨_, _, _, z⟩ := q6; exact z.elim
      | cont => obtain ⟨_, _, _, z⟩ := q6; exact z.elim
      | ret u => obtain ⟨_, _, _, _, _, z⟩ := q6; exact z.elim
    | false =>
      show wpAny _ X.A (handleBy (.ref a) X.env []) _ _ _
      refine wpAny_handleBy_nil ?_
      obtain ⟨k1, k2, k3, oe, ws, T, oT, ts', he, hz, hd, h1, hr⟩ := id fl
      unfold PySem.passOn
      refine wpAny_bind (wpAny_field he hd h1 ?_)
      rw [if_neg (show ¬ ((Value.ref T == Value.none) = true) by simp)]
      have last : wpAny (model X.prog X.w) X.A (setFlight (.ref a) X.env.frame) (fun _ s4 => wpAny (model X.prog X.w) X.A (throw (.ref a) : Sem Flow) (SP X pins Dn) X.xe s4) X.xe { s' with heap := h3 } := by
        rw [hf]
        exact HandSPX.setFlight_upZ fl fun h4 hh4 up4 => wpAny_throw (tk _ _ ⟨a, Bh, sI, pins, σ', G', cls, d, rfl, J, nb, (up.trans up3).trans up4, .inr (.inr (by rw [hs]; exact hh4)), na, hos, ag, no rfl⟩)
      first
        | exact wpAny_bind (wpAny_pure (wpAny_bind last))
        | exact wpAny_bind last
  refine wpAny_mono ((hb _ _ _ cat PassesOwn.looking).run [] s σ G Dn (I.toTry _) h) (fun fl s1 q => ?_) (fun e s1 q => q)
  cases fl with
  | next => obtain ⟨σ1, G1, J1, q1⟩ := q; exact wpAny_execs_nil ⟨σ1, G1, J1.ofTry okX, q1⟩
  | brk => obtain ⟨σ1, G1, J1, q1⟩ := q; exact ⟨σ1, G1, J1.ofTry okX, q1⟩
  | cont => obtain ⟨σ1, G1, J1, q1⟩ := q; exact ⟨σ1, G1, J1.ofTry okX, q1⟩
  | ret u => obtain ⟨v, σ1, G1, J1, r1, q1⟩ := q; exact ⟨v, σ1, G1, J1.ofTry okX, r1, q1⟩
end
end DL

end DLsec_19

section DLsec_20
set_option maxRecDepth 100000
/-! exceptions: the data side -/
namespace DL
open PySem PySem.Spec PyProof.Rows L2

section
variable {mg : Str → Option Value} {W : WX} {B : Bd mg} {σ : St} {H Hi : Hp} {as : List Addr} {s : S}
/-- a slot is emptied -/
theorem Rep.clear (r : Rep B σ H Hi as s) {i : Nat} : Rep B (σ.set i none) H Hi as { s with sl := s.sl.set i none } := by
  refine ⟨r.sub, r.lkd, r.fr, r.hin, r.new, by simp [r.len], fun k y e => ?_, r.lea, r.cel, r.inj⟩
  by_cases z : k = i
  · subst z
    have hk : k < s.sl.length := by
      have := lt_of_get e
      simpa using this
    rw [List.getElem?_set_self hk] at e
    cases e
  · rw [List.getElem?_set_ne (Ne.symm z)] at e ⊢
    exact r.slo k y e
/-- a cell that is never changed -/
theorem Rep.addX (r : Rep B σ H Hi as s) {p : Addr} {c : Ce} (hc : c.alive = false) (hr : RelCe mg H Hi (as ++ [p]) p c) : Rep B σ H Hi (as ++ [p]) { s with ce := s.ce ++ [c] } := by
  have look : ∀ j a c', (as ++ [p])[j]? = some a → (s.ce ++ [c])[j]? = some c' → (as[j]? = some a ∧ s.ce[j]? = some c') ∨ (a = p ∧ c' = c) := fun j a c' e1 e2 => by
    by_cases hj : j < as.length
    · rw [List.getElem?_append_left hj] at e1
      rw [List.getElem?_append_left (by rw [← r.lea]; exact hj)] at e2
      exact .inl ⟨e1, e2⟩
    · rw [List.getElem?_append_right (by omega)] at e1
      rw [List.getElem?_append_right (by rw [← r.lea]; omega), ← r.lea] at e2
      have hz : j - as.length = 0 := by
        cases hh : j - as.length with
        | zero => rfl
        | succ n => rw [hh] at e1; simp at e1
      rw [hz] at e1 e2
      simp at e1 e2
      exact .inr ⟨e1.symm, e2.symm⟩
  refine ⟨r.sub, r.lkd, r.fr, r.hin, fun j a c' e1 e2 al => ?_, r.len, fun i x e => ?_, by simp [r.lea], fun j a c' e1 e2 => ?_, fun i j a c1 c2 e1 e2 e3 e4 a1 a2 => ?_⟩
  · rcases look j a c' e1 e2 with ⟨q1, q2⟩ | ⟨_, rfl⟩
    · exact r.new j a c' q1 q2 al
    · rw [hc] at al; cases al
  · obtain ⟨v, a, b⟩ := r.slo i x e
    exact ⟨v, a, b.mono (Same.refl _) (List.prefix_append _ _)⟩
  · rcases look j a c' e1 e2 with ⟨q1, q2⟩ | ⟨rfl, rfl⟩
    · exact (r.cel j a c' q1 q2).mono (Same.refl _) (List.prefix_append _ _) (fun _ => rfl) fun _ => rfl
    · exact hr
  · rcases look i a c1 e1 e3 with ⟨q1, q3⟩ | ⟨_, rfl⟩
    · rcases look j a c2 e2 e4 with ⟨q2, q4⟩ | ⟨_, rfl⟩
      · exact r.inj i j a c1 c2 q1 q2 q3 q4 a1 a2
      · rw [hc] at a2; cases a2
    · rw [hc] at a1; cases a1
def fTry (cs : Str → Option Bool) (i j : Nat) (f : M Fl) : M Fl := fun s => match f s with
  | .ex e s' => (match cs e.cls with
    | some true => .ok .nx ⟨((s'.sl.set i (some (.c s'.ce.length))).set j (some (.c s'.ce.length))).set i none, s'.ce ++ [.x e]⟩
    | some false => .ex e s'
    | none => .no)
  | r => r
theorem ss_try {K : PySem.W.Frag} {f : Value → Option Bool} {cs : Str → Option Bool} {i j : Nat} {tb : WX → TS} {fb : M Fl} (hm : ∀ nm b cls, cs nm = some b → mg nm = some cls → f cls = some b) (hb : ∀ W' : WX, SS mg W' (tb W') fb) :
    SS mg W (fun Dn σ G => tb (wKp K f i j W Dn) Dn σ G) (fTry cs i j fb) := fun B σ H Hi as s Dn rp w => by
  refine hb (wKp K f i j W Dn) B σ H Hi as s Dn rp ?_
  unfold fTry at w
  cases e : fb s with
  | no => rw [e] at w; exact w
  | ok fl s' => rw [e] at w; exact w
  | ex x s' =>
    rw [e] at w
    simp only at w
    intro σ' H' Hi' as' r' e' p' cls d hx
    cases h1 : cs x.cls with
    | none => rw [h1] at w; exact w.elim
    | some b =>
      rw [h1] at w
      cases b with
      | false => exact ⟨false, hm _ _ _ h1 hx.1, fun z => Bool.noConfusion z, fun _ => w σ' H' Hi' as' r' e' p' cls d hx⟩
      | true =>
        refine ⟨true, hm _ _ _ h1 hx.1, fun _ a na => ?_, fun z => Bool.noConfusion z⟩
        have r1 := r'.addI (o := exK a cls d) na
        have sm : Same Hi' (upd Hi' a (exK a cls d)) := same_new (r'.fresh na)
        have r2 := r1.addX (p := a) (c := .x x) rfl ⟨cls, d, upd_same, hx.mono sm⟩
        have hv : RelVl (upd Hi' a (exK a cls d)) (as' ++ [a]) (.ref a) (.c s'.ce.length) := .c (by rw [← r'.lea, List.getElem?_append_right (Nat.le_refl _), Nat.sub_self]; rfl)
        exact w _ _ _ _ (((r2.bind (i := i) hv).bind (i := j) hv).clear (i := i)) (e'.trans sm) (p'.trans (List.prefix_append _ _))
/-! raise C(e) -/
def spI (K : PySem.W.Frag) (f : Str) : Sp := fun vs G Q _ => ∃ (a C : Addr) (y : V), vs = [.ref a, y] ∧ OexC K C ∧ PySem.W.findIn K (.ref C) f = some none ∧ G a = some (exo a C none) ∧
  ∀ dx, G dx = none → dx ≠ a → Q .non (upd (upd G dx (exd dx [(f, y)])) a (exo a C (some dx)))
theorem init_rd {K : PySem.W.Frag} {f : Str} {N : List Str} {vs : List V} {G : Hp} {Q : VK} {E : XK} (h : spI K f vs G Q E) : tOst K f (tVar 0) (tVar 1) { nx := fun _ G' => Q .non G', rt := Q } (L2.start N vs) G := by
  obtain ⟨a, C, y, rfl, T, nf, ha, q⟩ := h
  exact ⟨y, rfl, .ref a, rfl, a, C, rfl, T, nf, .inl ⟨ha, q⟩⟩
theorem spI_len {K : PySem.W.Frag} {f : Str} {vs : List V} {G : Hp} {Q : VK} {E : XK} (h : spI K f vs G Q E) : vs.length = 2 := by
  obtain ⟨a, C, y, rfl, _⟩ := h
  rfl
def fRaise (c f : Str) (fa : M Vl) : M Fl := bnd fa fun x => bnd (frz x) fun y => fun s => .ex ⟨c, some (f, y)⟩ s
def tRaise (K : PySem.W.Frag) (W : WX) (C : Addr) (f : Str) (ta : TE) : TS := fun _ σ G => tMkO C (spI K f) [] (tCons ta tNil) σ G fun cls d G' => W cls d σ G'
theorem ss_raise {K : PySem.W.Frag} {c f : Str} {C : Addr} {ta : TE} {fa : M Vl} (hc : mg c = some (.ref C)) (T : OexC K C) (nf : PySem.W.findIn K (.ref C) f = some none) (h : SE mg W ta fa) : SS mg W (tRaise K W C f ta) (fRaise c f fa) := fun B σ H Hi as s Dn rp w => by
  unfold tRaise tMkO tCons tNil
  refine h B σ H Hi as s _ rp (wp_mono (wp_bnd w) (fun x s1 w1 => ?_) fun _ _ z => z σ)
  intro H1 Hi1 as1 r1 e1 p1 v hv
  obtain ⟨y, s2, Hi2, w2, r2, sm, dq⟩ := r1.frz hv (wp_bnd w1)
  refine ⟨by simp, fun a na => ⟨a, C, v, rfl, T, nf, upd_same, fun dx hd ne => ?_⟩⟩
  have hdx : H1 dx = none := by rw [upd_ne ne] at hd; exact hd
  have nda : a ≠ dx := Ne.symm ne
  refine ⟨rfl, dx, [(f, v)], upd_same, by rw [upd_ne ne, upd_same], hdx, ?_⟩
  have eH : upd (del (upd (upd (upd H1 a (exo a C none)) dx (exd dx [(f, v)])) a (exo a C (some dx))) a) dx (.xd [(f, v)]) = upd H1 dx (.xd [(f, v)]) := by
    funext b
    by_cases hb : b = dx
    · subst hb; rw [upd_same, upd_same]
    · rw [upd_ne hb, upd_ne hb]
      by_cases ha : b = a
      · subst ha; rw [del_same, na]
      · rw [del_ne ha, upd_ne ha, upd_ne hb, upd_ne ha]
  rw [eH]
  have r3 := r2.addI (o := .xd [(f, v)]) hdx
  have sm2 : Same Hi2 (upd Hi2 dx (.xd [(f, v)])) := same_new (r2.fresh hdx)
  exact w2 σ _ _ _ r3 ((e1.trans sm).trans sm2) p1 (.ref C) (some dx) ⟨hc, dx, v, rfl, upd_same, dq.mono sm2⟩
end
/-! ### what an exception's class says -/
structure ExA (K : PySem.W.Frag) (C : Addr) : Prop where
  ga : PySem.W.findIn K (.ref C) "__getattribute__" = some (some (.builtin "BaseException.__getattribute__"))
  gg : PySem.W.findIn K (.ref C) "__getattr__" = some none
  ex : PySem.W.subIn K (.ref C) (.type "BaseException") = some true
  hd : PySem.W.hasDictIn K C = true
  ty : PySem.W.typeIn K (.ref C) = some (.type "type")
  ic : PySem.W.isClsIn K C = true
  ca : PySem.W.findIn K (.ref C) "__class__" = some (some (.builtin "object.__class__"))
  sp : PySem.W.specialIn K (.builtin "object.__class__") "__get__" = some (some (.builtin "getset_descriptor.__get__"))
  tk : PySem.W.takesIn K (.builtin "object.__class__") = some true
  mo : PySem.W.mroIn K C (.type "object") = some true
/-- e.f -/
def tAtX (K : PySem.W.Frag) (f : Str) (te : TE) : TE := fun σ G Q => te σ G fun x G1 => ∃ (a D dd : Addr) (v : V), x = .ref a ∧ G1 a = some (exK a (.ref D) (some dd)) ∧ G1 dd = some (.xd [(f, v)]) ∧ ExA K D ∧ PySem.W.findIn K (.ref D) f = some none ∧ Q v G1
theorem lookup_one (f : Str) (v : V) : List.lookup f [(f, v)] = some v := by simp [List.lookup]
theorem pe_atX {X : Cx} {e : Expr} {te : TE} {f : Str} {pos : Pos} (he : PE X e te) (hb : attributeBase e f X.env (eval e X.env) = eval e X.env := by rfl) : PE X (.Attribute e f pos) (tAtX X.K f te) := by
  refine ⟨fun pins s σ G Q I h => attr_of hb (thn (he.run pins s σ G _ I h) fun u s1 z => ?_)⟩
  obtain ⟨x, G1, I1, rx, a, D, dd, v, rfl, ha, hd, T, nf, q⟩ := z
  cases (show u = Value.ref a from rx)
  obtain ⟨o, vs, g1, g2, g3, g4⟩ := exK_at I1.hok ha
  obtain ⟨mA, hns, hr⟩ := (show ObjOk X.prog X.w G1 s1.heap dd (.xd [(f, v)]) from I1.hok dd _ hd)
  obtain ⟨od, ho, hl⟩ := lookIn_ns hns
  have hf := hr f
  rw [lookup_one] at hf
  obtain ⟨u, hu, ru⟩ := RelO.some_of (v := v) (o := mA f) hf
  have J : PySem.W.InstAt s1.heap a o D (some od) := ⟨g1, g2, by unfold PySem.W.notCls; rw [g4] <;> rfl, by rw [g3]; exact ho⟩
  exact HandSPX.exc_get I1.kIn J T.ga T.gg T.ex (PySem.W.findObj_own T.hd nf rfl (by rw [hl, hu])) (handed_of ru) ⟨v, G1, I1.tok _, ru, q⟩
/-- isinstance(x, c): x data, or an exception that is kept -/
def TyE (K : PySem.W.Frag) (G : Hp) (x : V) (t : Value) : Prop := ∃ (a D dd : Addr) (fs : List (Str × V)), x = .ref a ∧ t = .ref D ∧ G a = some (exK a (.ref D) (some dd)) ∧ G dd = some (.xd fs) ∧ ExA K D
def rIsE2 (K : PySem.W.Frag) : RC := fun xs G Q => ∃ (x c : V) (t u : Value) (b : Bool), xs = [x, c] ∧ ClsV c u ∧ (TyX K G x t ∨ TyE K G x t) ∧ PySem.W.kitOne K t u = some b ∧ Q (.bl b) G
theorem call_isE2 {X : Cx} : CallR X (.builtin "isinstance") (rIsE2 X.K) := by
  intro pins s σ G xs us Q I r h
  obtain ⟨x, c, t, u, b, rfl, k, ty | ty, e, q⟩ := h
  · exact call_isi pins s σ G _ us Q I r ⟨x, c, t, u, b, rfl, k, ty, e, q⟩
  · obtain ⟨u1, u2, rfl, r1, r2⟩ := vals2 r
    have e2 := k.eq r2
    subst e2
    obtain ⟨a, D, dd, fs, rfl, rfl, ha, hd, T⟩ := ty
    cases (show u1 = Value.ref a from r1)
    obtain ⟨o, vs, g1, g2, g3, g4⟩ := exK_at I.hok ha
    obtain ⟨mA, hns, hr⟩ := (show ObjOk X.prog X.w G s.heap dd (.xd fs) from I.hok dd _ hd)
    obtain ⟨od, ho, hl⟩ := lookIn_ns hns
    have J : PySem.W.InstAt s.heap a o D (some od) := ⟨g1, g2, by unfold PySem.W.notCls; rw [g4] <;> rfl, by rw [g3]; exact ho⟩
    exact PySem.W.kia_one (PySem.W.kitx_exc (show (PySem.W.clsIn X.K D).isSome = true from T.ic) T.ga T.gg T.ex T.ca T.sp T.tk T.mo) I.kIn J e (fun z => nomatch z) fun tk => ⟨.bl b, G, I.tok tk, rfl, q⟩
theorem isE2K {X : Cx} {K : PySem.W.Frag} (hK : X.K = K := by rfl) : CallR X (.builtin "isinstance") (rIsE2 K) := hK ▸ call_isE2
theorem atXK {X : Cx} {K : PySem.W.Frag} {e : Expr} {te : TE} {f : Str} {pos : Pos} (he : PE X e te) (hK : X.K = K := by rfl) (hb : attributeBase e f X.env (eval e X.env) = eval e X.env := by rfl) : PE X (.Attribute e f pos) (tAtX K f te) := hK ▸ pe_atX he hb
/-- by names -/
inductive TyNm where
  | b (n : String)
  | o (n : Str)
def tyE (s : S) : Vl → Option TyNm
  | .c j => (match s.ce[j]? with
    | some (.x e) => (match e.arg with
      | some _ => some (.o e.cls)
      | none => none)
    | _ => (tyVl s (.c j)).map .b)
  | x => (tyVl s x).map .b
def fIsE (ans : TyNm → Option Bool) (f : M Vl) : M Vl := bnd f fun x => gets fun s => match tyE s x with
  | some t => match ans t with
    | some b => some (.d (.bool b))
    | none => none
  | none => none
def fAtX (f : Str) (nms : List Str) (fa : M Vl) : M Vl := bnd fa fun x => gets fun s => match x with
  | .c j => match s.ce[j]? with
    | some (.x e) => match e.arg with
      | some (g, y) => if g = f ∧ e.cls ∈ nms then some (.d y) else none
      | none => none
    | _ => none
  | _ => none
/-- what stands behind a name -/
def ExN (K : PySem.W.Frag) (mg : Str → Option Value) (nm : Str) : Prop := ∃ D, mg nm = some (.ref D) ∧ ExA K D
section
variable {mg : Str → Option Value} {W : WX}
theorem se_atX {K : PySem.W.Frag} {f : Str} {nms : List Str} {ta : TE} {fa : M Vl} (hn : ∀ nm ∈ nms, ∃ D, mg nm = some (.ref D) ∧ ExA K D ∧ PySem.W.findIn K (.ref D) f = some none) (h : SE mg W ta fa) : SE mg W (tAtX K f ta) (fAtX f nms fa) := fun B σ H Hi as s Q rp w => by
  refine h B σ H Hi as s _ rp (wp_mono (wp_bnd w) (fun x s1 w1 => ?_) fun _ _ z => z)
  intro H1 Hi1 as1 r1 e1 p1 v hv
  obtain ⟨z, q, w2⟩ := wp_gets w1
  cases hv with
  | d _ => cases q
  | @c a j ha =>
    simp only at q
    cases hc : s1.ce[j]? with
    | none => rw [hc] at q; cases q
    | some c =>
      rw [hc] at q
      cases c with
      | x e =>
        obtain ⟨cn, arg⟩ := e
        cases arg with
        | none => cases q
        | some p =>
          obtain ⟨g, y⟩ := p
          simp only at q
          split at q
          · rename_i hg
            obtain ⟨rfl, hm⟩ := hg
            cases q
            obtain ⟨cls, d, k1, k2, da, v', rfl, k4, k5⟩ := r1.cel j a _ ha hc
            obtain ⟨D, m1, m2, m3⟩ := hn _ hm
            have k2' : mg cn = some cls := k2
            rw [m1] at k2'
            cases k2'
            refine ⟨a, D, da, v', rfl, ?_, ?_, m2, m3, w2 H1 Hi1 as1 r1 e1 p1 _ (.d k5)⟩
            · exact (r1.sub _ _ k1).of_notin fun z => by obtain ⟨kv, q⟩ := r1.lkd _ z; rw [k1] at q; exact exK_dct (Option.some.inj q)
            · exact (r1.sub _ _ k4).of_notin fun z => by obtain ⟨kv, q⟩ := r1.lkd _ z; rw [k4] at q; cases q
          · cases q
      | _ => cases q
theorem se_isE {K : PySem.W.Frag} {ans : TyNm → Option Bool} {c : V} {cv : Value} {ta : TE} {fa : M Vl} (hc : ClsV c cv) (hb : ∀ n b, ans (.b n) = some b → PySem.W.kitOne K (.type n) cv = some b)
    (ho : ∀ nm b, ans (.o nm) = some b → ∃ D, mg nm = some (.ref D) ∧ ExA K D ∧ PySem.W.kitOne K (.ref D) cv = some b) (h : SE mg W ta fa) : SE mg W (tCB (rIsE2 K) (tCons ta (tCons (tC c) tNil))) (fIsE ans fa) := fun B σ H Hi as s Q rp w => by
  refine h B σ H Hi as s _ rp (wp_mono (wp_bnd w) (fun x s1 w1 => ?_) fun _ _ z => z)
  intro H1 Hi1 as1 r1 e1 p1 v hv
  obtain ⟨z, q, w2⟩ := wp_gets w1
  cases h1 : tyE s1 x with
  | none => rw [h1] at q; cases q
  | some t =>
    rw [h1] at q
    simp only at q
    cases h2 : ans t with
    | none => rw [h2] at q; cases q
    | some b =>
      rw [h2] at q
      cases q
      have bas : ∀ n, tyVl s1 x = some n → t = .b n → rIsE2 K [v, c] H1 Q := fun n hn ht => by
        subst ht
        exact ⟨v, c, .type n, cv, b, rfl, hc, .inl (r1.ty (.inr fun _ _ => trivial) hv hn), hb n b h2, w2 H1 Hi1 as1 r1 e1 p1 _ (.d (.bl b))⟩
      have viaB : (tyVl s1 x).map TyNm.b = some t → rIsE2 K [v, c] H1 Q := fun hh => by
        cases h3 : tyVl s1 x with
        | none => rw [h3] at hh; cases hh
        | some n => rw [h3] at hh; exact bas n h3 (Option.some.inj hh).symm
      cases x with
      | d y => exact viaB h1
      | c j =>
        simp only [tyE] at h1
        cases h4 : s1.ce[j]? with
        | none => rw [h4] at h1; exact viaB h1
        | some ce =>
          rw [h4] at h1
          cases ce with
          | x e =>
            obtain ⟨cn, arg⟩ := e
            cases arg with
            | none => cases h1
            | some p =>
              obtain ⟨g, y⟩ := p
              cases h1
              cases hv with
              | @c a _ ha =>
                obtain ⟨cls, d, k1, k2, da, v', rfl, k4, k5⟩ := r1.cel j a _ ha h4
                obtain ⟨D, m1, m2, m3⟩ := ho _ _ h2
                have k2' : mg cn = some cls := k2
                rw [m1] at k2'
                cases k2'
                refine ⟨.ref a, c, .ref D, cv, b, rfl, hc, .inr ⟨a, D, da, [(g, v')], rfl, rfl, ?_, ?_, m2⟩, m3, w2 H1 Hi1 as1 r1 e1 p1 _ (.d (.bl b))⟩
                · exact (r1.sub _ _ k1).of_notin fun z => by obtain ⟨kv, q⟩ := r1.lkd _ z; rw [k1] at q; exact exK_dct (Option.some.inj q)
                · exact (r1.sub _ _ k4).of_notin fun z => by obtain ⟨kv, q⟩ := r1.lkd _ z; rw [k4] at q; cases q
          | l _ => exact viaB h1
          | f _ => exact viaB h1
          | m _ => exact viaB h1
          | g => exact viaB h1
          | v _ => exact viaB h1
          | w _ => exact viaB h1
          | t _ => exact viaB h1
end
end DL

end DLsec_20

section DLsec_21
set_option maxRecDepth 100000
/-! exceptions: what the generator leans on -/
namespace DL
open PySem PySem.Spec PyProof.Rows L2
def csL (l : List (Str × Bool)) : Str → Option Bool := fun nm => l.lookup nm
def Cs (mg : Str → Option Value) (f : Value → Option Bool) (l : List (Str × Bool)) : Prop := ∀ nm b cls, csL l nm = some b → mg nm = some cls → f cls = some b
theorem cs_nil {mg : Str → Option Value} {f : Value → Option Bool} : Cs mg f [] := fun nm b cls h => by cases h
theorem cs_cons {mg : Str → Option Value} {f : Value → Option Bool} {l : List (Str × Bool)} {n : Str} {b : Bool} {c : Value} (hm : mg n = some c) (he : f c = some b) (r : Cs mg f l) : Cs mg f ((n, b) :: l) := fun nm b' cls h hc => by
  unfold csL at h
  by_cases e : nm = n
  · subst e
    simp [List.lookup] at h
    subst h
    rw [hm] at hc
    cases hc
    exact he
  · have e' : (nm == n) = false := by simpa using e
    simp only [List.lookup, e'] at h
    exact r nm b' cls h hc
theorem csL_self (n : Str) (b : Bool) (l : List (Str × Bool)) : csL ((n, b) :: l) n = some b := by simp [csL, List.lookup]
theorem csL_skip {n m : Str} (b : Bool) (l : List (Str × Bool)) (h : (n == m) = false) : csL ((m, b) :: l) n = csL l n := by simp only [csL, List.lookup, h]
def ansL (bs : List (String × Bool)) (os : List (Str × Bool)) : TyNm → Option Bool
  | .b n => bs.lookup n
  | .o n => csL os n
def AnB (K : PySem.W.Frag) (cv : Value) (bs : List (String × Bool)) : Prop := ∀ n b, bs.lookup n = some b → PySem.W.kitOne K (.type n) cv = some b
theorem anb_nil {K : PySem.W.Frag} {cv : Value} : AnB K cv [] := fun _ _ h => by cases h
theorem anb_cons {K : PySem.W.Frag} {cv : Value} {l : List (String × Bool)} {n : String} {b : Bool} (h : PySem.W.kitOne K (.type n) cv = some b) (r : AnB K cv l) : AnB K cv ((n, b) :: l) := fun nm b' q => by
  by_cases e : nm = n
  · subst e
    simp [List.lookup] at q
    subst q
    exact h
  · have e' : (nm == n) = false := by simpa using e
    simp only [List.lookup, e'] at q
    exact r nm b' q
def AnO (K : PySem.W.Frag) (mg : Str → Option Value) (cv : Value) (os : List (Str × Bool)) : Prop := ∀ nm b, csL os nm = some b → ∃ D, mg nm = some (.ref D) ∧ ExA K D ∧ PySem.W.kitOne K (.ref D) cv = some b
theorem ano_nil {K : PySem.W.Frag} {mg : Str → Option Value} {cv : Value} : AnO K mg cv [] := fun _ _ h => by cases h
theorem ano_cons {K : PySem.W.Frag} {mg : Str → Option Value} {cv : Value} {l : List (Str × Bool)} {n : Str} {b : Bool} {D : Addr} (hm : mg n = some (.ref D)) (T : ExA K D) (h : PySem.W.kitOne K (.ref D) cv = some b) (r : AnO K mg cv l) : AnO K mg cv ((n, b) :: l) := fun nm b' q => by
  by_cases e : nm = n
  · subst e
    rw [csL_self] at q
    cases q
    exact ⟨D, hm, T, h⟩
  · rw [csL_skip b l (by simpa using e)] at q
    exact r nm b' q
theorem se_isX {mg : Str → Option Value} {W : WX} {K : PySem.W.Frag} {bs : List (String × Bool)} {os : List (Str × Bool)} {c : V} {cv : Value} {ta : TE} {fa : M Vl} (hc : ClsV c cv) (hb : AnB K cv bs) (ho : AnO K mg cv os) (h : SE mg W ta fa) :
    SE mg W (tCB (rIsE2 K) (tCons ta (tCons (tC c) tNil))) (fIsE (ansL bs os) fa) := se_isE hc (fun n b q => hb n b q) (fun n b q => ho n b q) h
/-- an exception class of the text with one field -/
structure OwnEx (K : PySem.W.Frag) (mg : Str → Option Value) (nm f q : Str) (st : Stmt) where
  C : Addr
  fI : Addr
  fd : FuncData
  m : mg nm = some (.ref C)
  oc : OexC K C
  nf : PySem.W.findIn K (.ref C) f = some none
  iC : PySem.W.findIn K (.ref C) "__init__" = some (some (.ref fI))
  tI : PySem.W.typeIn K (.ref fI) = some (.type "function")
  F : Fun K "__init__" q st fI fd
  xa : ExA K C
theorem atN_nil {K : PySem.W.Frag} {mg : Str → Option Value} {f : Str} : ∀ nm ∈ ([] : List Str), ∃ D, mg nm = some (.ref D) ∧ ExA K D ∧ PySem.W.findIn K (.ref D) f = some none := fun nm h => by cases h
theorem atN_cons {K : PySem.W.Frag} {mg : Str → Option Value} {f n q : Str} {st : Stmt} {l : List Str} (O : OwnEx K mg n f q st) (r : ∀ nm ∈ l, ∃ D, mg nm = some (.ref D) ∧ ExA K D ∧ PySem.W.findIn K (.ref D) f = some none) :
    ∀ nm ∈ n :: l, ∃ D, mg nm = some (.ref D) ∧ ExA K D ∧ PySem.W.findIn K (.ref D) f = some none := fun nm h => by
  rcases List.mem_cons.mp h with rfl | h
  · exact ⟨O.C, O.m, O.xa, O.nf⟩
  · exact r nm h
section
variable {α : Type} (s : S)
theorem x_fRaise (c f : Str) (fa : M Vl) : fRaise c f fa s = bnd fa (fun x => bnd (frz x) fun y => fun s => .ex ⟨c, some (f, y)⟩ s) s := id rfl
theorem x_fTry_ok {cs : Str → Option Bool} {i j : Nat} {f : M Fl} {fl : Fl} {s' : S} (h : f s = .ok fl s') : fTry cs i j f s = .ok fl s' := by simp only [fTry, h]
theorem x_fTry_ex {cs : Str → Option Bool} {i j : Nat} {f : M Fl} {e : Ex} {s' : S} (h : f s = .ex e s') (hc : cs e.cls = some true) : fTry cs i j f s = .ok .nx ⟨((s'.sl.set i (some (.c s'.ce.length))).set j (some (.c s'.ce.length))).set i none, s'.ce ++ [.x e]⟩ := by simp only [fTry, h, hc]
end
end DL

end DLsec_21

section DLsec_22
set_option maxRecDepth 100000
/-! loops: plain facts -/
namespace DL
theorem forL_pre {k : Vl → M Unit} {b : M Fl} {xs : List D} (I : Nat → S → Prop) (step : ∀ i x s, xs[i]? = some x → I i s → ∃ s', bnd (k (.d x)) (fun _ => b) s = .ok .nx s' ∧ I (i + 1) s') (ys : List D) :
    ∀ s, I 0 s → ∃ s', forL k b (xs ++ ys) s = forL k b ys s' ∧ I xs.length s' := by
  induction xs generalizing I with
  | nil => exact fun s h => ⟨s, rfl, h⟩
  | cons x xs ih =>
    intro s h
    obtain ⟨s1, e1, h1⟩ := step 0 x s rfl h
    obtain ⟨s2, e2, h2⟩ := ih (fun i => I (i + 1)) (fun i y t hy ht => step (i + 1) y t (by simpa using hy) ht) s1 h1
    exact ⟨s2, by simp only [List.cons_append, forL, e1, e2], h2⟩
theorem forL_ex {k : Vl → M Unit} {b : M Fl} {y : D} {ys : List D} {s s' : S} {e : Ex} (h : bnd (k (.d y)) (fun _ => b) s = .ex e s') : forL k b (y :: ys) s = .ex e s' := by simp only [forL, h]
def rtO : Option Vl → Fl
  | some v => .rt v
  | none => .nx
theorem forL_find {k : Vl → M Unit} {b : M Fl} {xs : List D} (P : D → Option Vl) (I : S → Prop) (step : ∀ x ∈ xs, ∀ s, I s → ∃ s', I s' ∧ bnd (k (.d x)) (fun _ => b) s = .ok (rtO (P x)) s') :
    ∀ s, I s → ∃ s', I s' ∧ forL k b xs s = .ok (rtO (xs.findSome? P)) s' := by
  induction xs with
  | nil => exact fun s h => ⟨s, h, rfl⟩
  | cons x xs ih =>
    intro s h
    obtain ⟨s1, h1, e1⟩ := step x List.mem_cons_self s h
    cases hp : P x with
    | some v =>
      rw [hp] at e1
      exact ⟨s1, h1, by simp only [forL, e1, rtO, List.findSome?_cons, hp]⟩
    | none =>
      rw [hp] at e1
      obtain ⟨s2, h2, e2⟩ := ih (fun y hy => step y (List.mem_cons_of_mem _ hy)) s1 h1
      exact ⟨s2, h2, by simp only [forL, e1, rtO, List.findSome?_cons, hp]; exact e2⟩
theorem find_filter {α β : Type} (q : α → Bool) (f : α → β) (xs : List α) : xs.findSome? (fun x => if q x = true then some (f x) else none) = (xs.filter q).head?.map f := by
  induction xs with
  | nil => rfl
  | cons x xs ih =>
    by_cases h : q x = true
    · simp [h]
    · simp only [Bool.not_eq_true] at h
      simp only [List.findSome?_cons, h, List.filter_cons, ih, Bool.false_eq_true, if_false]
theorem fFor_ok {fi : M (List D)} {k : Vl → M Unit} {b : M Fl} {s s1 : S} {xs : List D} {r : R Fl} (h1 : fi s = .ok xs s1) (h2 : forL k b xs s1 = r) : fFor fi k b s = r := by simp only [fFor, bnd, h1, h2]
theorem rng_get (lo : Int) (n i : Nat) : (rng lo n)[i]? = if i < n then some (.int (lo + i)) else none := by
  unfold rng
  rw [List.getElem?_map]
  by_cases h : i < n
  · simp [h]
  · simp [h, List.getElem?_eq_none (show (List.range n).length ≤ i by simp; omega)]
theorem mem_rng {lo : Int} {n : Nat} {x : D} (h : x ∈ rng lo n) : ∃ i : Nat, i < n ∧ x = .int (lo + i) := by
  unfold rng at h
  obtain ⟨i, hi, rfl⟩ := List.mem_map.mp h
  exact ⟨i, by simpa using hi, rfl⟩
theorem bnd_int {i a : Int} (h0 : -a ≤ i) (h1 : i ≤ a) (ha : a ≤ 1000000000) : -1000000000 ≤ i ∧ i ≤ 1000000000 := by omega
theorem bnd_nat {n : Nat} (h : n ≤ 1000000) : -1000000000 ≤ (n : Int) ∧ (n : Int) ≤ 1000000000 := by
  have h1 : (n : Int) ≤ 1000000 := by omega
  have h0 : (0 : Int) ≤ n := by omega
  exact bnd_int (a := 1000000) (by omega) h1 (by decide)
theorem bnd_nat1 {n : Nat} (h : n ≤ 1000000) : -1000000000 ≤ (n : Int) + 1 ∧ (n : Int) + 1 ≤ 1000000000 := by
  have h1 : (n : Int) + 1 ≤ 1000001 := by omega
  have h0 : (0 : Int) ≤ (n : Int) + 1 := by omega
  exact bnd_int (a := 1000001) (by omega) h1 (by decide)
theorem rng1_of {fa : M Vl} {s s1 : S} {j : Int} {n : Nat} (h : fa s = .ok (.d (.int j)) s1) (hb : -1000000000 ≤ j ∧ j ≤ 1000000000) (hn : j.toNat = n) : fRng1 (fCons fa fNil) s = .ok (rng 0 n) s1 := by
  subst hn
  simp only [fRng1, fCons, fNil, bnd, h, ret, if_pos hb]
theorem rng2_of {fa fb : M Vl} {s s1 s2 : S} {i j : Int} {n : Nat} (h : fa s = .ok (.d (.int i)) s1) (h2 : fb s1 = .ok (.d (.int j)) s2) (hb : (-1000000000 ≤ i ∧ i ≤ 1000000000) ∧ -1000000000 ≤ j ∧ j ≤ 1000000000) (hn : (j - i).toNat = n) : fRng2 (fCons fa (fCons fb fNil)) s = .ok (rng i n) s2 := by
  subst hn
  simp only [fRng2, fCons, fNil, bnd, h, h2, ret, if_pos hb]
theorem len_var {i : Nat} {s : S} {xs : List D} (h : s.sl[i]? = some (some (.d (.list xs)))) : (fCall oLenG (fCons (fVar i) fNil)) s = .ok (.d (.int xs.length)) s := by
  simp only [fCall, fCons, fNil, bnd, fVar, h, ret, gets, oLenG, orA, oLen, datL, dat]
end DL

end DLsec_22

section DLsec_23
set_option maxRecDepth 100000
/-! more built-ins: min, max, all, any; in; chains; n copies -/
namespace DL
open PySem PySem.Spec PyProof.Rows L2
/-! ### min, max of two -/
def oI2 (g : Int → Int → Int) : OA Vl := fun xs _ => match xs with
  | [.d (.int i), .d (.int j)] => some (.d (.int (g i j)))
  | _ => none
theorem oI2_inv {Hi : Hp} {as : List Addr} {s : S} {g : Int → Int → Int} {xs : List Vl} {vs : List V} {z : Vl} (hv : RelVls Hi as vs xs) (e : oI2 g xs s = some z) : ∃ i j : Int, vs = [.int i, .int j] ∧ z = .d (.int (g i j)) := by
  cases hv with
  | nil => cases e
  | cons a1 a2 =>
    cases a2 with
    | nil => cases a1 with
      | c _ => cases e
      | d q => cases q <;> cases e
    | cons b1 b2 =>
      cases b2 with
      | cons _ _ => cases a1 with
        | c _ => cases e
        | d q => cases q <;> first | (cases e; done) | (cases b1 with
          | c _ => cases e
          | d q' => cases q' <;> cases e)
      | nil => cases a1 with
        | c _ => cases e
        | d q => cases q <;> first | (cases e; done) | (cases b1 with
          | c _ => cases e
          | d q' => cases q' <;> first | (cases e; done) | (cases e; exact ⟨_, _, rfl, rfl⟩))
abbrev oMin2 : OA Vl := oI2 fun i j => if j < i then j else i
abbrev oMax2 : OA Vl := oI2 fun i j => if j > i then j else i
theorem ca_min2 : CaS (fun xs H Q => ∃ i j, xs = [.int i, .int j] ∧ Q (.int (if j < i then j else i)) H) oMin2 := fun B σ H Hi as s xs z vs Q rp hv e q => by
  obtain ⟨i, j, rfl, rfl⟩ := oI2_inv hv e
  exact ⟨i, j, rfl, q.now rp (.d (.int _))⟩
theorem ca_max2 : CaS (fun xs H Q => ∃ i j, xs = [.int i, .int j] ∧ Q (.int (if j > i then j else i)) H) oMax2 := fun B σ H Hi as s xs z vs Q rp hv e q => by
  obtain ⟨i, j, rfl, rfl⟩ := oI2_inv hv e
  exact ⟨i, j, rfl, q.now rp (.d (.int _))⟩
/-! ### a list of ints at hand -/
def intsA (s : S) : List Vl → Option (List Int)
  | [x] => match datL s x with
    | some ys => intsOf ys
    | none => none
  | _ => none
theorem Rep.intsA {mg : Str → Option Value} {B : Bd mg} {σ : St} {H Hi : Hp} {as : List Addr} {s : S} (rp : Rep B σ H Hi as s) {xs : List Vl} {vs : List V} {ns : List Int} (hv : RelVls Hi as vs xs) (e : DL.intsA s xs = some ns) : ∃ a, vs = [.ref a] ∧ H a = some (.lst (ns.map V.int)) := by
  cases hv with
  | nil => cases e
  | cons a1 a2 =>
    cases a2 with
    | cons _ _ => cases e
    | nil =>
      rename_i v x
      simp only [DL.intsA] at e
      cases h1 : DL.datL s x with
      | none => rw [h1] at e; cases e
      | some ys =>
        rw [h1] at e
        have hy := intsOf_inv e
        subst hy
        obtain ⟨a, ws, rfl, ha, da⟩ := rp.datL a1 h1
        have hw := da.ints_inv
        subst hw
        exact ⟨a, rfl, ha⟩
def oMinL : OA Vl := fun xs s => match intsA s xs with
  | some ns => ns.min?.map fun m => .d (.int m)
  | none => none
def oMaxL : OA Vl := fun xs s => match intsA s xs with
  | some ns => ns.max?.map fun m => .d (.int m)
  | none => none
theorem min_iff {ns : List Int} {m : Int} (h : ns.min? = some m) : m ∈ ns ∧ ∀ y ∈ ns, m ≤ y := List.min?_eq_some_iff.mp h
theorem max_iff {ns : List Int} {m : Int} (h : ns.max? = some m) : m ∈ ns ∧ ∀ y ∈ ns, y ≤ m := List.max?_eq_some_iff.mp h
theorem ca_minL {K : PySem.W.Frag} : CaS (rMin K) oMinL := fun B σ H Hi as s xs z vs Q rp hv e q => by
  unfold oMinL at e
  cases h : intsA s xs with
  | none => rw [h] at e; cases e
  | some ns =>
    rw [h] at e
    obtain ⟨a, rfl, ha⟩ := rp.intsA hv h
    cases hm : ns.min? with
    | none => simp [hm] at e
    | some m =>
      simp [hm] at e
      subst e
      obtain ⟨h1, h2⟩ := min_iff hm
      refine ⟨a, ns, rfl, .inl (.inl ha), List.length_pos_of_mem h1, fun m' h3 h4 => ?_⟩
      have : m' = m := Int.le_antisymm (h4 m h1) (h2 m' h3)
      subst this
      exact q.now rp (.d (.int _))
theorem ca_maxL {K : PySem.W.Frag} : CaS (rMax K) oMaxL := fun B σ H Hi as s xs z vs Q rp hv e q => by
  unfold oMaxL at e
  cases h : intsA s xs with
  | none => rw [h] at e; cases e
  | some ns =>
    rw [h] at e
    obtain ⟨a, rfl, ha⟩ := rp.intsA hv h
    cases hm : ns.max? with
    | none => simp [hm] at e
    | some m =>
      simp [hm] at e
      subst e
      obtain ⟨h1, h2⟩ := max_iff hm
      refine ⟨a, ns, rfl, .inl (.inl ha), List.length_pos_of_mem h1, fun m' h3 h4 => ?_⟩
      have : m' = m := Int.le_antisymm (h2 m' h3) (h4 m h1)
      subst this
      exact q.now rp (.d (.int _))
/-! ### all, any of bools -/
def boolsOf : List D → Option (List Bool)
  | [] => some []
  | .bool i :: xs => (boolsOf xs).map (i :: ·)
  | _ => none
theorem boolsOf_map : ∀ ns : List Bool, boolsOf (ns.map PyData.bool) = some ns
  | [] => rfl
  | n :: ns => by simp [boolsOf, boolsOf_map ns]
theorem boolsOf_inv {Hi : Hp} : ∀ {xs : List D} {ns : List Bool} {vs : List V}, boolsOf xs = some ns → DqA Hi vs xs → vs = ns.map V.bl
  | [], ns, vs, h, d => by cases h; cases d; rfl
  | x :: xs, ns, vs, h, d => by
    cases d with
    | cons d1 d2 =>
      cases d1 with
      | bl b =>
        simp only [boolsOf] at h
        cases k : boolsOf xs with
        | none => rw [k] at h; cases h
        | some ms => rw [k] at h; cases h; rw [boolsOf_inv k d2]; rfl
      | _ => simp [boolsOf] at h
def oBools (g : List Bool → Bool) : OA Vl := fun xs s => match xs with
  | [x] => match datL s x with
    | some ys => (boolsOf ys).map fun bs => .d (.bool (g bs))
    | none => none
  | _ => none
theorem oBools_inv {mg : Str → Option Value} {B : Bd mg} {σ : St} {H Hi : Hp} {as : List Addr} {s : S} (rp : Rep B σ H Hi as s) {g : List Bool → Bool} {xs : List Vl} {vs : List V} {z : Vl} (hv : RelVls Hi as vs xs) (e : oBools g xs s = some z) : ∃ a bs, vs = [.ref a] ∧ H a = some (.lst (bs.map V.bl)) ∧ z = .d (.bool (g bs)) := by
  cases hv with
  | nil => cases e
  | cons a1 a2 =>
    cases a2 with
    | cons _ _ => cases e
    | nil =>
      rename_i v x
      simp only [oBools] at e
      cases h1 : datL s x with
      | none => rw [h1] at e; cases e
      | some ys =>
        rw [h1] at e
        simp only at e
        cases h2 : boolsOf ys with
        | none => rw [h2] at e; cases e
        | some bs =>
          rw [h2] at e
          cases e
          obtain ⟨a, ws, rfl, ha, da⟩ := rp.datL a1 h1
          have hw := boolsOf_inv h2 da
          subst hw
          exact ⟨a, bs, rfl, ha, rfl⟩
abbrev oAll : OA Vl := oBools fun bs => bs.all id
abbrev oAny : OA Vl := oBools fun bs => bs.any id
theorem ca_all {K : PySem.W.Frag} : CaS (rAll K) oAll := fun B σ H Hi as s xs z vs Q rp hv e q => by
  obtain ⟨a, bs, rfl, ha, rfl⟩ := oBools_inv rp hv e
  exact ⟨a, bs, rfl, .inl (.inl ha), q.now rp (.d (.bl _))⟩
theorem ca_any {K : PySem.W.Frag} : CaS (rAny K) oAny := fun B σ H Hi as s xs z vs Q rp hv e q => by
  obtain ⟨a, bs, rfl, ha, rfl⟩ := oBools_inv rp hv e
  exact ⟨a, bs, rfl, .inl (.inl ha), q.now rp (.d (.bl _))⟩
/-! ### in -/
def oInD (neg : Bool) : O2 Vl := fun x y s => match dat s x, dat s y with
  | some a, some (.list ds) => if (okE a && okE (.list ds)) = true then some (.d (.bool (if neg then !ds.any fun z => PyData.eqv z a else ds.any fun z => PyData.eqv z a))) else none
  | _, _ => none
theorem oInD_inv {K : PySem.W.Frag} {mg : Str → Option Value} {B : Bd mg} {σ : St} {H Hi : Hp} {as : List Addr} {s : S} (rp : Rep B σ H Hi as s) {neg : Bool} {x y z : Vl} {u v : V} (hu : RelVl Hi as u x) (hv : RelVl Hi as v y) (e : oInD neg x y s = some z) :
    ∃ d ds, Dp K H u d ∧ Dp K H v (.list ds) ∧ SeqAt.shaped d = true ∧ SeqAt.shaped (.list ds) = true ∧ z = .d (.bool (if neg then !ds.any fun z => PyData.eqv z d else ds.any fun z => PyData.eqv z d)) := by
  unfold oInD at e
  cases h1 : dat s x with
  | none => rw [h1] at e; cases e
  | some a =>
    cases h2 : dat s y with
    | none => rw [h1, h2] at e; cases e
    | some b =>
      rw [h1, h2] at e
      cases b with
      | list ds =>
        simp only at e
        split at e
        · rename_i hn
          cases e
          simp only [okE, Bool.and_eq_true] at hn
          exact ⟨a, ds, rp.dpV hu h1 hn.1.1, rp.dpV hv h2 hn.2.1, hn.1.2, hn.2.2, rfl⟩
        · cases e
      | _ => cases e
theorem os_inD {K : PySem.W.Frag} : OpS (rInD K) (oInD false) := fun B σ H Hi as s x y z u v Q rp hu hv e q => by
  obtain ⟨d, ds, h1, h2, h3, h4, rfl⟩ := oInD_inv (K := K) rp hu hv e
  exact ⟨d, ds, h1, h2, h3, h4, q.now rp (.d (.bl _))⟩
theorem os_notInD {K : PySem.W.Frag} : OpS (rNotInD K) (oInD true) := fun B σ H Hi as s x y z u v Q rp hu hv e q => by
  obtain ⟨d, ds, h1, h2, h3, h4, rfl⟩ := oInD_inv (K := K) rp hu hv e
  exact ⟨d, ds, h1, h2, h3, h4, q.now rp (.d (.bl _))⟩
/-- a sign in a text -/
def oInSg (neg : Bool) : O2 Vl
  | .d (.str x), .d (.str z), _ => match x.cps.toList with
    | [c] => some (.d (.bool (if neg then !decide (c ∈ z.cps.toList) else decide (c ∈ z.cps.toList))))
    | _ => none
  | _, _, _ => none
theorem oInSg_inv {Hi : Hp} {as : List Addr} {s : S} {neg : Bool} {x y z : Vl} {u v : V} (hu : RelVl Hi as u x) (hv : RelVl Hi as v y) (e : oInSg neg x y s = some z) :
    ∃ (c : Nat) (t : Str), u = .str ⟨#[c]⟩ ∧ v = .str t ∧ z = .d (.bool (if neg then !decide (c ∈ t.cps.toList) else decide (c ∈ t.cps.toList))) := by
  cases hu with
  | c _ => cases e
  | d q =>
    cases hv with
    | c _ => cases q <;> cases e
    | d q' =>
      cases q <;> cases q' <;> first | (cases e; done) | skip
      rename_i a b
      simp only [oInSg] at e
      split at e
      · rename_i c hc
        cases e
        obtain ⟨⟨l⟩⟩ := a
        simp at hc
        subst hc
        exact ⟨c, b, rfl, rfl, rfl⟩
      · cases e
theorem os_inS : OpS (fun x y H Q => ∃ (c : Nat) (z : Str), x = .str ⟨#[c]⟩ ∧ y = .str z ∧ Q (.bl (decide (c ∈ z.cps.toList))) H) (oInSg false) := fun B σ H Hi as s x y z u v Q rp hu hv e q => by
  obtain ⟨c, t, rfl, rfl, rfl⟩ := oInSg_inv hu hv e
  exact ⟨c, t, rfl, rfl, q.now rp (.d (.bl _))⟩
theorem os_notInS : OpS (fun x y H Q => ∃ (c : Nat) (z : Str), x = .str ⟨#[c]⟩ ∧ y = .str z ∧ Q (.bl (!decide (c ∈ z.cps.toList))) H) (oInSg true) := fun B σ H Hi as s x y z u v Q rp hu hv e q => by
  obtain ⟨c, t, rfl, rfl, rfl⟩ := oInSg_inv hu hv e
  exact ⟨c, t, rfl, rfl, q.now rp (.d (.bl _))⟩
abbrev oIn : O2 Vl := orO (oInD false) (oInSg false)
abbrev oNotIn : O2 Vl := orO (oInD true) (oInSg true)
theorem os_in {K : PySem.W.Frag} : OpS (fun x y H Q => rInD K x y H Q ∨ ∃ (c : Nat) (z : Str), x = .str ⟨#[c]⟩ ∧ y = .str z ∧ Q (.bl (decide (c ∈ z.cps.toList))) H) oIn := ops_or os_inD os_inS
theorem os_notIn {K : PySem.W.Frag} : OpS (fun x y H Q => rNotInD K x y H Q ∨ ∃ (c : Nat) (z : Str), x = .str ⟨#[c]⟩ ∧ y = .str z ∧ Q (.bl (!decide (c ∈ z.cps.toList))) H) oNotIn := ops_or os_notInD os_notInS
/-! ### n copies -/
theorem DqA.rep {H : Hp} {vs : List V} {xs : List D} (h : DqA H vs xs) : ∀ n, DqA H (List.replicate n vs).flatten (List.replicate n xs).flatten
  | 0 => .nil
  | n + 1 => by
    simp only [List.replicate_succ, List.flatten_cons]
    exact h.append (h.rep n)
theorem of_rep : OpF rRep oRep := fun B σ H Hi as s x y z u v Q rp hu hv e q => by
  unfold oRep at e
  cases h1 : datL s x with
  | none => rw [h1] at e; cases e
  | some xs =>
    rw [h1] at e
    cases hv with
    | c _ => cases e
    | d q' =>
      cases q' with
      | int k =>
        simp only at e
        split at e
        · rename_i hn
          cases e
          obtain ⟨a, vs, rfl, ha, da⟩ := rp.datL hu h1
          exact ⟨a, k, vs, rfl, rfl, ha, by omega, by omega, by rw [da.length]; exact le_line hn.2.2, fun p hp => q.now rp hp (da.rep _)⟩
        · cases e
      | _ => cases e
abbrev oRepD : O2 Vl := datO oRep
theorem os_rep : OpS rRep oRepD := ops_dat of_rep
abbrev oMulG : O2 Vl := orO oMul oRepD
theorem op_mulG {X : Cx} : OpR X (binaryOp .Mult) (fun x y H Q => (rI CMul fun i j => .int (i * j)) x y H Q ∨ rRep x y H Q) := op_mul.or op_rep
theorem os_mulG : OpS (fun x y H Q => (rI CMul fun i j => .int (i * j)) x y H Q ∨ rRep x y H Q) oMulG := ops_or os_mul os_rep
/-! ### a < b < c -/
def fChain (o o' : O2 Vl) (fa fb fc : M Vl) : M Vl := bnd fa fun x => bnd fb fun y => bnd (gets (o x y)) fun z => bnd (asB z) fun k => if k = true then bnd fc fun w => gets (o' y w) else ret (.d (.bool false))
section
variable {mg : Str → Option Value} {W : WX} {B : Bd mg} {σ : St} {H Hi : Hp} {as : List Addr} {s : S}
variable {ta tb tc : TE} {fa fb fc : M Vl}
theorem se_chain {r r' : R2} {o o' : O2 Vl} (ho : OpS r o) (ho' : OpS r' o') (ha : SE mg W ta fa) (hb : SE mg W tb fb) (hc : SE mg W tc fc) : SE mg W (tChain r r' ta tb tc) (fChain o o' fa fb fc) := fun B σ H Hi as s Q rp w => by
  refine ha B σ H Hi as s _ rp (wp_mono (wp_bnd w) (fun x s1 w1 => ?_) fun _ _ z => z)
  intro H1 Hi1 as1 r1 e1 p1 u hu
  refine hb B σ H1 Hi1 as1 s1 _ r1 (wp_mono (wp_bnd w1) (fun y s2 w2 => ?_) fun e s' z => XW.mono z e1 p1)
  intro H2 Hi2 as2 r2 e2 p2 v hv
  obtain ⟨z, q, w3⟩ := wp_gets (wp_bnd w2)
  refine ho B σ H2 Hi2 as2 s2 x y z u v _ r2 (hu.mono e2 p2) hv q fun H3 Hi3 r3 e3 z' hz => ?_
  obtain ⟨k, rfl, w4⟩ := wp_asB hz (wp_bnd w3)
  refine ⟨k, rfl, ?_⟩
  have E := (e1.trans e2).trans e3
  have P := p1.trans p2
  cases k with
  | false => exact w4 H3 Hi3 as2 r3 E P _ (.d (.bl _))
  | true =>
    simp only [if_true] at w4 ⊢
    refine hc B σ H3 Hi3 as2 s2 _ r3 (wp_mono (wp_bnd w4) (fun t s4 w5 => ?_) fun e s' z => XW.mono z E P)
    intro H4 Hi4 as4 r4 e4 p4 w' hw
    obtain ⟨z2, q2, w6⟩ := wp_gets w5
    exact ho' B σ H4 Hi4 as4 s4 y t z2 v w' Q r4 (hv.mono (e3.trans e4) p4) hw q2 fun H' Hi' r' e' => w6 H' Hi' as4 r' ((E.trans e4).trans e') (P.trans p4)
end
theorem x_fChain (o o' : O2 Vl) (fa fb fc : M Vl) (s : S) : fChain o o' fa fb fc s = bnd fa (fun x => bnd fb fun y => bnd (gets (o x y)) fun z => bnd (asB z) fun k => if k = true then bnd fc fun w => gets (o' y w) else DL.ret (.d (.bool false))) s := id rfl
section
variable {X : Cx} {K : PySem.W.Frag}
theorem _root_.L2.Room.units65 {k : Nat} {A : Around} (r : Room k A) : A.units + 65 < cLine := by have := r.un; omega
theorem inK (hu : X.A.units + 65 < cLine) (hK : X.K = K := by rfl) : OpR X (compareOp .In) (fun x y H Q => rInD K x y H Q ∨ ∃ (c : Nat) (z : Str), x = .str ⟨#[c]⟩ ∧ y = .str z ∧ Q (.bl (decide (c ∈ z.cps.toList))) H) := (hK ▸ op_inD hu).or op_in_sign
theorem notInK (hu : X.A.units + 65 < cLine) (hK : X.K = K := by rfl) : OpR X (compareOp .NotIn) (fun x y H Q => rNotInD K x y H Q ∨ ∃ (c : Nat) (z : Str), x = .str ⟨#[c]⟩ ∧ y = .str z ∧ Q (.bl (!decide (c ∈ z.cps.toList))) H) := (hK ▸ op_notInD hu).or op_notIn_sign
theorem minLK (hc : X.calm = true) (hK : X.K = K := by rfl) : CallR X (.builtin "min") (rMin K) := hK ▸ cr_min hc
theorem maxLK (hc : X.calm = true) (hK : X.K = K := by rfl) : CallR X (.builtin "max") (rMax K) := hK ▸ cr_max hc
theorem allK (hc : X.calm = true) (hK : X.K = K := by rfl) : CallR X (.builtin "all") (rAll K) := hK ▸ cr_all hc
theorem anyK (hc : X.calm = true) (hK : X.K = K := by rfl) : CallR X (.builtin "any") (rAny K) := hK ▸ cr_any hc
end
end DL

end DLsec_23

section DLsec_24
set_option maxRecDepth 100000
/-! lists of lists that change, dicts of lists that change -/
namespace DL
open PySem PySem.Spec PyProof.Rows L2
def fCellV (f : M (List D)) : M Vl := bnd f fun xs s => .ok (.c s.ce.length) { s with ce := s.ce ++ [.v (xs.map .d)] }
def needV (x : Vl) : M Unit := fun s => match x with
  | .c j => match s.ce[j]? with
    | some (.v _) => .ok () s
    | _ => .no
  | _ => .no
def upV (x y : Vl) : M Vl := fun s => match x with
  | .c j => match s.ce[j]? with
    | some (.v xs) => if xs.length < 1000000 then .ok (.d .none) { s with ce := s.ce.set j (.v (xs ++ [y])) } else .no
    | _ => .no
  | _ => .no
def fAppV (fo fa : M Vl) : M Vl := bnd fo fun x => bnd (needV x) fun _ => bnd fa fun y => upV x y
def oIxV : O2 Vl := fun x y s => match x, y with
  | .c j, .d (.int i) => match s.ce[j]? with
    | some (.v xs) => atI xs i
    | _ => none
  | _, _ => none
theorem dqa_rel {Hi : Hp} {as : List Addr} : ∀ {vs : List V} {xs : List D}, DqA Hi vs xs → Paired (RelVl Hi as) vs (xs.map .d)
  | _, _, .nil => .nil
  | _, _, .cons h r => .cons (.d h) (dqa_rel r)
theorem paired_app {α β : Type} {F : α → β → Prop} : ∀ {l l' : List α} {m m' : List β}, Paired F l m → Paired F l' m' → Paired F (l ++ l') (m ++ m')
  | _, _, _, _, .nil, h => h
  | _, _, _, _, .cons a r, h => .cons a (paired_app r h)
section
variable {mg : Str → Option Value} {W : WX} {B : Bd mg} {σ : St} {H Hi : Hp} {as : List Addr} {s : S}
variable {ta tb tc te : TE} {fa fb fc fe : M Vl}
theorem se_cellV {f : M (List D)} (h : SF mg W ta f) : SE mg W ta (fCellV f) := fun B σ H Hi as s Q rp w => by
  refine h B σ H Hi as s _ rp (wp_mono (wp_bnd w) (fun xs s1 w1 => ?_) fun _ _ z => z)
  intro H1 Hi1 as1 r1 e1 p1 p vs hp hd
  refine w1 _ _ _ (r1.addC (c := .v (xs.map .d)) hp rfl ⟨r1.fresh hp, vs, upd_same, dqa_rel hd⟩) e1 (p1.trans (List.prefix_append _ _)) _ (.c ?_)
  rw [← r1.lea, List.getElem?_append_right (Nat.le_refl _), Nat.sub_self]
  rfl
theorem wp_needV {x : Vl} {v : V} {P : Unit → S → Prop} {E : Ex → S → Prop} {K : PySem.W.Frag} (r : Rep B σ H Hi as s) (h : RelVl Hi as v x) (w : wpR (needV x s) P E) : P () s ∧ tyV K "list" v H := by
  cases h with
  | d _ => exact w.elim
  | @c a j q =>
    simp only [needV] at w
    cases hc : s.ce[j]? with
    | none => rw [hc] at w; exact w.elim
    | some c =>
      rw [hc] at w
      cases c with
      | v xs =>
        obtain ⟨_, vs, h1, h2⟩ := r.cel j a _ q hc
        exact ⟨w, .inl ⟨rfl, vs, .inl (.inl h1)⟩⟩
      | _ => exact w.elim
theorem se_appV {K : PySem.W.Frag} (ho : SE mg W ta fa) (hb : SE mg W tb fb) : SE mg W (tBM K "list" rAppend ta (tCons tb tNil)) (fAppV fa fb) := fun B σ H Hi as s Q rp w => by
  refine ho B σ H Hi as s _ rp (wp_mono (wp_bnd w) (fun x s1 w1 => ?_) fun _ _ z => z)
  intro H1 Hi1 as1 r1 e1 p1 v hv
  obtain ⟨w2, ty⟩ := wp_needV (K := K) r1 hv (wp_bnd w1)
  refine ⟨ty, hb B σ H1 Hi1 as1 s1 _ r1 (wp_mono (wp_bnd w2) (fun y s2 w3 => ?_) fun e s' z => XW.mono z e1 p1)⟩
  intro H2 Hi2 as2 r2 e2 p2 u hu
  have hv2 := hv.mono e2 p2
  cases hv2 with
  | d _ => exact w3.elim
  | @c a j q =>
    simp only [upV] at w3
    cases hc : s2.ce[j]? with
    | none => rw [hc] at w3; exact w3.elim
    | some c =>
      rw [hc] at w3
      cases c with
      | v xs =>
        simp only at w3
        split at w3
        · rename_i hn
          obtain ⟨hnn, vs, h1, h2⟩ := r2.cel j a _ q hc
          refine ⟨a, vs, u, rfl, rfl, h1, by rw [Paired.length h2]; exact lt_line hn, ?_⟩
          exact w3 _ Hi2 as2 (r2.mut q hc rfl rfl (c' := .v (xs ++ [y])) ⟨hnn, vs ++ [u], upd_same, paired_app h2 (.cons hu .nil)⟩) (e1.trans e2) (p1.trans p2) _ (.d .non)
        · exact w3.elim
      | _ => exact w3.elim
theorem paired_atI {α β : Type} {F : α → β → Prop} {l : List α} {m : List β} {i : Int} {y : β} (h : Paired F l m) (e : atI m i = some y) : ∃ x, atI l i = some x ∧ F x y := by
  unfold L2.atI at e ⊢
  rw [Paired.length h]
  cases k : ixN m.length i with
  | none => rw [k] at e; cases e
  | some j => rw [k] at e; exact paired_get h e
end
theorem os_ixV {K : PySem.W.Frag} : OpS (rIx K) oIxV := fun B σ H Hi as s x y z u v Q rp hu hv e q => by
  cases hu with
  | d _ => cases e
  | @c a j ha =>
    cases hv with
    | c _ => cases e
    | d q' =>
      cases q' with
      | int i =>
        simp only [oIxV] at e
        cases hc : s.ce[j]? with
        | none => rw [hc] at e; cases e
        | some c =>
          rw [hc] at e
          cases c with
          | v xs =>
            obtain ⟨_, vs, h1, h2⟩ := rp.cel j a _ ha hc
            obtain ⟨x, k1, k2⟩ := paired_atI h2 e
            exact .inl ⟨a, vs, i, x, rfl, rfl, .inl (.inl h1), k1, q.now rp k2⟩
          | _ => cases e
      | _ => cases e
/-! ### dicts -/
def keyD : D → Option Key
  | .int i => some (.inl i)
  | .str x => some (.inr x)
  | _ => none
def valW {α : Type} (kvs : List (Key × α)) (k : Key) : Option α := (kvs.find? fun p => decide (p.1 = k)).map (·.2)
def fDNew : M Vl := fun s => .ok (.c s.ce.length) { s with ce := s.ce ++ [.w []] }
def needW (x : Vl) : M Unit := fun s => match x with
  | .c j => match s.ce[j]? with
    | some (.w _) => .ok () s
    | _ => .no
  | _ => .no
/-- d.setdefault(k, []) -/
def setdL (x y : Vl) : M Vl := fun s => match x, y with
  | .c j, .d y => match s.ce[j]?, keyD y with
    | some (.w kvs), some k => if kvs.length < 1000000 then (match valW kvs k with
      | some v => .ok v s
      | none => .ok (.c s.ce.length) { s with ce := s.ce.set j (.w (kvs ++ [(k, .c s.ce.length)])) ++ [.l []] }) else .no
    | _, _ => .no
  | _, _ => .no
def fSetdL (fo fk : M Vl) : M Vl := bnd fo fun x => bnd (needW x) fun _ => bnd fk fun y => setdL x y
theorem paired_valV {Hi : Hp} {as : List Addr} {k : Key} : ∀ {vs : List (Key × V)} {kvs : List (Key × Vl)}, Paired (PairK Hi as) vs kvs → (valV vs k = none ∧ valW kvs k = none) ∨ ∃ v x, valV vs k = some v ∧ valW kvs k = some x ∧ RelVl Hi as v x
  | _, _, .nil => .inl ⟨rfl, rfl⟩
  | _, _, .cons (a := p) (b := q) hp r => by
    by_cases e : p.1 = k
    · refine .inr ⟨p.2, q.2, valV_pos e, ?_, hp.2⟩
      have e2 : q.1 = k := hp.1 ▸ e
      simp [valW, e2]
    · rw [valV_neg e]
      have e2 : ¬ q.1 = k := hp.1 ▸ e
      have ih := paired_valV (k := k) r
      simpa [valW, e2] using ih
section
variable {mg : Str → Option Value} {W : WX} {B : Bd mg} {σ : St} {H Hi : Hp} {as : List Addr} {s : S}
variable {ta tb tc te : TE} {fa fb fc fe : M Vl}
theorem se_dnew : SE mg W tDNewK fDNew := fun B σ H Hi as s Q rp w p hp => by
  refine w _ _ _ (rp.addC (c := .w []) hp rfl ⟨rp.fresh hp, [], upd_same, .nil⟩) (Same.refl _) (List.prefix_append _ _) _ (.c ?_)
  rw [← rp.lea, List.getElem?_append_right (Nat.le_refl _), Nat.sub_self]
  rfl
theorem wp_needW {x : Vl} {v : V} {P : Unit → S → Prop} {E : Ex → S → Prop} (r : Rep B σ H Hi as s) (h : RelVl Hi as v x) (w : wpR (needW x s) P E) : P () s ∧ ∃ a, v = .ref a ∧ IsD H a := by
  cases h with
  | d _ => exact w.elim
  | @c a j q =>
    simp only [needW] at w
    cases hc : s.ce[j]? with
    | none => rw [hc] at w; exact w.elim
    | some c =>
      rw [hc] at w
      cases c with
      | w kvs =>
        obtain ⟨_, vs, h1, h2⟩ := r.cel j a _ q hc
        exact ⟨w, a, rfl, .inl ⟨vs, .inl h1⟩⟩
      | _ => exact w.elim
theorem keyD_inv {Hi : Hp} {v : V} {y : D} {k : Key} (h : Dq Hi v y) (e : keyD y = some k) : v = kV k := by
  cases h with
  | int i => cases e; rfl
  | str x => cases e; rfl
  | _ => cases e
theorem se_setdL (ho : SE mg W ta fa) (hb : SE mg W tb fb) : SE mg W (tDSetd ta tb (tLst tNil)) (fSetdL fa fb) := fun B σ H Hi as s Q rp w => by
  refine ho B σ H Hi as s _ rp (wp_mono (wp_bnd w) (fun x s1 w1 => ?_) fun _ _ z => z)
  intro H1 Hi1 as1 r1 e1 p1 v hv
  obtain ⟨w2, a, rfl, isd⟩ := wp_needW r1 hv (wp_bnd w1)
  refine ⟨a, rfl, isd, hb B σ H1 Hi1 as1 s1 _ r1 (wp_mono (wp_bnd w2) (fun y s2 w3 => ?_) fun e s' z => XW.mono z e1 p1)⟩
  intro H2 Hi2 as2 r2 e2 p2 u hu
  refine ⟨by show 0 ≤ sizeLine; exact Nat.zero_le _, fun p hp => ?_⟩
  have hv2 := hv.mono e2 p2
  cases hv2 with
  | d _ => exact w3.elim
  | @c a j q =>
    cases hu with
    | c _ => exact w3.elim
    | d hy =>
      simp only [setdL] at w3
      cases hc : s2.ce[j]? with
      | none => rw [hc] at w3; exact w3.elim
      | some c =>
        rw [hc] at w3
        cases c with
        | w kvs =>
          rename_i yd
          cases hk : keyD yd with
          | none => rw [hk] at w3; exact w3.elim
          | some k =>
            rw [hk] at w3
            simp only at w3
            split at w3
            case isFalse => exact w3.elim
            case isTrue hn =>
            obtain ⟨hnn, vs, h1, h2⟩ := r2.cel j a _ q hc
            have hpa : a ≠ p := ne_of_none h1 hp
            have hu := keyD_inv hy hk
            refine ⟨vs, k, by rw [upd_ne hpa]; exact h1, hu, by rw [Paired.length h2]; exact lt_line hn, fun v hvv => ?_, fun hvn => ?_⟩
            · rcases paired_valV (k := k) h2 with ⟨z1, z2⟩ | ⟨v', x', z1, z2, z3⟩
              · rw [hvv] at z1; cases z1
              · rw [hvv] at z1; cases z1
                rw [z2] at w3
                exact w3 _ _ as2 (r2.add hp) (e1.trans e2) (p1.trans p2) _ z3
            · rcases paired_valV (k := k) h2 with ⟨z1, z2⟩ | ⟨v', x', z1, z2, z3⟩
              · rw [z2] at w3
                rw [putK_new _ hvn]
                have r3 := r2.addC (o := .lst []) (c := .l []) hp rfl ⟨r2.fresh hp, [], upd_same, .nil⟩
                have hlen : s2.ce.length = as2.length := r2.lea.symm
                have ja : (as2 ++ [p])[j]? = some a := by rw [List.getElem?_append_left (lt_of_get q)]; exact q
                have jc : (s2.ce ++ [Ce.l []])[j]? = some (.w kvs) := by rw [List.getElem?_append_left (lt_of_get hc)]; exact hc
                have pa : (as2 ++ [p])[s2.ce.length]? = some p := by rw [hlen, List.getElem?_append_right (Nat.le_refl _), Nat.sub_self]; rfl
                have r4 := r3.mut (c' := .w (kvs ++ [(k, .c s2.ce.length)])) (o := .dK (vs ++ [(k, .ref p)])) ja jc rfl rfl ⟨hnn, vs ++ [(k, .ref p)], upd_same, paired_app (paired_mono (fun _ _ z => ⟨z.1, z.2.mono (Same.refl _) (List.prefix_append _ _)⟩) h2) (.cons ⟨rfl, .c pa⟩ .nil)⟩
                have es : (s2.ce ++ [Ce.l []]).set j (.w (kvs ++ [(k, .c s2.ce.length)])) = s2.ce.set j (.w (kvs ++ [(k, .c s2.ce.length)])) ++ [.l []] := by
                  rw [List.set_append_left _ _ (lt_of_get hc)]
                have r5 : Rep B σ (upd (upd H2 p (.lst [])) a (.dK (vs ++ [(k, .ref p)]))) Hi2 (as2 ++ [p]) { s2 with ce := s2.ce.set j (.w (kvs ++ [(k, .c s2.ce.length)])) ++ [.l []] } := by
                  rw [← es]
                  exact r4
                exact w3 _ _ _ r5 (e1.trans e2) ((p1.trans p2).trans (List.prefix_append _ _)) _ (.c pa)
              · rw [hvn] at z1; cases z1
        | _ => exact w3.elim
end
section
variable {α : Type} (s : S)
theorem x_fCellV (f : M (List D)) : fCellV f s = bnd f (fun xs s => .ok (.c s.ce.length) { s with ce := s.ce ++ [.v (xs.map .d)] }) s := id rfl
theorem x_fAppV (fo fa : M Vl) : fAppV fo fa s = bnd fo (fun x => bnd (needV x) fun _ => bnd fa fun y => upV x y) s := id rfl
theorem x_needV (x : Vl) : needV x s = match x with
  | .c j => match s.ce[j]? with
    | some (.v _) => .ok () s
    | _ => .no
  | _ => .no := id rfl
theorem x_upV (x y : Vl) : upV x y s = match x with
  | .c j => match s.ce[j]? with
    | some (.v xs) => if xs.length < 1000000 then .ok (.d .none) { s with ce := s.ce.set j (.v (xs ++ [y])) } else .no
    | _ => .no
  | _ => .no := id rfl
theorem x_fDNew : fDNew s = .ok (.c s.ce.length) { s with ce := s.ce ++ [.w []] } := id rfl
theorem x_fSetdL (fo fk : M Vl) : fSetdL fo fk s = bnd fo (fun x => bnd (needW x) fun _ => bnd fk fun y => setdL x y) s := id rfl
theorem x_needW (x : Vl) : needW x s = match x with
  | .c j => match s.ce[j]? with
    | some (.w _) => .ok () s
    | _ => .no
  | _ => .no := id rfl
theorem x_setdL (x y : Vl) : setdL x y s = match x, y with
  | .c j, .d y => match s.ce[j]?, keyD y with
    | some (.w kvs), some k => if kvs.length < 1000000 then (match valW kvs k with
      | some v => .ok v s
      | none => .ok (.c s.ce.length) { s with ce := s.ce.set j (.w (kvs ++ [(k, .c s.ce.length)])) ++ [.l []] }) else .no
    | _, _ => .no
  | _, _ => .no := id rfl
end
end DL

end DLsec_24

section DLsec_25
set_option maxRecDepth 100000
/-! sorted(set(ints)) -/
namespace DL
open PySem PySem.Spec PyProof.Rows L2
abbrev nset (w : World) : Obj := { cls := .type "set", dict := none, data := .set #[] 0 (.fresh 0 0 (!w.params.followText "set-order")) }
section
variable {P : Program} {w : World} {A : Around} {E : Value → Shared → Prop} {s : Shared}
set_option maxHeartbeats 4000000 in
/-- set(l), l a list of ints: the set's rows are known -/
theorem set_of_ints {l : Addr} {its : Array Value} (nz : List Int) {Q : Value → Shared → Prop} (nh : A.handled = none) (il : s.heap.IsList l its) (ii : IntsAre its.toList nz) (sm : nz.length + 1 < scanBound)
    (fin : ∀ (g : Heap) (tk c : Nat), SetR w g s.heap.objs.size (fun j => decide (j ∈ nz)) c → c ≤ nz.length → (∀ b o, s.heap.get? b = some o → g.get? b = some o) → Q (.ref s.heap.objs.size) { s with heap := g, toks := tk }) :
    wpAny (model P w) A (call (.type "set") [.ref l]) Q E s := by
  have lz : its.size = nz.length := (Array.length_toList (xs := its)).symm.trans (IntsAre.length ii)
  obtain ⟨c0, t0, m0⟩ := F.called_set.mro
  have k1 := F.called_set.made
  have k2 := F.called_set.sub
  refine wpAny_call (codeAny_of_tree (show wpAny _ _ (callAny (.type "set") _) _ _ _ from wpAny_pure ⟨Code.quiet_builtin _ (by decide +kernel), codeAny_builtin F.entry_type_call ?_⟩))
  rw [Around.under_plain (weight_type_call_type "set" ([.ref l]) ([])) (rfl)]
  have k3 := F.called_set.notType
  have k4 := F.called_set.canCreate
  have k5 := F.typeCall_set_1 (.ref l)
  repeat any_goals first | assumption | wp_step
  refine codeAny_mono (code_set_led1 (.ref l) (E := E) (Q₁ := fun u t => u = .ref s.heap.objs.size ∧ t = { s with heap := s.heap.push (nset w) }) ⟨rfl, rfl⟩) fun r t hr => ?_
  cases r with
  | error e => exact hr
  | ok fl =>
    cases fl with
    | ret u =>
      obtain ⟨rfl, rfl⟩ := hr
      have g0 : (s.heap.push (nset w)).get? s.heap.objs.size = some (nset w) := Heap.get?_push_size _ rfl
      have ty : Shared.TypeIs { s with heap := s.heap.push (nset w) } (.ref s.heap.objs.size) "set" := ⟨_, g0, rfl⟩
      have k6 := F.called_set.init.lookup
      have k7 := F.called_set.init.bind (.ref s.heap.objs.size)
      repeat any_goals first | assumption | wp_step
      refine codeAny_mono (codeAny_call_builtin (R := wants (fun r t => r = .none ∧ ∃ g tk c, t = { s with heap := g, toks := tk } ∧ SetR w g s.heap.objs.size (fun j => decide (j ∈ nz)) c ∧ c ≤ nz.length ∧ (∀ b o, s.heap.get? b = some o → g.get? b = some o)) E) F.called_set.init.plain F.entry_set_init (check_set_init_1 ty ?_)) fun r t hr => ?_
      · obtain ⟨⟨oc, od, oa, os⟩, h1, h2, nl, h3⟩ := il
        simp only at h2 h3
        subst h2
        subst h3
        have h4 : (s.heap.push (nset w)).get? l = some { cls := .type "list", dict := od, data := .seq its nl, slots := os } := Heap.get?_push_of_some _ h1
        have j1 := F.sub_list_set
        have j2 := F.sub_list_frozenset
        have j3 : (Value.type "list" == Value.type "dict") = false := by decide
        have h5 : (s.heap.push (nset w)).IsList l its := ⟨_, h4, rfl, nl, rfl⟩
        unfold Builtin.«set.__init__» noKeywords Builtin.Frozenset.updateFrom
        generalize hPI : pyIter = PI
        wp_walk
        subst hPI
        refine wpAny_pyIter_list h5 (wpAny_bind (wpAny_runValue ?_))
        have lS : l < s.heap.objs.size := Heap.lt_size h1
        have nh3 : A.in1.in1.in1.handled = none := by simp [nh]
        have ne1 : l ≠ (s.heap.push (nset w)).objs.size := by
          rw [Heap.size_push]
          exact Nat.ne_of_lt (Nat.lt_succ_of_lt lS)
        have ne2 : s.heap.objs.size ∉ [(s.heap.push (nset w)).objs.size, l] := by
          rw [Heap.size_push]
          simp only [List.mem_cons, List.not_mem_nil, or_false, not_or]
          exact ⟨Nat.ne_of_lt (Nat.lt_succ_self _), Nat.ne_of_gt lS⟩
        have vals : ∀ (i : Nat) (v : Value), its[i]? = some v → ∃ k t, nz[i]? = some k ∧ v = .int k t := fun i v hv => by
          have hi : i < nz.length := by rw [← lz]; exact (Array.getElem?_eq_some_iff.mp hv).1
          obtain ⟨t, e⟩ := PyProof.Rows.IntsAre.int_at ii i v (by rw [Array.getElem?_toList]; exact hv)
          refine ⟨nz[i], t, List.getElem?_eq_getElem hi, ?_⟩
          rw [e, List.getD_eq_getElem?_getD, List.getElem?_eq_getElem hi]
          · rfl
        refine set_update_ints ((Walks.list nh3 _ l ne1 its).toS) s.heap.objs.size ne2 nz lz sm vals (its.size - 0) 0 _ (by omega) (Nat.zero_le _) ⟨⟨_, Heap.get?_push_size _ rfl, rfl, rfl⟩, (h5.push _)⟩ ?z1 ?z2
        case z1 => exact ⟨0, Nat.le_refl 0, setR_new_at (Heap.get?_push_of_some _ g0)⟩
        case z2 =>
          rintro ⟨h', g2, d', tk', os'⟩ c' hm hc' hS'
          have eg : g2 = s.gens := hm.gens
          have ed : d' = s.drawn := hm.drawn
          have eo : os' = s.os := hm.os
          subst eg ed eo
          refine wpAny_pure (show wpAny _ _ (PySem.ret Value.none) _ _ _ from ?_)
          rw [lz] at hc'
          refine wpAny_pure ⟨rfl, h', tk', c', rfl, hS', hc', fun b o e => hm.heap b o ?_ (Heap.get?_push_of_some _ (Heap.get?_push_of_some _ e))⟩
          have b0 : b < s.heap.objs.size := Heap.lt_size e
          simp only [List.mem_cons, List.not_mem_nil, or_false, not_or]
          exact ⟨Nat.ne_of_lt b0, by rw [Heap.size_push]; exact Nat.ne_of_lt (Nat.lt_succ_of_lt b0)⟩
      · cases r with
        | error e => exact hr
        | ok fl2 =>
          cases fl2 with
          | ret r =>
            obtain ⟨rfl, g, tk, c', rfl, hS', hc', hk'⟩ := hr
            repeat any_goals first | assumption | wp_step
            exact fin _ _ _ hS' hc' hk'
          | _ => exact hr.elim
    | _ => exact hr.elim
end
def rSetI (K : PySem.W.Frag) (w : World) : RC := fun xs H Q => ∃ (l : Addr) (ns : List Int), xs = [V.ref l] ∧ SqL K H l (ns.map V.int) ∧ ns.length ≤ 1000 ∧
  ∀ (p : Addr) (c : Nat), H p = none → c ≤ ns.length → Q (.ref p) (upd H p (SetO w p (fun j => decide (j ∈ ns)) c))
theorem cr_setI {X : Cx} (hc : X.calm = true) : CallR X (.type "set") (rSetI X.K X.w) := by
  intro pins s σ H vs us Q I r h
  obtain ⟨l, ns, rfl, hq, hl, q⟩ := h
  rw [Vals.ref1 r]
  obtain ⟨its, rr, pl, hz⟩ := I.list hq
  refine set_of_ints ns (I.ok.hd hc) pl.isList (by simpa using rr.ints) (by unfold scanBound; omega) fun g tk c R lc kp => ?_
  have hn : H s.heap.objs.size = none := I.hok.fresh (Nat.le_refl _)
  exact ⟨.ref s.heap.objs.size, _, I.laid (t' := tk) kp (Nat.le_refl _) (setO_new R), rfl, q _ c hn lc⟩
theorem setIK {X : Cx} {K : PySem.W.Frag} {w : World} (hc : X.calm = true) (hK : X.K = K := by rfl) (hw : X.w = w := by rfl) : CallR X (.type "set") (rSetI K w) := by
  subst hK hw
  exact cr_setI hc
theorem sortSetK {X : Cx} {w : World} (hc : X.calm = true) (hw : X.w = w := by rfl) : CallR X (.builtin "sorted") (rSortedSet w) := by
  subst hw
  exact cr_sortedSet hc
/-! ### the data side -/
/-- each once, ascending -/
def ddp : List Int → List Int
  | [] => []
  | x :: xs => if x ∈ xs then ddp xs else x :: ddp xs
theorem ddp_mem : ∀ {ns : List Int} {k : Int}, k ∈ ddp ns ↔ k ∈ ns
  | [], k => Iff.rfl
  | x :: xs, k => by
    unfold ddp
    split
    · rename_i h
      rw [ddp_mem, List.mem_cons]
      exact ⟨.inr, fun q => q.elim (fun e => e ▸ h) id⟩
    · rw [List.mem_cons, List.mem_cons, ddp_mem]
theorem ddp_nodup : ∀ ns : List Int, (ddp ns).Nodup
  | [] => List.Pairwise.nil
  | x :: xs => by
    unfold ddp
    split
    · exact ddp_nodup xs
    · rename_i h
      exact List.nodup_cons.mpr ⟨fun q => h (ddp_mem.mp q), ddp_nodup xs⟩
def srtS (ns : List Int) : List Int := srt (ddp ns)
theorem srtS_mem (ns : List Int) (k : Int) : k ∈ srtS ns ↔ k ∈ ns := by
  unfold srtS
  rw [(srt_perm _).mem_iff, ddp_mem]
theorem srtS_lt (ns : List Int) : (srtS ns).Pairwise (· < ·) := by
  have h1 := srt_sorted (ddp ns)
  have h2 : (srt (ddp ns)).Nodup := (srt_perm _).nodup_iff.mpr (ddp_nodup ns)
  unfold srtS
  exact (h1.and h2).imp fun h => by
    have a := h.1
    have b := h.2
    omega
theorem lt_eq : ∀ {xs ys : List Int}, xs.Pairwise (· < ·) → ys.Pairwise (· < ·) → (∀ k, k ∈ xs ↔ k ∈ ys) → xs = ys := fun {xs ys} h1 h2 h => by
  refine sorted_eq ?_ (h1.imp fun q => Int.le_of_lt q) (h2.imp fun q => Int.le_of_lt q)
  exact (List.perm_ext_iff_of_nodup (h1.imp fun q => Int.ne_of_lt q) (h2.imp fun q => Int.ne_of_lt q)).mpr h
def fSrtS (f : M Vl) : M (List D) := bnd f fun x => gets fun s => match intsA s [x] with
  | some ns => if ns.length ≤ 63 then some ((srtS ns).map .int) else none
  | none => none
section
variable {mg : Str → Option Value} {W : WX} {ta : TE} {fa : M Vl}
theorem sf_srtS {K : PySem.W.Frag} {w : World} (h : SE mg W ta fa) : SF mg W (tCB (rSortedSet w) (tCons (tCB (rSetI K w) (tCons ta tNil)) tNil)) (fSrtS fa) := fun B σ H Hi as s Q rp wp => by
  refine h B σ H Hi as s _ rp (wp_mono (wp_bnd wp) (fun x s1 w1 => ?_) fun _ _ z => z)
  intro H1 Hi1 as1 r1 e1 p1 v hv
  obtain ⟨z, q, w2⟩ := wp_gets w1
  cases hi : intsA s1 [x] with
  | none => rw [hi] at q; cases q
  | some ns =>
    rw [hi] at q
    simp only at q
    split at q
    · rename_i hn
      cases q
      obtain ⟨a, ev, ha⟩ := r1.intsA (.cons hv .nil) hi
      cases ev
      refine ⟨a, ns, rfl, .inl (.inl ha), by omega, fun p c hp hc => ?_⟩
      refine ⟨p, _, c, rfl, upd_same, by omega, fun ms l hs hm hlen hl => ?_⟩
      have e : ms = srtS ns := lt_eq hs (srtS_lt ns) fun k => by rw [hm k, srtS_mem]; simp
      subst e
      exact w2 _ Hi1 as1 (r1.add hp) e1 p1 l _ hl (DqA.ints _)
    · cases q
theorem x_fSrtS (s : S) : fSrtS fa s = bnd fa (fun x => gets fun s => match intsA s [x] with
  | some ns => if ns.length ≤ 63 then some ((srtS ns).map .int) else none
  | none => none) s := id rfl
end
end DL

end DLsec_25

section DLsec_26
set_option maxRecDepth 100000
/-! dicts that are read; sorted pairs -/
namespace DL
open PySem PySem.Spec PyProof.Rows L2
section
variable {mg : Str → Option Value} {W : WX} {B : Bd mg} {σ : St} {H Hi : Hp} {as : List Addr} {s : S}
/-- more objects -/
theorem Rep.ext {H' : Hp} (r : Rep B σ H Hi as s) (e : ∀ b o, H b = some o → H' b = some o) : Rep B σ H' Hi as s := by
  have up : ∀ {lk : List Addr} {b : Addr} {o : HO}, HL lk H b o → HL lk H' b o := fun {lk b o} h => by
    unfold HL at h ⊢
    split
    · rename_i hb
      rw [if_pos hb] at h
      obtain ⟨ob, q⟩ := h
      exact ⟨ob, e _ _ q⟩
    · rename_i hb
      rw [if_neg hb] at h
      exact e _ _ h
  refine ⟨fun b o q => up (r.sub b o q), r.lkd, fun b o q n => up (r.fr b o q n), r.hin, r.new, r.len, r.slo, r.lea, fun j a c e1 e2 => ?_, r.inj⟩
  refine (r.cel j a c e1 e2).mono (Same.refl _) (List.prefix_refl _) (fun _ => rfl) fun al => ?_
  cases z : H a with
  | none => exact absurd rfl ((r.cel j a c e1 e2).ne_new al z)
  | some o => exact e a o z
/-- an object that nobody owns is known from now on -/
theorem Rep.know {p : Addr} {o : HO} (r : Rep B σ H Hi as s) (hp : H p = some o) (hn : Hi p = none) (h0 : B.H0 p = none ∨ p ∈ B.A0) (na : ∀ (j : Nat) (c : Ce), as[j]? = some p → s.ce[j]? = some c → c.alive = false) : Rep B σ H (upd Hi p o) as s := by
  have sm : Same Hi (upd Hi p o) := same_new hn
  have hlk : p ∉ B.lk0 ++ B.lk1 := fun z => by
    obtain ⟨k, e⟩ := r.lkd p z
    rw [hn] at e; cases e
  refine ⟨fun b u e => ?_, fun b hb => ?_, r.fr, fun b u e => ?_, r.new, r.len, fun i x e => ?_, r.lea, fun j a c e1 e2 => ?_, r.inj⟩
  · by_cases z : b = p
    · subst z
      rw [upd_same] at e; cases e
      unfold HL
      rw [if_neg hlk]
      exact hp
    · rw [upd_ne z] at e
      exact r.sub b u e
  · obtain ⟨k, e⟩ := r.lkd b hb
    exact ⟨k, sm _ _ e⟩
  · by_cases z : b = p
    · subst z
      exact .inr h0
    · rw [upd_ne z] at e
      exact r.hin b u e
  · obtain ⟨v, q1, q2⟩ := r.slo i x e
    exact ⟨v, q1, q2.mono sm (List.prefix_refl _)⟩
  · refine (r.cel j a c e1 e2).mono sm (List.prefix_refl _) (fun al => upd_ne fun z => ?_) fun _ => rfl
    subst z
    rw [na j c e1 e2] at al
    cases al
end
/-! ### what a dict holds -/
def dictOf (s : S) : Vl → Option (List (D × D))
  | .d (.dict ds) => some ds
  | .c j => match s.ce[j]? with
    | some (.m kvs) => some (kvs.map fun p => (kD p.1, p.2))
    | _ => none
  | _ => none
def lookD (ds : List (D × D)) (k : Key) : Option D := (ds.find? fun p => decide (keyD p.1 = some k)).map (·.2)
theorem keyD_kD (k : Key) : keyD (kD k) = some k := by cases k <;> rfl
theorem dqm_look {Hi : Hp} {k : Key} : ∀ {vs : List (Key × V)} {ds : List (D × D)}, DqM Hi vs ds → (valV vs k = none ∧ lookD ds k = none) ∨ ∃ v d, valV vs k = some v ∧ lookD ds k = some d ∧ Dq Hi v d
  | _, _, .nil => .inl ⟨rfl, rfl⟩
  | _, _, .cons (k := k') (v := v) (d := d) h r => by
    by_cases e : k' = k
    · refine .inr ⟨v, d, valV_pos (p := (k', v)) e, ?_, h⟩
      simp [lookD, keyD_kD, e]
    · rw [valV_neg (p := (k', v)) e]
      have ih := dqm_look (k := k) r
      simpa [lookD, keyD_kD, e] using ih
section
variable {mg : Str → Option Value} {W : WX} {B : Bd mg} {σ : St} {H Hi : Hp} {as : List Addr} {s : S}
variable {ta tb tc te : TE} {fa fb fc fe : M Vl}
theorem Rep.dictOf (r : Rep B σ H Hi as s) {v : V} {x : Vl} {ds : List (D × D)} (h : RelVl Hi as v x) (e : DL.dictOf s x = some ds) : ∃ a vs, v = .ref a ∧ Rd H a (.dK vs) ∧ DqM Hi vs ds := by
  cases h with
  | d q =>
    cases q with
    | dct h1 h2 =>
      cases e
      refine ⟨_, _, rfl, ?_, h2⟩
      have q := r.sub _ _ h1
      unfold HL at q
      split at q
      · rename_i hl
        obtain ⟨k, z⟩ := r.lkd _ hl
        rw [h1] at z; cases z
      · exact .inr ⟨_, q⟩
    | _ => cases e
  | @c a j q =>
    simp only [DL.dictOf] at e
    cases hc : s.ce[j]? with
    | none => rw [hc] at e; cases e
    | some c =>
      rw [hc] at e
      cases c with
      | m kvs =>
        cases e
        obtain ⟨_, vs, h1, h2⟩ := r.cel j a _ q hc
        exact ⟨a, vs, rfl, .inl h1, h2.toM⟩
      | _ => cases e
def needD (x : Vl) : M Unit := fun s => match dictOf s x with
  | some _ => .ok () s
  | none => .no
theorem wp_needD {x : Vl} {v : V} {P : Unit → S → Prop} {E : Ex → S → Prop} (r : Rep B σ H Hi as s) (h : RelVl Hi as v x) (w : wpR (needD x s) P E) : P () s ∧ ∃ a, v = .ref a ∧ IsD H a := by
  unfold needD at w
  cases e : DL.dictOf s x with
  | none => rw [e] at w; exact w.elim
  | some ds =>
    rw [e] at w
    obtain ⟨a, vs, rfl, h1, _⟩ := r.dictOf h e
    exact ⟨w, a, rfl, .inl ⟨vs, h1⟩⟩
def oGet2 (x y z : Vl) (s : S) : Option Vl := match dictOf s x, y with
  | some ds, .d y => match keyD y with
    | some k => some (match lookD ds k with
      | some d => .d d
      | none => z)
    | none => none
  | _, _ => none
def fGet2 (fo fk fx : M Vl) : M Vl := bnd fo fun x => bnd (needD x) fun _ => bnd fk fun y => bnd fx fun z => gets (oGet2 x y z)
theorem se_get2 (ho : SE mg W ta fa) (hk : SE mg W tb fb) (hx : SE mg W tc fc) : SE mg W (tDGet2 ta tb tc) (fGet2 fa fb fc) := fun B σ H Hi as s Q rp w => by
  refine ho B σ H Hi as s _ rp (wp_mono (wp_bnd w) (fun x s1 w1 => ?_) fun _ _ z => z)
  intro H1 Hi1 as1 r1 e1 p1 v hv
  obtain ⟨w2, a, rfl, isd⟩ := wp_needD r1 hv (wp_bnd w1)
  refine ⟨a, rfl, isd, hk B σ H1 Hi1 as1 s1 _ r1 (wp_mono (wp_bnd w2) (fun y s2 w3 => ?_) fun e s' z => XW.mono z e1 p1)⟩
  intro H2 Hi2 as2 r2 e2 p2 u hu
  refine hx B σ H2 Hi2 as2 s2 _ r2 (wp_mono (wp_bnd w3) (fun z s3 w4 => ?_) fun e s' z => XW.mono z (e1.trans e2) (p1.trans p2))
  intro H3 Hi3 as3 r3 e3 p3 t ht
  obtain ⟨z', q, w5⟩ := wp_gets w4
  have hv3 := (hv.mono e2 p2).mono e3 p3
  have hu3 := hu.mono e3 p3
  unfold oGet2 at q
  cases hd : DL.dictOf s3 x with
  | none => rw [hd] at q; cases q
  | some ds =>
    rw [hd] at q
    obtain ⟨a', vs, ea, hrd, hdm⟩ := r3.dictOf hv3 hd
    cases ea
    cases hu3 with
    | c _ => cases q
    | d hy =>
      rename_i yd
      simp only at q
      cases hkk : keyD yd with
      | none => rw [hkk] at q; cases q
      | some k =>
        rw [hkk] at q
        simp only at q
        have huk := keyD_inv hy hkk
        refine ⟨valV vs k, .inl ⟨vs, k, hrd, huk, rfl⟩, ?_⟩
        have fin : ∀ w', RelVl Hi3 as3 w' z' → Q w' H3 := fun w' hw => w5 H3 Hi3 as3 r3 ((e1.trans e2).trans e3) ((p1.trans p2).trans p3) w' hw
        rcases dqm_look (k := k) hdm with ⟨z1, z2⟩ | ⟨v', d', z1, z2, z3⟩
        · rw [z2] at q; cases q
          rw [z1]
          exact fin _ ht
        · rw [z2] at q; cases q
          rw [z1]
          exact fin _ (.d z3)
def oDSub (x y : Vl) (s : S) : Option Vl := match dictOf s x, y with
  | some ds, .d y => match keyD y with
    | some k => (lookD ds k).map .d
    | none => none
  | _, _ => none
def fDSub (fo fk : M Vl) : M Vl := bnd fo fun x => bnd fk fun y => gets (oDSub x y)
theorem se_dsub (ho : SE mg W ta fa) (hk : SE mg W tb fb) : SE mg W (tDGet ta tb) (fDSub fa fb) := fun B σ H Hi as s Q rp w => by
  refine two ho hk rp w fun x y s2 H2 Hi2 as2 u v r2 e2 p2 hu hv w2 => ?_
  obtain ⟨z, q, w3⟩ := wp_gets w2
  unfold oDSub at q
  cases hd : DL.dictOf s2 x with
  | none => rw [hd] at q; cases q
  | some ds =>
    rw [hd] at q
    obtain ⟨a', vs, ea, hrd, hdm⟩ := r2.dictOf hu hd
    subst ea
    cases hv with
    | c _ => cases q
    | d hy =>
      rename_i yd
      simp only at q
      cases hkk : keyD yd with
      | none => rw [hkk] at q; cases q
      | some k =>
        rw [hkk] at q
        simp only at q
        have huk := keyD_inv hy hkk
        rcases dqm_look (k := k) hdm with ⟨z1, z2⟩ | ⟨v', d', z1, z2, z3⟩
        · rw [z2] at q; cases q
        · rw [z2] at q
          cases q
          exact ⟨a', v', rfl, .inl ⟨vs, k, hrd, huk, z1.symm⟩, w3 H2 Hi2 as2 r2 e2 p2 _ (.d z3)⟩
/-! ### list(d.items()), d owned -/
def itemsD (ds : List (D × D)) : List D := ds.map fun p => .tuple [p.1, p.2]
def fItems (fo : M Vl) : M Vl := bnd fo fun x => gets fun s => match x with
  | .c j => match s.ce[j]? with
    | some (.m kvs) => some (.d (.list (itemsD (kvs.map fun p => (kD p.1, p.2)))))
    | _ => none
  | _ => none
theorem dqkD {Hi : Hp} (k : Key) : Dq Hi (kV k) (kD k) := by
  cases k with
  | inl i => exact .int i
  | inr x => exact .str x
theorem know_tups {kvs : List (Key × V)} {ds : List (Key × D)} (hd : DqK Hi kvs ds) : ∀ {ts : List Addr} {Hi' : Hp}, Rep B σ H Hi' as s → Same Hi Hi' → Paired (fun (t : Addr) (q : Key × V) => H t = some (.tup [kV q.1, q.2])) ts kvs →
    (∀ t ∈ ts, B.H0 t = none ∨ t ∈ B.A0) → (∀ t ∈ ts, ∀ (j : Nat) (c : Ce), as[j]? = some t → s.ce[j]? = some c → c.alive = false) → (∀ t ∈ ts, Hi' t = none ∨ ∃ x, Hi' t = some (.tup x) ∧ H t = some (.tup x)) →
    ∃ Hi'', Rep B σ H Hi'' as s ∧ Same Hi' Hi'' ∧ (∀ b, b ∉ ts → Hi'' b = Hi' b) ∧ DqA Hi'' (ts.map V.ref) (itemsD (ds.map fun p => (kD p.1, p.2))) := by
  induction hd with
  | nil => intro ts Hi' r e p _ _ _; cases p; exact ⟨Hi', r, Same.refl _, fun _ _ => rfl, .nil⟩
  | cons h q ih =>
    rename_i k v kvs' d ds'
    intro ts Hi' r e p h0 na hh
    cases p with
    | @cons t q1 ts' _ ht pr =>
      obtain ⟨Hi1, r1, e1, hot, hkn⟩ : ∃ Hi1, Rep B σ H Hi1 as s ∧ Same Hi' Hi1 ∧ (∀ b, b ≠ t → Hi1 b = Hi' b) ∧ Hi1 t = some (.tup [kV k, v]) := by
        rcases hh t List.mem_cons_self with hn | ⟨x, hx, hy⟩
        · exact ⟨_, r.know ht hn (h0 t List.mem_cons_self) (na t List.mem_cons_self), same_new hn, fun b hb => upd_ne hb, upd_same⟩
        · rw [ht] at hy; cases hy
          exact ⟨Hi', r, Same.refl _, fun _ _ => rfl, hx⟩
      obtain ⟨Hi2, r2, e2, ho2, hd2⟩ := ih r1 (e.trans e1) pr (fun t ht => h0 t (List.mem_cons_of_mem _ ht)) (fun t ht => na t (List.mem_cons_of_mem _ ht)) (fun u hu => by
        by_cases z : u = t
        · subst z; exact .inr ⟨_, hkn, ht⟩
        · rw [hot u z]; exact hh u (List.mem_cons_of_mem _ hu))
      refine ⟨Hi2, r2, e1.trans e2, fun b hb => ?_, ?_⟩
      · simp only [List.mem_cons, not_or] at hb
        rw [ho2 b hb.2, hot b hb.1]
      · exact .cons (.tup (e2 _ _ hkn) (.cons (dqkD k) (.cons (h.mono ((e.trans e1).trans e2)) .nil))) hd2
theorem se_items (ho : SE mg W ta fa) : SE mg W (LiI.tListItems ta) (fItems fa) := fun B σ H Hi as s Q rp w => by
  refine ho B σ H Hi as s _ rp (wp_mono (wp_bnd w) (fun x s1 w1 => ?_) fun _ _ z => z)
  intro H1 Hi1 as1 r1 e1 p1 v hv
  obtain ⟨z, q, w2⟩ := wp_gets w1
  cases hv with
  | d _ => cases q
  | @c a j ha =>
    simp only at q
    cases hc : s1.ce[j]? with
    | none => rw [hc] at q; cases q
    | some c =>
      rw [hc] at q
      cases c with
      | m kvs =>
        cases q
        obtain ⟨_, vs, h1, h2⟩ := r1.cel j a _ ha hc
        refine ⟨a, vs, rfl, h1, fun H' p ts hx hp hts hpt hl hpr => ?_⟩
        have r2 := r1.ext hx
        have na : ∀ u, H1 u = none → ∀ (j : Nat) (c : Ce), as1[j]? = some u → s1.ce[j]? = some c → c.alive = false := fun u hu i c e1 e2 => by
          cases al : c.alive with
          | false => rfl
          | true => exact absurd rfl ((r1.cel i u c e1 e2).ne_new al hu)
        obtain ⟨Hi3, r3, e3, ho3, hd3⟩ := know_tups h2 r2 (Same.refl _) hpr (fun t ht => r1.fresh0 (hts t ht)) (fun t ht => na t (hts t ht)) (fun t ht => .inl (r1.fresh (hts t ht)))
        have hn3 : Hi3 p = none := by rw [ho3 p hpt]; exact r1.fresh hp
        have r4 := r3.know hl hn3 (r1.fresh0 hp) (na p hp)
        have sm : Same Hi3 (upd Hi3 p (.lst (ts.map V.ref))) := same_new hn3
        exact w2 H' _ as1 r4 ((e1.trans e3).trans sm) p1 _ (.d (.lst upd_same (hd3.mono sm)))
      | _ => cases q
/-! ### dict(pairs) -/
def pairsD : List D → Option (List (Key × D))
  | [] => some []
  | .tuple [k, v] :: xs => match keyD k, pairsD xs with
    | some k, some r => some ((k, v) :: r)
    | _, _ => none
  | _ => none
def oDictP : OA Vl := fun xs s => match xs with
  | [x] => match datL s x with
    | some ys => match pairsD ys with
      | some kvs => if (kvs.map (·.1)).Nodup then some (.d (.dict (kvs.map fun p => (kD p.1, p.2)))) else none
      | none => none
    | none => none
  | _ => none
def rDictP (K : PySem.W.Frag) : RC := fun xs H Q => ∃ (a : Addr) (ps : List Addr) (kvs : List (Key × V)), xs = [.ref a] ∧ SqL K H a (ps.map V.ref) ∧ Paired (fun p kv => SqT K H p [kV kv.1, kv.2]) ps kvs ∧ ∀ p, H p = none → Q (.ref p) (upd H p (.dK (mergeK [] kvs)))
theorem pairsD_inv {K : PySem.W.Frag} (r : Rep B σ H Hi as s) : ∀ {ys : List D} {kvs : List (Key × D)} {ws : List V}, pairsD ys = some kvs → DqA Hi ws ys → ∃ (ps : List Addr) (vs : List (Key × V)), ws = ps.map V.ref ∧ Paired (fun p kv => SqT K H p [kV kv.1, kv.2]) ps vs ∧ DqK Hi vs kvs
  | [], kvs, ws, e, d => by cases e; cases d; exact ⟨[], [], rfl, .nil, .nil⟩
  | y :: ys, kvs, ws, e, d => by
    cases d with
    | cons d1 d2 =>
      cases d1 with
      | tup h1 h2 =>
        rename_i vs' a us xs
        cases h2 with
        | nil => simp [pairsD] at e
        | cons k1 k2 =>
          cases k2 with
          | nil => simp [pairsD] at e
          | cons l1 l2 =>
            cases l2 with
            | cons _ _ => simp [pairsD] at e
            | nil =>
              simp only [pairsD] at e
              split at e
              · rename_i k rr hk hr
                cases e
                obtain ⟨ps, vs, e1, e2, e3⟩ := pairsD_inv (K := K) r hr d2
                have := keyD_inv k1 hk
                subst this
                exact ⟨a :: ps, (k, _) :: vs, by rw [e1]; rfl, .cons (.inl (.inl (r.tup h1))) e2, .cons l1 e3⟩
              · cases e
      | _ => simp [pairsD] at e
theorem merge_nodup : ∀ (kvs acc : List (Key × V)), (kvs.map (·.1)).Nodup → (∀ p ∈ kvs, valV acc p.1 = none) → mergeK acc kvs = acc ++ kvs
  | [], acc, _, _ => by simp [mergeK]
  | p :: kvs, acc, nd, h => by
    rw [List.map_cons, List.nodup_cons] at nd
    have e : mergeK acc (p :: kvs) = mergeK (putK acc p.1 p.2) kvs := rfl
    rw [e, putK_new p.2 (h p List.mem_cons_self), merge_nodup kvs _ nd.2 fun q hq => ?_]
    · simp
    · rw [valV_snoc p.1 q.1 p.2 acc (h p List.mem_cons_self), if_neg (fun z => nd.1 (by rw [← z]; exact List.mem_map.mpr ⟨q, hq, rfl⟩))]
      exact h q (List.mem_cons_of_mem _ hq)
theorem DqK.keys {Hi : Hp} : ∀ {v : List (Key × V)} {d : List (Key × D)}, DqK Hi v d → v.map (·.1) = d.map (·.1)
  | _, _, .nil => rfl
  | _, _, .cons _ r => by simp [DqK.keys r]
end
/-! ### sorted pairs of ints -/
def pairOf : D → Option (Int × Int)
  | .tuple [.int i, .int j] => some (i, j)
  | _ => none
def pairsOf : List D → Option (List (Int × Int))
  | [] => some []
  | x :: xs => match pairOf x, pairsOf xs with
    | some p, some r => some (p :: r)
    | _, _ => none
def pD (p : Int × Int) : D := .tuple [.int p.1, .int p.2]
def lexL (p q : Int × Int) : Bool := !SrtO.lexB q p
def srtP (ps : List (Int × Int)) : List (Int × Int) := ps.mergeSort lexL
theorem lexL_iff {p q : Int × Int} : lexL p q = true ↔ p.1 < q.1 ∨ (p.1 = q.1 ∧ p.2 ≤ q.2) := by
  unfold lexL
  rw [Bool.not_eq_true', SrtO.lexB_no]
  omega
theorem srtP_perm (ps : List (Int × Int)) : (srtP ps).Perm ps := List.mergeSort_perm ps _
theorem srtP_sorted (ps : List (Int × Int)) : (srtP ps).Pairwise fun p q => lexL p q = true :=
  List.pairwise_mergeSort (le := lexL) (fun a b c h1 h2 => by rw [lexL_iff] at *; omega) (fun a b => by
    rw [Bool.or_eq_true, lexL_iff, lexL_iff]
    omega) ps
theorem sortP_eq : ∀ {xs ys : List (Int × Int)}, xs.Perm ys → xs.Pairwise (fun p q => lexL p q = true) → ys.Pairwise (fun p q => lexL p q = true) → xs = ys
  | [], ys, p, _, _ => (List.nil_perm.mp p).symm
  | x :: xs, [], p, _, _ => by have := p.length_eq; simp at this
  | x :: xs, y :: ys, p, h1, h2 => by
    have e : x = y := by
      have m1 : x ∈ y :: ys := p.mem_iff.mp List.mem_cons_self
      have m2 : y ∈ x :: xs := p.mem_iff.mpr List.mem_cons_self
      rcases List.mem_cons.mp m1 with e | m1
      · exact e
      · rcases List.mem_cons.mp m2 with e | m2
        · exact e.symm
        · have a1 := lexL_iff.mp ((List.pairwise_cons.mp h1).1 y m2)
          have a2 := lexL_iff.mp ((List.pairwise_cons.mp h2).1 x m1)
          obtain ⟨x1, x2⟩ := x
          obtain ⟨y1, y2⟩ := y
          simp only at a1 a2
          have b1 : x1 = y1 := by omega
          have b2 : x2 = y2 := by omega
          rw [b1, b2]
    subst e
    rw [sortP_eq ((List.perm_cons x).mp p) (List.pairwise_cons.mp h1).2 (List.pairwise_cons.mp h2).2]
theorem pairOf_inv {x : D} {p : Int × Int} (h : pairOf x = some p) : x = pD p := by
  unfold pairOf at h
  split at h
  · cases h; rfl
  · cases h
theorem pairsOf_inv : ∀ {xs : List D} {ps : List (Int × Int)}, pairsOf xs = some ps → xs = ps.map pD
  | [], ps, h => by cases h; rfl
  | x :: xs, ps, h => by
    simp only [pairsOf] at h
    split at h
    · rename_i p r hp hr
      cases h
      rw [pairOf_inv hp, pairsOf_inv hr]
      rfl
    · cases h
theorem pairsOf_map : ∀ ps : List (Int × Int), pairsOf (ps.map pD) = some ps
  | [] => rfl
  | p :: ps => by simp [pairsOf, pairsOf_map ps, pairOf, pD]
def oSortP : OA (List D) := fun xs s => match xs with
  | [x] => match datL s x with
    | some ys => match pairsOf ys with
      | some ps => some ((srtP ps).map pD)
      | none => none
    | none => none
  | _ => none
noncomputable def kOf (H : Hp) (x : V) : Int × Int := match x with
  | .ref t => match H t with
    | some (.tup [.int i, .int j]) => (i, j)
    | _ => (0, 0)
  | _ => (0, 0)
theorem ca_sortP {K : PySem.W.Frag} : CaF (rSortedPO K) oSortP := fun B σ H Hi as s xs z vs Q rp hv e q => by
  cases hv with
  | nil => cases e
  | cons a1 a2 =>
    cases a2 with
    | cons _ _ => cases e
    | nil =>
      rename_i v x
      simp only [oSortP] at e
      cases h1 : datL s x with
      | none => rw [h1] at e; cases e
      | some ys =>
        rw [h1] at e
        simp only at e
        cases h2 : pairsOf ys with
        | none => rw [h2] at e; cases e
        | some ps =>
          rw [h2] at e
          cases e
          have hy := pairsOf_inv h2
          subst hy
          obtain ⟨a, ws, rfl, ha, da⟩ := rp.datL a1 h1
          have key : ∀ {ws : List V} {ps : List (Int × Int)}, DqA Hi ws (ps.map pD) → ws.map (kOf H) = ps ∧ ∀ x ∈ ws, ∃ t, x = V.ref t ∧ H t = some (.tup [.int (kOf H x).1, .int (kOf H x).2]) ∧ Dq Hi x (pD (kOf H x)) := fun {ws ps} d => by
            induction ps generalizing ws with
            | nil => cases d; exact ⟨rfl, by simp⟩
            | cons p ps ih =>
              cases d with
              | cons d1 d2 =>
                obtain ⟨i1, i2⟩ := ih d2
                cases d1 with
                | tup k1 k2 =>
                  rename_i vs t us
                  cases k2 with
                  | cons l1 l2 =>
                    cases l1
                    cases l2 with
                    | cons m1 m2 =>
                      cases m1
                      cases m2
                      have ht := rp.tup k1
                      have ek : kOf H (.ref t) = p := by simp [kOf, ht]
                      refine ⟨by rw [List.map_cons, ek, i1], fun x hx => ?_⟩
                      rcases List.mem_cons.mp hx with rfl | hx
                      · rw [ek]
                        exact ⟨t, rfl, ht, .tup k1 (.cons (.int _) (.cons (.int _) .nil))⟩
                      · exact i2 x hx
          obtain ⟨km, kx⟩ := key da
          refine ⟨a, ws, kOf H, rfl, .inl (.inl ha), fun x hx => by obtain ⟨t, e1, e2, _⟩ := kx x hx; exact ⟨t, e1, e2⟩, fun zs p hs hb hp => ?_⟩
          have hz : zs.map (kOf H) = srtP ps := by
            refine sortP_eq ((hb.perm.map _).trans (by rw [km]; exact (srtP_perm ps).symm)) ?_ (srtP_sorted ps)
            rw [List.pairwise_map]
            exact hs.imp fun h => by
              unfold lexL
              rw [Bool.not_eq_true']
              exact h
          have dz : ∀ {zs : List V}, (∀ x ∈ zs, Dq Hi x (pD (kOf H x))) → DqA Hi zs ((zs.map (kOf H)).map pD) := fun {zs} h => by
            induction zs with
            | nil => exact .nil
            | cons z zs ih => exact .cons (h z List.mem_cons_self) (ih fun x hx => h x (List.mem_cons_of_mem _ hx))
          have := dz (zs := zs) fun x hx => by
            obtain ⟨_, _, _, h⟩ := kx x (hb.perm.mem_iff.mp hx)
            exact h
          rw [hz] at this
          exact q.now rp hp this
theorem sortPK {X : Cx} {K : PySem.W.Frag} (hK : X.K = K := by rfl) : CallR X (.builtin "sorted") (rSortedPO K) := hK ▸ cr_sortedPO
/-- ints or pairs -/
def orF (o o' : OA (List D)) : OA (List D) := fun xs s => match o xs s with
  | some z => some z
  | none => o' xs s
theorem caf_or {r r' : RC} {o o' : OA (List D)} (h : CaF r o) (h' : CaF r' o') : CaF (fun xs H Q => r xs H Q ∨ r' xs H Q) (orF o o') := fun B σ H Hi as s xs z vs Q rp hv e q => by
  unfold orF at e
  cases k : o xs s with
  | none => rw [k] at e; exact .inr (h' B σ H Hi as s xs z vs Q rp hv e q)
  | some w => rw [k] at e; cases e; exact .inl (h B σ H Hi as s xs _ vs Q rp hv k q)
abbrev oSortG : OA (List D) := orF oSorted oSortP
theorem ca_sortG {K : PySem.W.Frag} : CaF (fun xs H Q => rSortedI K xs H Q ∨ rSortedPO K xs H Q) oSortG := caf_or ca_sorted ca_sortP
theorem sortGK {X : Cx} {K : PySem.W.Frag} (hK : X.K = K := by rfl) : CallR X (.builtin "sorted") (fun xs H Q => rSortedI K xs H Q ∨ rSortedPO K xs H Q) := (sortedK hK).or (sortPK hK)
/-- a dict of lists handed back -/
def fToM (f : M Vl) : M Vl := bnd f fun x s => match x with
  | .c j => match s.ce[j]? with
    | some (.w kvs) => bnd (frzs0 (kvs.map (·.2))) (fun ys s' => .ok (.c j) { s' with ce := s'.ce.set j (.m ((kvs.map (·.1)).zip ys)) }) s
    | some (.m kvs) => .ok (.c j) s
    | _ => .no
  | _ => .no
section
variable {mg : Str → Option Value} {W : WX} {B : Bd mg} {σ : St} {H Hi : Hp} {as : List Addr} {s : S}
variable {ta : TE} {fa : M Vl}
theorem dqk_of {Hi Hi' : Hp} : ∀ {vs : List (Key × V)} {kvs : List (Key × Vl)} {ys : List D}, Paired (PairK Hi as) vs kvs → DqA Hi' (vs.map (·.2)) ys → DqK Hi' vs ((kvs.map (·.1)).zip ys)
  | _, _, _, .nil, h => by cases h; exact .nil
  | _, _, _, .cons (a := p) (b := q) hp r, h => by
    obtain ⟨k, v⟩ := p
    obtain ⟨k', x⟩ := q
    obtain ⟨rfl, _⟩ := hp
    cases h with
    | cons h1 h2 => exact .cons h1 (dqk_of r h2)
/-- a cell is seen otherwise -/
theorem Rep.see (r : Rep B σ H Hi as s) {j : Nat} {a : Addr} {c c' : Ce} (ha : as[j]? = some a) (hc : s.ce[j]? = some c) (al : c.alive = true) (al' : c'.alive = true) (hr : RelCe mg H Hi as a c') : Rep B σ H Hi as { s with ce := s.ce.set j c' } := by
  cases z : H a with
  | none => exact absurd rfl ((r.cel j a c ha hc).ne_new al z)
  | some o =>
    have e : upd H a o = H := by
      funext b
      by_cases q : b = a
      · subst q; rw [upd_same, z]
      · rw [upd_ne q]
    have := r.mut (o := o) (c' := c') ha hc al al' (by rw [e]; exact hr)
    rw [e] at this
    exact this
theorem se_toM (h : SE mg W ta fa) : SE mg W ta (fToM fa) := fun B σ H Hi as s Q rp w => by
  refine h B σ H Hi as s _ rp (wp_mono (wp_bnd w) (fun x s1 w1 => ?_) fun _ _ z => z)
  intro H1 Hi1 as1 r1 e1 p1 v hv
  cases hv with
  | d _ => exact w1.elim
  | @c a j q =>
    simp only at w1
    cases hc : s1.ce[j]? with
    | none => rw [hc] at w1; exact w1.elim
    | some c =>
      rw [hc] at w1
      cases c with
      | w kvs =>
        obtain ⟨hn, vs, h1, h2⟩ := r1.cel j a _ q hc
        obtain ⟨ys, s2, Hi2, w2, r2, e2, q2, k2⟩ := r1.frzs0 (pairK_vals h2) (wp_bnd w1)
        have hc2 := k2 j _ hc (fun _ z => by cases z)
        exact w2 _ _ as1 (r2.see q hc2 rfl rfl ⟨(r2.cel j a _ q hc2).hi_none rfl, vs, h1, dqk_of h2 q2⟩) (e1.trans e2) p1 _ (.c q)
      | m kvs => exact w1 _ _ as1 r1 e1 p1 _ (.c q)
      | _ => exact w1.elim
theorem x_fToM (f : M Vl) (s : S) : fToM f s = bnd f (fun x s => match x with
  | .c j => match s.ce[j]? with
    | some (.w kvs) => bnd (frzs0 (kvs.map (·.2))) (fun ys s' => .ok (.c j) { s' with ce := s'.ce.set j (.m ((kvs.map (·.1)).zip ys)) }) s
    | some (.m kvs) => .ok (.c j) s
    | _ => .no
  | _ => .no) s := id rfl
theorem x_fItems (f : M Vl) (s : S) : fItems f s = bnd f (fun x => gets fun s => match x with
  | .c j => match s.ce[j]? with
    | some (.m kvs) => some (.d (.list (itemsD (kvs.map fun p => (kD p.1, p.2)))))
    | _ => none
  | _ => none) s := id rfl
theorem x_fGet2 (fo fk fx : M Vl) (s : S) : fGet2 fo fk fx s = bnd fo (fun x => bnd (needD x) fun _ => bnd fk fun y => bnd fx fun z => gets (oGet2 x y z)) s := id rfl
theorem x_fDSub (fo fk : M Vl) (s : S) : fDSub fo fk s = bnd fo (fun x => bnd fk fun y => gets (oDSub x y)) s := id rfl
theorem x_needD (x : Vl) (s : S) : needD x s = match dictOf s x with
  | some _ => .ok () s
  | none => .no := id rfl
end
end DL
namespace DL
open PySem PySem.Spec PyProof.Rows L2
theorem _root_.L2.Room.units1 {k : Nat} {A : Around} (r : Room k A) : A.units + 1 < cLine := by have := r.un; omega
theorem fsp_no {mg : Str → Option Value} {vs : List V} {H : Hp} {Q : VK} {E : XK} (h : FSp mg (fun _ _ => .no) vs H Q E) : False := by
  obtain ⟨_, _, _, _, _, _, w⟩ := h
  exact w
end DL

end DLsec_26

section DLsec_27
set_option maxRecDepth 100000
/-! {}, str(int), count, index -/
namespace DL
open PySem PySem.Spec PyProof.Rows L2
section
variable {mg : Str → Option Value} {W : WX} {B : Bd mg} {σ : St} {H Hi : Hp} {as : List Addr} {s : S}
variable {ta tb : TE} {fa fb : M Vl}
/-- an expression whose value is locked from now on -/
def tLockR (t : TE) : TE := fun σ H Q => t σ H fun x H1 => ∃ d u, x = .ref d ∧ H1 d = some u ∧ Mut (some u) ∧ ∀ od, Q x (upd H1 d (.frz od u))
theorem pe_lockR {X : Cx} {e : Expr} {t : TE} (h : PE X e t) : PE X e (tLockR t) := by
  refine ⟨fun pins s σ H Q I hw => ?_⟩
  refine wpAny_mono (h.run pins s σ H _ I hw) (fun v s1 hq => ?_) fun _ _ z => z
  obtain ⟨x, H1, I1, r, d, u, e1, e2, mu, q⟩ := hq
  obtain ⟨od, I2⟩ := I1.lock e2 mu
  exact ⟨x, _, I2, r, q od⟩
theorem upd_twice {H : Hp} {p : Addr} {o o' : HO} : upd (upd H p o) p o' = upd H p o' := by
  funext b
  by_cases z : b = p
  · subst z; rw [upd_same, upd_same]
  · rw [upd_ne z, upd_ne z, upd_ne z]
theorem se_dnewD : SE mg W (tLockR tDNewK) (fC (.dict [])) := fun B σ H Hi as s Q rp w p hp => by
  refine ⟨p, _, rfl, upd_same, trivial, fun od => ?_⟩
  rw [upd_twice]
  have sm : Same Hi (upd Hi p (.frz od (.dK []))) := same_new (rp.fresh hp)
  exact w _ _ as (rp.addI hp) sm (List.prefix_refl _) _ (.d (.dct upd_same .nil))
def oStr : OA Vl := fun xs _ => match xs with
  | [.d (.int i)] => if i.natAbs.log2 < 1920 then some (.d (.str (toString i))) else none
  | _ => none
theorem ca_str : CaS (fun xs H Q => ∃ i : Int, xs = [.int i] ∧ i.natAbs.log2 < 1920 ∧ Q (.str (toString i)) H) oStr := fun B σ H Hi as s xs z vs Q rp hv e q => by
  cases hv with
  | nil => cases e
  | cons a1 a2 =>
    cases a2 with
    | cons _ _ => cases a1 with
      | c _ => cases e
      | d q => cases q <;> cases e
    | nil =>
      cases a1 with
      | c _ => cases e
      | d q' =>
        cases q' with
        | int i =>
          simp only [oStr] at e
          split at e
          · rename_i hn; cases e; exact ⟨i, rfl, hn, q.now rp (.d (.str _))⟩
          · cases e
        | _ => cases e
/-- l.count(k), ints -/
def fCount (fo fa : M Vl) : M Vl := bnd fo fun x => bnd (needL x) fun _ => bnd fa fun y => gets fun s => match intsA s [x], y with
  | some ns, .d (.int k) => some (.d (.int (ns.count k : Nat)))
  | _, _ => none
theorem se_count {K : PySem.W.Frag} (ho : SE mg W ta fa) (hb : SE mg W tb fb) : SE mg W (tBM K "list" (rCntI K) ta (tCons tb tNil)) (fCount fa fb) := fun B σ H Hi as s Q rp w => by
  refine ho B σ H Hi as s _ rp (wp_mono (wp_bnd w) (fun x s1 w1 => ?_) fun _ _ z => z)
  intro H1 Hi1 as1 r1 e1 p1 v hv
  obtain ⟨w2, ty⟩ := wp_needL (K := K) r1 hv (wp_bnd w1)
  refine ⟨ty, hb B σ H1 Hi1 as1 s1 _ r1 (wp_mono (wp_bnd w2) (fun y s2 w3 => ?_) fun e s' z => XW.mono z e1 p1)⟩
  intro H2 Hi2 as2 r2 e2 p2 u hu
  obtain ⟨z, q, w4⟩ := wp_gets w3
  cases hi : intsA s2 [x] with
  | none => rw [hi] at q; cases q
  | some ns =>
    rw [hi] at q
    obtain ⟨a, ev, ha⟩ := r2.intsA (.cons (hv.mono e2 p2) .nil) hi
    cases ev
    cases hu with
    | c _ => cases q
    | d hy =>
      cases hy with
      | int k =>
        cases q
        exact ⟨a, ns, k, rfl, rfl, .inl (.inl ha), w4 H2 Hi2 as2 r2 (e1.trans e2) (p1.trans p2) _ (.d (.int _))⟩
      | _ => cases q
/-- l.index(x) -/
def fIndex (fo fa : M Vl) : M Vl := bnd fo fun x => bnd (needL x) fun _ => bnd fa fun y => gets fun s => match dat s x, dat s y with
  | some (.list ds), some d => if (okE d && okE (.list ds)) = true then (match ds.findIdx? fun z => PyData.eqv z d with
    | some j => some (.d (.int (j : Nat)))
    | none => none) else none
  | _, _ => none
theorem se_index {K : PySem.W.Frag} (ho : SE mg W ta fa) (hb : SE mg W tb fb) : SE mg W (tBM K "list" (rIndexD K) ta (tCons tb tNil)) (fIndex fa fb) := fun B σ H Hi as s Q rp w => by
  refine ho B σ H Hi as s _ rp (wp_mono (wp_bnd w) (fun x s1 w1 => ?_) fun _ _ z => z)
  intro H1 Hi1 as1 r1 e1 p1 v hv
  obtain ⟨w2, ty⟩ := wp_needL (K := K) r1 hv (wp_bnd w1)
  refine ⟨ty, hb B σ H1 Hi1 as1 s1 _ r1 (wp_mono (wp_bnd w2) (fun y s2 w3 => ?_) fun e s' z => XW.mono z e1 p1)⟩
  intro H2 Hi2 as2 r2 e2 p2 u hu
  obtain ⟨z, q, w4⟩ := wp_gets w3
  have hv2 := hv.mono e2 p2
  cases h1 : dat s2 x with
  | none => rw [h1] at q; cases q
  | some dx =>
    cases h2 : dat s2 y with
    | none => rw [h1, h2] at q; cases dx <;> cases q
    | some d =>
      rw [h1, h2] at q
      cases dx with
      | list ds =>
        simp only at q
        split at q
        · rename_i hn
          simp only [okE, Bool.and_eq_true] at hn
          cases hf : ds.findIdx? (fun z => PyData.eqv z d) with
          | none => rw [hf] at q; cases q
          | some j =>
            rw [hf] at q
            cases q
            have hdp := r2.dpV (K := K) hv2 h1 hn.2.1
            obtain ⟨a, ea⟩ : ∃ a, v = V.ref a := by
              cases hdp with
              | lst _ _ => exact ⟨_, rfl⟩
            subst ea
            rw [List.findIdx?_eq_some_iff_getElem] at hf
            obtain ⟨hj, k1, k2⟩ := hf
            refine ⟨a, u, d, ds, j, ds[j], rfl, rfl, hdp, r2.dpV hu h2 hn.1.1, hn.2.2, hn.1.2, List.getElem?_eq_getElem hj, k1, fun m z' hm hz => ?_, w4 H2 Hi2 as2 r2 (e1.trans e2) (p1.trans p2) _ (.d (.int _))⟩
            obtain ⟨hm', ez⟩ := List.getElem?_eq_some_iff.mp hz
            have := k2 m hm
            rw [ez] at this
            simpa using this
        · cases q
      | _ => cases q
theorem x_fCount (fo fa : M Vl) (s : S) : fCount fo fa s = bnd fo (fun x => bnd (needL x) fun _ => bnd fa fun y => gets fun s => match intsA s [x], y with
  | some ns, .d (.int k) => some (.d (.int (ns.count k : Nat)))
  | _, _ => none) s := id rfl
theorem x_fIndex (fo fa : M Vl) (s : S) : fIndex fo fa s = bnd fo (fun x => bnd (needL x) fun _ => bnd fa fun y => gets fun s => match dat s x, dat s y with
  | some (.list ds), some d => if (okE d && okE (.list ds)) = true then (match ds.findIdx? fun z => PyData.eqv z d with
    | some j => some (.d (.int (j : Nat)))
    | none => none) else none
  | _, _ => none) s := id rfl
end
section
variable {X : Cx} {K : PySem.W.Frag}
theorem countK (hK : X.K = K := by rfl) : MtR X "list.count" (rCntI K) := hK ▸ mt_lcount
theorem indexK (hu : X.A.units + 65 < cLine) (hK : X.K = K := by rfl) : MtR X "list.index" (rIndexD K) := hK ▸ mt_indexD hu
end
end DL

end DLsec_27

section DLsec_28
set_option maxRecDepth 100000
namespace DL
open PySem PySem.Spec PyProof.Rows L2
/-! comprehensions with two loops -/
def lc2T (k : Vl → M Unit) (t : M Bool) (f : M (List D)) (x : D) : M (List D) := bnd (k (.d x)) fun _ => bnd t fun b => if b = true then f else ret []
def lc2L (k : Vl → M Unit) (t : M Bool) (f : M (List D)) : List D → M (List D)
  | [] => ret []
  | x :: xs => fun s => match lc2T k t f x s with
    | .ok o s' => (match lc2L k t f xs ⟨s.sl, cutC s.ce.length s'.ce⟩ with
      | .ok ys s'' => .ok (o ++ ys) s''
      | r => r)
    | .ex _ _ => .no
    | .no => .no
def fLc2 (fi : M (List D)) (k : Vl → M Unit) (t : M Bool) (fi1 : M (List D)) (k1 : Vl → M Unit) (t1 : M Bool) (e : M Vl) (vs vs1 : List Nat) : M (List D) := bnd fi fun xs s => match lc2L k t (fLc fi1 k1 t1 e vs1) xs ⟨wipeD s.sl vs, s.ce⟩ with
  | .ok ys s' => if ys.length ≤ 1000000 then .ok ys ⟨s.sl, s'.ce⟩ else .no
  | .ex _ _ => .no
  | .no => .no
section
variable {mg : Str → Option Value} {W : WX} {B : Bd mg} {σ : St} {H Hi : Hp} {as : List Addr} {s : S}
variable {ta tb tc te : TE} {fa fb fc fe : M Vl}
theorem era_upd {H : Hp} {p : Addr} {o : HO} : era (upd H p o) p = era H p := by
  funext b
  by_cases z : b = p
  · subst z; rw [era_same, era_same]
  · rw [era_ne z, era_ne z, upd_ne z]
/-- the loop that appends to a list which is nobody's -/
theorem lc_loop {g : TG} {tt : TT} {vs : List Nat} {k : Vl → M Unit} {ft : M Bool} (hg : SG mg WF g k) (hk : KG g vs) (ht : ST mg WF tt ft) (he : SE mg WF te fe)
    {xs ys y0 : List D} {a0 : List V} {s2 : S} {J : It} {L : List Addr} {D : Addr} {P : Hp → Prop}
    (r1 : Rep B σ (era H D) Hi as s) (hD : H D = some (.lst a0)) (HiD : Hi D = none) (d0 : DqA Hi a0 y0)
    (hL : ∀ a ∈ L, a ∈ B.lk0 ++ B.lk1) (hJ : ItD J L Hi xs)
    (q0 : lcL k ft fe xs ⟨wipeD s.sl vs, s.ce⟩ = .ok ys s2) (hn : y0.length + ys.length ≤ 1000000)
    (hP : ∀ (H' Hi' : Hp) (acc : List V), H' D = some (.lst acc) → Hi' D = none → Rep B σ (era H' D) Hi' as ⟨s.sl, s2.ce⟩ → Same Hi Hi' → DqA Hi' acc (y0 ++ ys) → P H') :
    ∃ W : Nat → Nat → Hp → Prop, (∃ m, W 0 m H) ∧ ∀ i m H, W i m H → (J.stop i H ∧ P H) ∨ (J.go i H ∧ ∃ Nx : Hp → Prop, (∀ H', Nx H' → ∃ m', m' < m ∧ W (i + 1) m' H') ∧ ∀ x H', J.yld i H x H' → g x (L2.wipe σ vs) H' fun σ2 H2 => L2.wipe σ2 vs = L2.wipe σ vs ∧ tt σ2 H2 fun b H3 =>
      if b = true then te σ2 H3 fun y H4 => ∃ acc, H4 D = some (.lst acc) ∧ acc.length < sizeLine ∧ Nx (upd H4 D (.lst (acc ++ [y]))) else Nx H3) := by
  refine ⟨fun i m H2 => m + i = xs.length ∧ ∃ acc yacc ce Hi2, H2 D = some (.lst acc) ∧ Hi2 D = none ∧ Rep B (L2.wipe σ vs) (era H2 D) Hi2 as ⟨wipeD s.sl vs, ce⟩ ∧ Same Hi Hi2 ∧ DqA Hi2 acc yacc ∧
    ∃ zs s', lcL k ft fe (xs.drop i) ⟨wipeD s.sl vs, ce⟩ = .ok zs s' ∧ yacc ++ zs = y0 ++ ys ∧ s' = s2, ⟨xs.length, rfl, a0, y0, s.ce, Hi, hD, HiD, r1.wipe vs, Same.refl _, d0, ys, s2, q0, rfl, rfl⟩, ?_⟩
  rintro i m H2 ⟨hm, acc, yacc, ce, Hi2, hDa, hHiD, r2, e2, da, zs, s', q2, hys, hs'⟩
  have r2' : Rep B (L2.wipe σ vs) H2 Hi2 as ⟨wipeD s.sl vs, ce⟩ := by
    have := r2.add (o := .lst acc) (p := D) era_same
    rw [upd_era hDa] at this
    exact this
  have hDA : D ∉ aliveA as ce := fun z => by
    obtain ⟨j, c, h1, h2, h3⟩ := mem_aliveA.mp z
    exact (r2.cel j D c h1 h2).ne_new h3 era_same rfl
  have rb := r2'.enter
  have hL' : ∀ a ∈ L, a ∈ (B.sub H2 Hi2 as ce).lk0 ++ (B.sub H2 Hi2 as ce).lk1 := fun a ha => by
    show a ∈ B.lk0 ++ B.lk1 ++ []
    rw [List.append_nil]
    exact hL a ha
  obtain ⟨step, stop⟩ := hJ _ hL' (L2.wipe σ vs) H2 Hi2 as _ rb e2 i
  by_cases hlt : i < xs.length
  · obtain ⟨d, hd⟩ : ∃ d, xs[i]? = some d := ⟨_, List.getElem?_eq_getElem hlt⟩
    have ex : xs.drop i = d :: xs.drop (i + 1) := by
      rw [List.drop_eq_getElem_cons hlt]
      rw [List.getElem?_eq_getElem hlt] at hd
      cases hd; rfl
    rw [ex] at q2
    obtain ⟨go, yl⟩ := step d hd
    have keepD : ∀ {σ' : St} {H' Hi' : Hp} {as' : List Addr} {s' : S}, Rep (B.sub H2 Hi2 as ce) σ' H' Hi' as' s' → H' D = some (.lst acc) ∧ Hi' D = none := fun {σ' H' Hi' as' s'} r => by
      refine ⟨?_, ?_⟩
      · have q : HL [] H' D (.lst acc) := r.fr D _ hDa hDA
        unfold HL at q
        rw [if_neg (by simp)] at q
        exact q
      · cases z : Hi' D with
        | none => rfl
        | some o =>
          rcases r.hin D o z with q | q | q
          · have q' : Hi2 D = some o := q
            rw [hHiD] at q'; cases q'
          · have q' : H2 D = none := q
            rw [hDa] at q'; cases q'
          · exact absurd q hDA
    have fin : ∀ {σ' : St} {H' Hi' : Hp} {as' : List Addr} {s' : S} (acc' : List V), Rep (B.sub H2 Hi2 as ce) σ' H' Hi' as' s' → Same Hi2 Hi' → as <+: as' →
        Rep B (L2.wipe σ vs) (era (upd H' D (.lst acc')) D) Hi' as ⟨wipeD s.sl vs, cutC ce.length s'.ce⟩ := fun {σ' H' Hi' as' s'} acc' r e p => by
      have rc : Rep B (L2.wipe σ vs) H' Hi' as ⟨wipeD s.sl vs, cutC ce.length s'.ce⟩ := r2'.leave (rb.cut r e p)
      rw [era_upd]
      refine rc.era (keepD r).2 (r2.fresh0 era_same) fun j c h1 h2 => ?_
      cases al : c.alive with
      | false => rfl
      | true =>
        rcases (rb.cut r e p).new j D c h1 h2 al with q | q
        · exact absurd q hDA
        · have q' : H2 D = none := q
          rw [hDa] at q'; cases q'
    refine .inr ⟨go, fun H' => ∃ acc yacc ce Hi2, H' D = some (.lst acc) ∧ Hi2 D = none ∧ Rep B (L2.wipe σ vs) (era H' D) Hi2 as ⟨wipeD s.sl vs, ce⟩ ∧ Same Hi Hi2 ∧ DqA Hi2 acc yacc ∧
      ∃ zs s', lcL k ft fe (xs.drop (i + 1)) ⟨wipeD s.sl vs, ce⟩ = .ok zs s' ∧ yacc ++ zs = y0 ++ ys ∧ s' = s2, ?_, ?_⟩
    · rintro H' ⟨acc, yacc, ce, Hi3, z⟩
      exact ⟨m - 1, by omega, by omega, acc, yacc, ce, Hi3, z⟩
    · intro x H3 hy
      obtain ⟨Hi3, r3, e3, q3⟩ := yl x H3 hy
      obtain ⟨o, s4, zs', q4, q5, rfl⟩ : ∃ o s4 zs', lcT k ft fe d ⟨wipeD s.sl vs, ce⟩ = .ok o s4 ∧ lcL k ft fe (xs.drop (i + 1)) ⟨wipeD s.sl vs, cutC ce.length s4.ce⟩ = .ok zs' s' ∧ zs = o.toList ++ zs' := by
        simp only [lcL] at q2
        cases z : lcT k ft fe d ⟨wipeD s.sl vs, ce⟩ with
        | no => rw [z] at q2; cases q2
        | ex x s' => rw [z] at q2; cases q2
        | ok o s4 =>
          rw [z] at q2
          simp only at q2
          cases z2 : lcL k ft fe (xs.drop (i + 1)) ⟨wipeD s.sl vs, cutC ce.length s4.ce⟩ with
          | no => rw [z2] at q2; cases q2
          | ex x s' => rw [z2] at q2; cases q2
          | ok ys' s'' => rw [z2] at q2; cases q2; exact ⟨o, s4, ys', rfl, z2, rfl⟩
      have w4 : wpR (lcT k ft fe d ⟨wipeD s.sl vs, ce⟩) (fun o' s' => o' = o ∧ s' = s4) (fun _ _ => False) := by rw [q4]; exact ⟨rfl, rfl⟩
      refine hk.mono _ _ _ _ _ (fun σ5 H5 ⟨k5, q⟩ => ⟨by rw [k5, wipe_wipe], q⟩) (hk.keep _ _ _ _ (hg _ _ H3 Hi3 as _ (.d d) x _ r3 (.d q3) (wp_mono (wp_bnd w4) (fun _ s5 w5 σ5 => ?_) fun _ _ z => z.elim)))
      intro H5 Hi5 as5 r5 e5 p5
      refine ht _ σ5 H5 Hi5 as5 s5 _ r5 (wp_mono (wp_bnd w5) (fun b s6 w6 => ?_) fun _ _ z => z.elim)
      intro H6 Hi6 as6 r6 e6 p6
      have E6 : Same Hi2 Hi6 := (e3.trans e5).trans e6
      cases b with
      | false =>
        obtain ⟨rfl, rfl⟩ := w6
        have := fin acc r6 E6 (p5.trans p6)
        obtain ⟨k1, k2⟩ := keepD r6
        rw [era_upd] at this
        exact ⟨acc, yacc, _, Hi6, k1, k2, this, e2.trans E6, da.mono E6, zs', s', q5, by simpa using hys, hs'⟩
      | true =>
        simp only [if_true] at w6 ⊢
        refine se_frz he _ σ5 H6 Hi6 as6 s6 _ r6 (wp_mono (wp_bnd w6) (fun v s7 w7 => ?_) fun _ _ z => z.elim)
        intro H7 Hi7 as7 r7 e7 p7 y hy
        cases hy with
        | c q => exact w7.elim
        | d q =>
          obtain ⟨rfl, rfl⟩ := w7
          obtain ⟨k1, k2⟩ := keepD r7
          have E7 := E6.trans e7
          have hz := congrArg List.length hys
          have hdl := da.length
          simp only [List.length_append, Option.toList_some, List.length_cons, List.length_nil] at hz
          exact ⟨acc, k1, lt_line (by omega), acc ++ [y], yacc ++ [_], _, Hi7, upd_same, k2, fin _ r7 E7 ((p5.trans p6).trans p7), e2.trans E7, (da.mono E7).append (.cons q .nil), zs', s', q5, by simpa using hys, hs'⟩
  · have ex : xs.drop i = [] := List.drop_eq_nil_of_le (by omega)
    rw [ex] at q2
    cases q2
    rw [List.append_nil] at hys
    subst hs'
    have r4 : Rep B σ (era H2 D) Hi2 as ⟨s.sl, ce⟩ := ⟨r2.sub, r2.lkd, r2.fr, r2.hin, r2.new, r1.len, fun i x h => by
      obtain ⟨v, k1, k2⟩ := r1.slo i x h
      exact ⟨v, k1, k2.mono e2 (List.prefix_refl _)⟩, r2.lea, r2.cel, r2.inj⟩
    rw [hys] at da
    exact .inl ⟨stop (by omega), hP H2 Hi2 acc hDa hHiD r4 e2 da⟩
theorem sf_lc2 {wi wi1 : TI} {g g1 : TG} {tt tt1 : TT} {vs vs1 : List Nat} {fi fi1 : M (List D)} {k k1 : Vl → M Unit} {ft ft1 : M Bool} (hi : SI mg W wi fi) (hg : SG mg WF g k) (hk : KG g vs) (ht : ST mg WF tt ft) (hi1 : SI mg WF wi1 fi1) (hg1 : SG mg WF g1 k1) (hk1 : KG g1 vs1) (ht1 : ST mg WF tt1 ft1) (he : SE mg WF te fe) : SF mg W (tLc2 wi g tt wi1 g1 tt1 te vs vs1) (fLc2 fi k ft fi1 k1 ft1 fe vs vs1) := fun B σ H Hi as s Q rp w => by
  refine hi B σ H Hi as s _ rp (wp_mono (wp_bnd w) (fun xs s1 w1 => ?_) fun _ _ z => z)
  intro H1 Hi1 as1 r1 e1 p1 J L hL hJ D hD
  generalize hF : fLc fi1 k1 ft1 fe vs1 = F at w1
  obtain ⟨ys, ce', q0, hn, w2⟩ : ∃ ys s', lc2L k ft F xs ⟨wipeD s1.sl vs, s1.ce⟩ = .ok ys s' ∧ ys.length ≤ 1000000 ∧ OKs B σ Hi as ⟨s1.sl, s'.ce⟩ (fun H' Hi' as' => ∀ p vs, H' p = none → DqA Hi' vs ys → Q (.ref p) (upd H' p (.lst vs))) := by
    cases e : lc2L k ft F xs ⟨wipeD s1.sl vs, s1.ce⟩ with
    | ok ys s' =>
      rw [e] at w1
      simp only at w1
      by_cases hn : ys.length ≤ 1000000
      · rw [if_pos hn] at w1; exact ⟨ys, s', rfl, hn, w1⟩
      · rw [if_neg hn] at w1; exact w1.elim
    | ex x s' => rw [e] at w1; exact w1.elim
    | no => rw [e] at w1; exact w1.elim
  have HiD : Hi1 D = none := r1.fresh hD
  refine ⟨fun i m H => m + i = xs.length ∧ ∃ acc yacc ce Hi2, H D = some (.lst acc) ∧ Hi2 D = none ∧ Rep B (L2.wipe σ vs) (era H D) Hi2 as1 ⟨wipeD s1.sl vs, ce⟩ ∧ Same Hi1 Hi2 ∧ DqA Hi2 acc yacc ∧
    ∃ zs s', lc2L k ft F (xs.drop i) ⟨wipeD s1.sl vs, ce⟩ = .ok zs s' ∧ yacc ++ zs = ys ∧ s' = ce', ⟨xs.length, rfl, [], [], s1.ce, Hi1, upd_same, HiD, ?_, Same.refl _, .nil, ys, ce', q0, rfl, rfl⟩, ?_⟩
  · rw [era_upd]
    have ee : era H1 D = H1 := by
      funext b
      by_cases z : b = D
      · subst z; rw [era_same, hD]
      · rw [era_ne z]
    rw [ee]
    exact r1.wipe vs
  · rintro i m H2 ⟨hm, acc, yacc, ce, Hi2, hDa, hHiD, r2, e2, da, zs, s', q2, hys, hs'⟩
    have r2' : Rep B (L2.wipe σ vs) H2 Hi2 as1 ⟨wipeD s1.sl vs, ce⟩ := by
      have := r2.add (o := .lst acc) (p := D) era_same
      rw [upd_era hDa] at this
      exact this
    have hDA : D ∉ aliveA as1 ce := fun z => by
      obtain ⟨j, c, h1, h2, h3⟩ := mem_aliveA.mp z
      exact (r2.cel j D c h1 h2).ne_new h3 era_same rfl
    have rb := r2'.enter
    have hL' : ∀ a ∈ L, a ∈ (B.sub H2 Hi2 as1 ce).lk0 ++ (B.sub H2 Hi2 as1 ce).lk1 := fun a ha => by
      show a ∈ B.lk0 ++ B.lk1 ++ []
      rw [List.append_nil]
      exact hL a ha
    obtain ⟨step, stop⟩ := hJ _ hL' (L2.wipe σ vs) H2 Hi2 as1 _ rb e2 i
    by_cases hlt : i < xs.length
    · obtain ⟨d, hd⟩ : ∃ d, xs[i]? = some d := ⟨_, List.getElem?_eq_getElem hlt⟩
      have ex : xs.drop i = d :: xs.drop (i + 1) := by
        rw [List.drop_eq_getElem_cons hlt]
        rw [List.getElem?_eq_getElem hlt] at hd
        cases hd; rfl
      rw [ex] at q2
      obtain ⟨go, yl⟩ := step d hd
      have keepD : ∀ {σ' : St} {H' Hi' : Hp} {as' : List Addr} {s' : S}, Rep (B.sub H2 Hi2 as1 ce) σ' H' Hi' as' s' → H' D = some (.lst acc) ∧ Hi' D = none := fun {σ' H' Hi' as' s'} r => by
        refine ⟨?_, ?_⟩
        · have q : HL [] H' D (.lst acc) := r.fr D _ hDa hDA
          unfold HL at q
          rw [if_neg (by simp)] at q
          exact q
        · cases z : Hi' D with
          | none => rfl
          | some o =>
            rcases r.hin D o z with q | q | q
            · have q' : Hi2 D = some o := q
              rw [hHiD] at q'; cases q'
            · have q' : H2 D = none := q
              rw [hDa] at q'; cases q'
            · exact absurd q hDA
      have fin : ∀ {σ' : St} {H' Hi' : Hp} {as' : List Addr} {s' : S}, Rep (B.sub H2 Hi2 as1 ce) σ' H' Hi' as' s' → Rep B σ' (era H' D) Hi' as' s' := fun {σ' H' Hi' as' s'} r => by
        refine (r2'.leave r).era (keepD r).2 (r2.fresh0 era_same) fun j c h1 h2 => ?_
        cases al : c.alive with
        | false => rfl
        | true =>
          rcases r.new j D c h1 h2 al with q | q
          · exact absurd q hDA
          · have q' : H2 D = none := q
            rw [hDa] at q'; cases q'
      refine .inr ⟨go, fun H' => ∃ acc yacc ce Hi2, H' D = some (.lst acc) ∧ Hi2 D = none ∧ Rep B (L2.wipe σ vs) (era H' D) Hi2 as1 ⟨wipeD s1.sl vs, ce⟩ ∧ Same Hi1 Hi2 ∧ DqA Hi2 acc yacc ∧
        ∃ zs s', lc2L k ft F (xs.drop (i + 1)) ⟨wipeD s1.sl vs, ce⟩ = .ok zs s' ∧ yacc ++ zs = ys ∧ s' = ce', ?_, ?_⟩
      · rintro H' ⟨acc, yacc, ce, Hi3, z⟩
        exact ⟨m - 1, by omega, by omega, acc, yacc, ce, Hi3, z⟩
      · intro x H3 hy
        obtain ⟨Hi3, r3, e3, q3⟩ := yl x H3 hy
        obtain ⟨o, s4, zs', q4, q5, rfl⟩ : ∃ o s4 zs', lc2T k ft F d ⟨wipeD s1.sl vs, ce⟩ = .ok o s4 ∧ lc2L k ft F (xs.drop (i + 1)) ⟨wipeD s1.sl vs, cutC ce.length s4.ce⟩ = .ok zs' s' ∧ zs = o ++ zs' := by
          simp only [lc2L] at q2
          cases z : lc2T k ft F d ⟨wipeD s1.sl vs, ce⟩ with
          | no => rw [z] at q2; cases q2
          | ex x s' => rw [z] at q2; cases q2
          | ok o s4 =>
            rw [z] at q2
            simp only at q2
            cases z2 : lc2L k ft F (xs.drop (i + 1)) ⟨wipeD s1.sl vs, cutC ce.length s4.ce⟩ with
            | no => rw [z2] at q2; cases q2
            | ex x s' => rw [z2] at q2; cases q2
            | ok ys' s'' => rw [z2] at q2; cases q2; exact ⟨o, s4, ys', rfl, z2, rfl⟩
        have w4 : wpR (lc2T k ft F d ⟨wipeD s1.sl vs, ce⟩) (fun o' s' => o' = o ∧ s' = s4) (fun _ _ => False) := by rw [q4]; exact ⟨rfl, rfl⟩
        refine hk.mono _ _ _ _ _ (fun σ5 H5 ⟨k5, q⟩ => ⟨by rw [k5, wipe_wipe], q⟩) (hk.keep _ _ _ _ (hg _ _ H3 Hi3 as1 _ (.d d) x _ r3 (.d q3) (wp_mono (wp_bnd w4) (fun _ s5 w5 σ5 => ?_) fun _ _ z => z.elim)))
        intro H5 Hi5 as5 r5 e5 p5
        refine ht _ σ5 H5 Hi5 as5 s5 _ r5 (wp_mono (wp_bnd w5) (fun b s6 w6 => ?_) fun _ _ z => z.elim)
        intro H6 Hi6 as6 r6 e6 p6
        have E6 : Same Hi2 Hi6 := (e3.trans e5).trans e6
        cases b with
        | false =>
          obtain ⟨rfl, rfl⟩ := w6
          obtain ⟨k1, k2⟩ := keepD r6
          exact ⟨acc, yacc, _, Hi6, k1, k2, r2.cut (fin r6) E6 (p5.trans p6), e2.trans E6, da.mono E6, zs', s', q5, by simpa using hys, hs'⟩
        | true =>
          simp only [if_true] at w6 ⊢
          subst hF
          refine hi1 _ σ5 H6 Hi6 as6 s6 _ r6 (wp_mono (wp_bnd w6) (fun xs1 s7 w7 => ?_) fun _ _ z => z.elim)
          intro H7 Hi7 as7 r7 e7 p7 J1 L1 hL1 hJ1
          obtain ⟨s8, q8⟩ : ∃ s8, lcL k1 ft1 fe xs1 ⟨wipeD s7.sl vs1, s7.ce⟩ = .ok o s8 ∧ s4 = ⟨s7.sl, s8.ce⟩ := by
            by_cases hn1 : xs1.length ≤ 1000000
            case neg => rw [if_neg hn1] at w7; exact w7.elim
            rw [if_pos hn1] at w7
            cases e : lcL k1 ft1 fe xs1 ⟨wipeD s7.sl vs1, s7.ce⟩ with
            | ok ys s' => rw [e] at w7; obtain ⟨rfl, rfl⟩ := w7; exact ⟨s', rfl, rfl⟩
            | ex x s' => rw [e] at w7; exact w7.elim
            | no => rw [e] at w7; exact w7.elim
          obtain ⟨q8, rfl⟩ := q8
          obtain ⟨k1', k2'⟩ := keepD r7
          have E7 := E6.trans e7
          have hz := congrArg List.length hys
          simp only [List.length_append] at hz
          refine lc_loop hg1 hk1 ht1 he (fin r7) k1' k2' (da.mono E7) (fun a ha => ?_) hJ1 q8 (by omega) fun H8 Hi8 acc8 h1 h2 h3 h4 h5 => ?_
          · have := hL1 a ha
            have q' : a ∈ B.lk0 ++ B.lk1 ++ [] := this
            rw [List.append_nil] at q'
            exact q'
          · exact ⟨acc8, yacc ++ o, _, Hi8, h1, h2, r2.cut h3 (E7.trans h4) ((p5.trans p6).trans p7), (e2.trans E7).trans h4, h5, zs', s', q5, by simpa using hys, hs'⟩
    · have ex : xs.drop i = [] := List.drop_eq_nil_of_le (by omega)
      rw [ex] at q2
      cases q2
      rw [List.append_nil] at hys
      subst hys hs'
      have r4 : Rep B σ (era H2 D) Hi2 as1 ⟨s1.sl, ce⟩ := ⟨r2.sub, r2.lkd, r2.fr, r2.hin, r2.new, r1.len, fun i x h => by
        obtain ⟨v, k1, k2⟩ := r1.slo i x h
        exact ⟨v, k1, k2.mono e2 (List.prefix_refl _)⟩, r2.lea, r2.cel, r2.inj⟩
      have := w2 (era H2 D) Hi2 as1 r4 (e1.trans e2) p1 D acc era_same da
      rw [upd_era hDa] at this
      exact .inl ⟨stop (by omega), this⟩
end
end DL

end DLsec_28

section DLsec_29
set_option maxRecDepth 100000
set_option maxHeartbeats 4000000
namespace DL
open PySem PySem.Spec PyProof.Rows L2
/-! sorted triples of ints -/
abbrev I3 : Type := Int × Int × Int
def lex3 (p q : I3) : Bool := if p.1 = q.1 then (if p.2.1 = q.2.1 then decide (p.2.2 < q.2.2) else decide (p.2.1 < q.2.1)) else decide (p.1 < q.1)
theorem lex3_iff {p q : I3} : lex3 p q = true ↔ p.1 < q.1 ∨ (p.1 = q.1 ∧ (p.2.1 < q.2.1 ∨ (p.2.1 = q.2.1 ∧ p.2.2 < q.2.2))) := by
  unfold lex3
  split
  · rename_i e
    split <;> rename_i f <;> rw [decide_eq_true_eq] <;> omega
  · rename_i e
    rw [decide_eq_true_eq]
    omega
theorem lex3_no {p q : I3} : lex3 p q = false ↔ ¬ (p.1 < q.1 ∨ (p.1 = q.1 ∧ (p.2.1 < q.2.1 ∨ (p.2.1 = q.2.1 ∧ p.2.2 < q.2.2)))) := by
  rw [← lex3_iff, Bool.not_eq_true]
theorem swo3 {α : Type} (k : α → I3) : SrtO.Swo fun v u => lex3 (k v) (k u) :=
  ⟨fun x y h => by have a := lex3_iff.mp h; rw [lex3_no]; omega, fun x y z h1 h2 => by have a := lex3_no.mp h1; have b := lex3_no.mp h2; rw [lex3_no]; omega⟩
def Is3 (h : Heap) (v : Value) (p : I3) : Prop := ∃ (a : Addr) (o : Obj) (t1 t2 t3 : _) (n : Nat), v = .ref a ∧ h.get? a = some o ∧ o.cls = .type "tuple" ∧ o.data = .seq #[.int p.1 t1, .int p.2.1 t2, .int p.2.2 t3] n
theorem Is3.keeps {h h' : Heap} {v : Value} {p : I3} (x : Is3 h v p) (k : ∀ b o, h.get? b = some o → o.cls = .type "tuple" → h'.get? b = some o) : Is3 h' v p := by
  obtain ⟨a, o, t1, t2, t3, n, e, ho, hc, hd⟩ := x
  exact ⟨a, o, t1, t2, t3, n, e, k a o ho hc, hc, hd⟩
section
variable {prog : Program} {w : World} {A : Around} {s : Shared} {E : Value → Shared → Prop}
open SrtO Srt in
theorem cmp3 {vs : List Value} {k : Value → I3} (hp : ∀ v ∈ vs, Is3 s.heap v (k v)) : Cmp prog w A s (tuples' true) (fun p => p.1 ∈ vs) (lt2 fun v u => lex3 (k v) (k u)) := fun p q m1 m2 => by
  show wpAny (model prog w) A (keyLt' (tuples' true) p.1 q.1) (fun r s' => s' = s ∧ r = lex3 (k p.1) (k q.1)) (fun _ _ => False) s
  obtain ⟨a, o, t1, t2, t3, n, e, ho, hc, hd⟩ := hp _ m1
  obtain ⟨b, o', u1, u2, u3, n', e', ho', hc', hd'⟩ := hp _ m2
  generalize k p.1 = kp at hd ⊢
  generalize k q.1 = kq at hd' ⊢
  obtain ⟨x1, x2, x3⟩ := kp
  obtain ⟨y1, y2, y3⟩ := kq
  have ans : lex3 (x1, x2, x3) (y1, y2, y3) = if x1 = y1 then (if x2 = y2 then decide (x3 < y3) else decide (x2 < y2)) else decide (x1 < y1) := rfl
  rw [e, e', ans]
  refine PySem.W.kat_lt ho hd ho' hd' ?_
  show PySem.W.KatLex prog w A true (decide (3 < 3)) _ [(.int x1 t1, .int y1 u1), (.int x2 t2, .int y2 u2), (.int x3 t3, .int y3 u3)] 0 s
  refine PySem.W.kat_cons (SeqAt.EqAt.int_int x1 t1 y1 u1 prog w _ _ ?_)
  refine PySem.W.kat_go (fun d1 => ?_) fun d1 => ?_
  · have f1 : x1 = y1 := of_decide_eq_true (by simpa using d1)
    refine PySem.W.kat_yes (PySem.W.kat_cons (SeqAt.EqAt.int_int x2 t2 y2 u2 prog w _ _ ?_))
    refine PySem.W.kat_go (fun d2 => ?_) fun d2 => ?_
    · have f2 : x2 = y2 := of_decide_eq_true (by simpa using d2)
      refine PySem.W.kat_yes (PySem.W.kat_cons (SeqAt.EqAt.int_int x3 t3 y3 u3 prog w _ _ ?_))
      refine PySem.W.kat_go (fun d3 => ?_) fun d3 => ?_
      · have f3 : x3 = y3 := of_decide_eq_true (by simpa using d3)
        exact PySem.W.kat_yes (PySem.W.kat_nil ⟨rfl, by rw [if_pos f1, if_pos f2, f3]; exact (decide_eq_false (Int.lt_irrefl _)).symm⟩)
      · refine PySem.W.kat_no (PySem.W.kat_one _ _ (PyProof.Rows.lt_int ?_))
        exact (show s = s ∧ decide (x3 < y3) = _ from ⟨rfl, by rw [if_pos f1, if_pos f2]⟩)
    · have f2 : ¬ x2 = y2 := of_decide_eq_false (by simpa using d2)
      refine PySem.W.kat_no (PySem.W.kat_one _ _ (PyProof.Rows.lt_int ?_))
      exact (show s = s ∧ decide (x2 < y2) = _ from ⟨rfl, by rw [if_pos f1, if_neg f2]⟩)
  · have f1 : ¬ x1 = y1 := of_decide_eq_false (by simpa using d1)
    exact PySem.W.kat_no (oneLt_int ⟨rfl, by rw [if_neg f1]⟩)
theorem heads3 {h : Heap} : ∀ {vs : List Value}, (∀ v ∈ vs, ∃ p, Is3 h v p) → ∃ fs : List Value, PySem.W.KatTups h vs fs ∧ fs.length = vs.length ∧ ∀ f ∈ fs, ∃ x t, f = Value.int x t
  | [], _ => ⟨[], PySem.W.KatTups.nil, rfl, by simp⟩
  | v :: vs, hp => by
    obtain ⟨fs, h1, h2, h3⟩ := heads3 (vs := vs) fun u hu => hp u (List.mem_cons_of_mem _ hu)
    obtain ⟨p, a, o, t1, t2, t3, n, rfl, ho, hc, hd⟩ := hp v List.mem_cons_self
    exact ⟨.int p.1 t1 :: fs, PySem.W.KatTups.cons ho hc hd rfl h1, by simp [h2], fun f hf => (List.mem_cons.mp hf).elim (fun z => ⟨_, _, z⟩) (h3 f)⟩
open SrtO Srt in
theorem sortable3 {a : Addr} {vs : List Value} {k : Value → I3} (h0 : 0 < vs.length) (hp : ∀ v ∈ vs, Is3 s.heap v (k v)) (ha : ∀ o, s.heap.get? a = some o → o.cls ≠ .type "tuple") : SortableO prog w A s a vs fun v u => lex3 (k v) (k u) := fun h' kk => by
  have hq : ∀ v ∈ vs, Is3 h' v (k v) := fun v hv => (hp v hv).keeps fun b o q c => kk b o (fun z => ha o (z ▸ q) c) q
  obtain ⟨fs, h1, h2, h3⟩ := heads3 fun v hv => ⟨_, hq v hv⟩
  refine ⟨tuples' true, fun Q E q => PySem.W.kat_kind (T := .type "int") h1 (by omega) (fun f hf => ?_) rfl ?_, cmp3 hq⟩
  · obtain ⟨x, t, rfl⟩ := h3 f hf
    exact PySem.W.Looks.now
  · have : (Value.type "int" != Value.type "tuple") = true := by first | rfl | decide +kernel
    rw [this]
    exact q
end
def rSort3 (K : PySem.W.Frag) : RC := fun vs H Q => ∃ (a : Addr) (xs : List V) (k : V → I3), vs = [V.ref a] ∧ SqL K H a xs ∧ (∀ x ∈ xs, ∃ t, x = V.ref t ∧ H t = some (.tup [.int (k x).1, .int (k x).2.1, .int (k x).2.2])) ∧
  ∀ ys p, SrtO.Srtd (fun x y => lex3 (k x) (k y)) ys → ys.Perm xs → H p = none → Q (.ref p) (upd H p (.lst ys))
theorem cr_sort3 {X : Cx} : CallR X (.builtin "sorted") (rSort3 X.K) := fun pins s σ H vs us Q I r h => by
  obtain ⟨a, xs, k, rfl, hs, hx, q⟩ := h
  obtain ⟨its, rv, hl, hz⟩ := I.list hs
  obtain ⟨u, rfl, ru⟩ := vals1 r
  have ru' : u = Value.ref a := ru
  subst ru'
  obtain ⟨e1, e2⟩ := refs_back rv fun x m => by
    obtain ⟨t, e, _⟩ := hx x m
    exact ⟨t, e⟩
  have h3s : ∀ v ∈ its, Is3 s.heap v (k (backV v)) := fun v hv => by
    obtain ⟨t, rfl⟩ := e2 v hv
    obtain ⟨t', e, ht⟩ := hx (V.ref t) (by rw [e1]; exact List.mem_map.mpr ⟨_, hv, rfl⟩)
    cases e
    obtain ⟨_, jts, r2, o, ho, hc, n, hd⟩ := I.hok _ _ ht
    cases r2 with
    | cons ri r3 =>
      obtain ⟨u2, u3, rfl, rj, rk⟩ := vals2 r3
      obtain ⟨t1, rfl⟩ := ri
      obtain ⟨t2, rfl⟩ := rj
      obtain ⟨t3, rfl⟩ := rk
      exact ⟨t, o, t1, t2, t3, n, rfl, ho, hc, hd⟩
  refine SrtO.sorted_ord (swo3 fun v => k (backV v)) hl.isList (by rw [← rv.length]; exact hz) (fun h2 h₁ b hb kk => ?_) fun out os ob => ?_
  · refine sortable3 (s := { s with heap := h₁ }) (by omega) (fun v hv => (h3s v hv).keeps fun c o e _ => (kk c o e).2) fun o e z => ?_
    have e' : some o = some (seqObj "list" its.toArray 0) := e.symm.trans hb
    cases e'
    exact absurd (Value.type.inj z) (by decide)
  · have h3 : ∀ u ∈ out, ∃ a, u = Value.ref a := fun u hu => e2 u (ob.perm.mem_iff.mp hu)
    obtain ⟨n, hn⟩ := PyProof.Rows.sortedAll_at s.heap its out.toArray
    have hb : (out.map backV).Perm xs := by rw [e1]; exact ob.perm.map _
    refine ⟨.ref _, upd H _ (.lst (out.map backV)), I.laid (t' := s.toks) (fun b o e => PyProof.Rows.sortedAll_old e) (Nat.le_succ _) ⟨?_, out, n, vals_back h3, hn⟩, rfl, q _ _ (SrtO.srtd_map os) hb (I.hok.fresh (Nat.le_succ _))⟩
    rw [hb.length_eq]
    exact hz
def t3D (p : I3) : D := .tuple [.int p.1, .int p.2.1, .int p.2.2]
def t3Of : D → Option I3
  | .tuple [.int i, .int j, .int k] => some (i, j, k)
  | _ => none
def t3sOf : List D → Option (List I3)
  | [] => some []
  | x :: xs => match t3Of x, t3sOf xs with
    | some p, some r => some (p :: r)
    | _, _ => none
def le3 (p q : I3) : Bool := !lex3 q p
def srt3 (ps : List I3) : List I3 := ps.mergeSort le3
theorem le3_iff {p q : I3} : le3 p q = true ↔ p.1 < q.1 ∨ (p.1 = q.1 ∧ (p.2.1 < q.2.1 ∨ (p.2.1 = q.2.1 ∧ p.2.2 ≤ q.2.2))) := by
  unfold le3
  rw [Bool.not_eq_true', lex3_no]
  omega
theorem srt3_perm (ps : List I3) : (srt3 ps).Perm ps := List.mergeSort_perm ps _
theorem srt3_sorted (ps : List I3) : (srt3 ps).Pairwise fun p q => le3 p q = true :=
  List.pairwise_mergeSort (le := le3) (fun a b c h1 h2 => by rw [le3_iff] at *; omega) (fun a b => by
    rw [Bool.or_eq_true, le3_iff, le3_iff]
    omega) ps
theorem sort3_eq : ∀ {xs ys : List I3}, xs.Perm ys → xs.Pairwise (fun p q => le3 p q = true) → ys.Pairwise (fun p q => le3 p q = true) → xs = ys
  | [], ys, p, _, _ => (List.nil_perm.mp p).symm
  | x :: xs, [], p, _, _ => by have := p.length_eq; simp at this
  | x :: xs, y :: ys, p, h1, h2 => by
    have e : x = y := by
      have m1 : x ∈ y :: ys := p.mem_iff.mp List.mem_cons_self
      have m2 : y ∈ x :: xs := p.mem_iff.mpr List.mem_cons_self
      rcases List.mem_cons.mp m1 with e | m1
      · exact e
      · rcases List.mem_cons.mp m2 with e | m2
        · exact e.symm
        · have a1 := le3_iff.mp ((List.pairwise_cons.mp h1).1 y m2)
          have a2 := le3_iff.mp ((List.pairwise_cons.mp h2).1 x m1)
          obtain ⟨x1, x2, x3⟩ := x
          obtain ⟨y1, y2, y3⟩ := y
          simp only at a1 a2
          have b1 : x1 = y1 := by omega
          have b2 : x2 = y2 := by omega
          have b3 : x3 = y3 := by omega
          rw [b1, b2, b3]
    subst e
    rw [sort3_eq ((List.perm_cons x).mp p) (List.pairwise_cons.mp h1).2 (List.pairwise_cons.mp h2).2]
theorem t3sOf_inv : ∀ {xs : List D} {ps : List I3}, t3sOf xs = some ps → xs = ps.map t3D
  | [], ps, h => by cases h; rfl
  | x :: xs, ps, h => by
    simp only [t3sOf] at h
    split at h
    · rename_i p r hp hr
      cases h
      rw [t3sOf_inv hr]
      unfold t3Of at hp
      split at hp
      · cases hp; rfl
      · cases hp
    · cases h
theorem t3sOf_map : ∀ ps : List I3, t3sOf (ps.map t3D) = some ps
  | [] => rfl
  | p :: ps => by simp [t3sOf, t3sOf_map ps, t3Of, t3D]
def oSort3 : OA (List D) := fun xs s => match xs with
  | [x] => match datL s x with
    | some ys => match t3sOf ys with
      | some ps => some ((srt3 ps).map t3D)
      | none => none
    | none => none
  | _ => none
noncomputable def k3Of (H : Hp) (x : V) : I3 := match x with
  | .ref t => match H t with
    | some (.tup [.int i, .int j, .int k]) => (i, j, k)
    | _ => (0, 0, 0)
  | _ => (0, 0, 0)
theorem ca_sort3 {K : PySem.W.Frag} : CaF (rSort3 K) oSort3 := fun B σ H Hi as s xs z vs Q rp hv e q => by
  cases hv with
  | nil => cases e
  | cons a1 a2 =>
    cases a2 with
    | cons _ _ => cases e
    | nil =>
      rename_i v x
      simp only [oSort3] at e
      cases h1 : datL s x with
      | none => rw [h1] at e; cases e
      | some ys =>
        rw [h1] at e
        simp only at e
        cases h2 : t3sOf ys with
        | none => rw [h2] at e; cases e
        | some ps =>
          rw [h2] at e
          cases e
          have hy := t3sOf_inv h2
          subst hy
          obtain ⟨a, ws, rfl, ha, da⟩ := rp.datL a1 h1
          have key : ∀ {ws : List V} {ps : List I3}, DqA Hi ws (ps.map t3D) → ws.map (k3Of H) = ps ∧ ∀ x ∈ ws, ∃ t, x = V.ref t ∧ H t = some (.tup [.int (k3Of H x).1, .int (k3Of H x).2.1, .int (k3Of H x).2.2]) ∧ Dq Hi x (t3D (k3Of H x)) := fun {ws ps} d => by
            induction ps generalizing ws with
            | nil => cases d; exact ⟨rfl, by simp⟩
            | cons p ps ih =>
              cases d with
              | cons d1 d2 =>
                obtain ⟨i1, i2⟩ := ih d2
                cases d1 with
                | tup k1 k2 =>
                  rename_i vs t us
                  cases k2 with
                  | cons l1 l2 =>
                    cases l1
                    cases l2 with
                    | cons m1 m2 =>
                      cases m1
                      cases m2 with
                      | cons n1 n2 =>
                        cases n1
                        cases n2
                        have ht := rp.tup k1
                        have ek : k3Of H (.ref t) = p := by simp [k3Of, ht]
                        refine ⟨by rw [List.map_cons, ek, i1], fun x hx => ?_⟩
                        rcases List.mem_cons.mp hx with rfl | hx
                        · rw [ek]
                          exact ⟨t, rfl, ht, .tup k1 (.cons (.int _) (.cons (.int _) (.cons (.int _) .nil)))⟩
                        · exact i2 x hx
          obtain ⟨km, kx⟩ := key da
          refine ⟨a, ws, k3Of H, rfl, .inl (.inl ha), fun x hx => by obtain ⟨t, e1, e2, _⟩ := kx x hx; exact ⟨t, e1, e2⟩, fun zs p hs hb hp => ?_⟩
          have hz : zs.map (k3Of H) = srt3 ps := by
            refine sort3_eq ((hb.map _).trans (by rw [km]; exact (srt3_perm ps).symm)) ?_ (srt3_sorted ps)
            rw [List.pairwise_map]
            exact hs.imp fun h => by
              unfold le3
              rw [Bool.not_eq_true']
              exact h
          have dz : ∀ {zs : List V}, (∀ x ∈ zs, Dq Hi x (t3D (k3Of H x))) → DqA Hi zs ((zs.map (k3Of H)).map t3D) := fun {zs} h => by
            induction zs with
            | nil => exact .nil
            | cons z zs ih => exact .cons (h z List.mem_cons_self) (ih fun x hx => h x (List.mem_cons_of_mem _ hx))
          have := dz (zs := zs) fun x hx => by
            obtain ⟨_, _, _, h⟩ := kx x (hb.mem_iff.mp hx)
            exact h
          rw [hz] at this
          exact q.now rp hp this
theorem sort3K {X : Cx} {K : PySem.W.Frag} (hK : X.K = K := by rfl) : CallR X (.builtin "sorted") (rSort3 K) := hK ▸ cr_sort3
abbrev oSortH : OA (List D) := orF oSortG oSort3
theorem ca_sortH {K : PySem.W.Frag} : CaF (fun xs H Q => (rSortedI K xs H Q ∨ rSortedPO K xs H Q) ∨ rSort3 K xs H Q) oSortH := caf_or ca_sortG ca_sort3
theorem sortHK {X : Cx} {K : PySem.W.Frag} (hK : X.K = K := by rfl) : CallR X (.builtin "sorted") (fun xs H Q => (rSortedI K xs H Q ∨ rSortedPO K xs H Q) ∨ rSort3 K xs H Q) := (sortGK hK).or (sort3K hK)
/-! shorthand for evaluation -/
theorem x_lc2L0 (k : Vl → M Unit) (t : M Bool) (f : M (List D)) (s : S) : lc2L k t f [] s = .ok [] s := rfl
theorem x_fLc2 {fi : M (List D)} {k : Vl → M Unit} {t : M Bool} {fi1 : M (List D)} {k1 : Vl → M Unit} {t1 : M Bool} {e : M Vl} {vs vs1 : List Nat} {s s1 s2 : S} {xs ys : List D} (h1 : fi s = .ok xs s1) (h2 : lc2L k t (fLc fi1 k1 t1 e vs1) xs ⟨wipeD s1.sl vs, s1.ce⟩ = .ok ys s2) (hl : ys.length ≤ 1000000) : fLc2 fi k t fi1 k1 t1 e vs vs1 s = .ok ys ⟨s1.sl, s2.ce⟩ := by
  simp only [fLc2, bnd, h1, h2, if_pos hl]
end DL

end DLsec_29

section DLsec_30
set_option maxRecDepth 100000
set_option maxHeartbeats 4000000
namespace DL
open PySem PySem.Spec PyProof.Rows L2
/-! except (A, B) as e -/
theorem keep_up {h h' : Heap} (kp : ∀ (q : Addr) (o : Obj), h.get? q = some o → h'.get? q = some o) : h.UpToSlots h' := fun b o hb _ => ⟨o.slots, kp b o hb⟩
theorem keep_fly {base h h' : Heap} {l : List Env} {e : Addr} {Z : Obj → Prop} (kp : ∀ (q : Addr) (o : Obj), h.get? q = some o → h'.get? q = some o) (x : HandSPX.FlyingZ base l e Z h) : HandSPX.FlyingZ base l e Z h' := by
  obtain ⟨k1, k2, k3, oe, vs, T, oT, ts, he, hz, hd, h1, hnT, hTe, hT, hdT, h3⟩ := x
  exact ⟨fun b o q => kp b o (k1 b o q), k2, k3.of_keeps fun b o q _ => ⟨o, kp b o q, rfl⟩, oe, vs, T, oT, ts, kp e oe he, hz, hd, h1, hnT, hTe, kp T oT hT, hdT, h3⟩
def TestK (X : Cx) (te : Expr) (f : Value → Option Bool) : Prop := ∀ (a : Addr) (ob : Obj) (vs : Array Value) (pn : List (Addr × Obj)) (σ : St) (G : Hp) (s : Shared) (b : Bool), Inv (X.suite a ((a, ob) :: pn)) [] σ G s → ob.data = .fields vs → f ob.cls = some b →
  ∀ {Q : Bool → Shared → Prop} {E : Value → Shared → Prop}, (∀ h', (∀ (q : Addr) (o : Obj), s.heap.get? q = some o → h'.get? q = some o) → Q b { s with heap := h' }) → wpAny (model X.prog X.w) (X.A.mark (some (.ref a))) (eval te X.env) (fun c s1 => wpAny (model X.prog X.w) (X.A.mark (some (.ref a))) (excMatches (.ref a) c) Q E s1) E s
theorem nm_load {X : Cx} {x : Str} {c : Value} {np : Pos} (hc : Names X x c) {a : Addr} {ob : Obj} {pn : List (Addr × Obj)} {σ : St} {G : Hp} {s : Shared} (I : Inv (X.suite a ((a, ob) :: pn)) [] σ G s) {Q : Value → Shared → Prop} {E : Value → Shared → Prop} (q : Q c s) : wpAny (model X.prog X.w) (X.A.mark (some (.ref a))) (eval (.Name x np) X.env) Q E s := by
  obtain ⟨hg, hdb, hm | ⟨hm, hv, hnn⟩⟩ := hc
  · exact ld_glob (X := X.suite a ((a, ob) :: pn)) I hg hm q hdb
  · exact ld_blt (X := X.suite a ((a, ob) :: pn)) I hg hm hv q hnn hdb
theorem test_tup2 {X : Cx} {x1 x2 : Str} {c1 c2 : Value} {p1 p2 tpos : Pos} {kk : Nat} (n1 : Names X x1 c1) (n2 : Names X x2 c2) : TestK X (.Tuple [.Name x1 p1, .Name x2 p2] kk tpos) (fun cls => PySem.W.exmAny X.K cls [c1, c2]) := fun a ob vs pn σ G s b I hd hb {Q E} q => by
  obtain ⟨hget, _⟩ := I.pin (a, ob) (List.mem_append_left _ List.mem_cons_self)
  have LT : PySem.W.Looks (model X.prog X.w) s.heap (typeOf (.ref a)) ob.cls := fun A' Q' E' s' k z => wpAny_typeOf_ref (k _ _ hget) z
  refine wpAny_Tuple (wpAny_items_cons (nm_load n1 I (wpAny_items_cons (nm_load n2 I (wpAny_items_nil ⟨by size_fits, ?_⟩)))))
  have kp : ∀ (z : Addr) (o : Obj), s.heap.get? z = some o → (s.heap.push { cls := .type "tuple", data := .seq [c1, c2].toArray }).get? z = some o := fun _ _ e => Heap.get?_push_of_some _ e
  exact (PySem.W.exm_tup2 (I.kIn.keeps kp) (LT.keeps kp) (Heap.get?_push_size s.heap rfl) hb).here (q _ kp)
section
variable {X : Cx} {te : Expr} {n m : Str} {f : Value → Option Bool} {i j : Nat} {body : List Stmt} {mp np2 ap pos pos' : Pos} {tb : WX → TS} {Wout : WX}
theorem ps_tryG (hs : X.stack = X.env :: X.outer) (hf : X.env.frame = some X.env.locals) (hex : X.ex = []) (hN : X.N.Nodup) (hi : X.N[i]? = some n) (hln : X.env.kindOf n = some .local) (hte : TestK X te f) (tk : Takes X Wout)
    (hb : ∀ (W : WX) (pn : List (Addr × Obj)) (xe : Value → Shared → Prop), Takes (X.tr pn xe) W → PassesOwn (model X.prog X.w) X.A X.env xe → PSs (X.tr pn xe) body (tb W))
    (hsu : ∀ (a : Addr) (ob : Obj) (pn : List (Addr × Obj)), PSs (X.suite a ((a, ob) :: pn)) [.Assign [.Name m mp] (.Name n np2) ap] (tAsg (tVar i) (gName j))) (hij : i ≠ j) :
    PS X (.Try body [.ExceptHandler (some te) (some n) [.Assign [.Name m mp] (.Name n np2) ap] pos'] [] [] pos) (fun Dn σ G => tb (wKp X.K f i j Wout Dn) Dn σ G) := by
  refine ⟨fun pins s σ G Dn I h => ?_⟩
  have okX := I.ok
  have frm : X.A.frames = some (X.env :: X.outer) := by rw [okX.frames, hs]
  have nloc : Loc X.env.scope n := .inl hln
  refine wpAny_Try_except ?_
  have cat : Takes (X.tr (X.pn ++ pins) (fun e s1 => wpAny (model X.prog X.w) X.A (noteFrame e X.env) (fun _ s2 => wpAny (model X.prog X.w) X.A (setFlight e none) (fun _ s3 =>
      wpAny (model X.prog X.w) X.A (handleBy e X.env [.ExceptHandler (some te) (some n) [.Assign [.Name m mp] (.Name n np2) ap] pos']) (SP X pins Dn) X.xe s3) X.xe s2) X.xe s1)) (wKp X.K f i j Wout Dn) := by
    intro u s' air
    obtain ⟨a, Bh, sI, pins', σ', G', cls, d, rfl, J0, nb, up, sky, na, hos, ag, b, hb1, yes, no⟩ := air
    have J : Inv X pins σ' G' sI := J0.ofTry okX
    have sky2 : Sky Bh (X.env :: X.outer) a (Zc cls d) X.env.locals s'.heap := by rw [← hs]; exact sky
    show wpAny (model X.prog X.w) X.A (noteFrame (.ref a) X.env) _ _ _
    refine Sky.land Zc.steady frm hf sky2 fun h3 fl up3 => ?_
    have J3 : Inv X pins σ' G' { s' with heap := h3 } := J.landed nb fl.1 (up.trans up3) hos ag
    obtain ⟨o3, v3, g3, z3, d3⟩ := fl.there
    have noframe : a ∉ frs (X.env :: X.outer) := fun hm => by
      obtain ⟨_, o', e', hnf⟩ := fl.2.2.1.mem hm
      rw [g3] at e'
      cases e'
      exact hnf _ d3
    have neL : a ≠ X.env.locals := fun z => noframe (List.mem_filterMap.mpr ⟨X.env, List.mem_cons_self, by rw [hf, z]⟩)
    have neF : a ∉ X.fs := fun hm => by
      obtain ⟨e, he, q⟩ := List.mem_filterMap.mp hm
      exact noframe (List.mem_filterMap.mpr ⟨e, List.mem_cons_of_mem _ he, q⟩)
    have fresh : ∀ {c : Addr} {o : Obj}, sI.heap.get? c = some o → c ≠ a := fun {c o} e z => by
      subst z
      have q := nb c o e (by rw [hs]; exact noframe)
      rw [fl.2.1] at q
      cases q
    have new0 : X.s_0.heap.get? a = none := by
      cases q : X.s_0.heap.get? a with
      | none => rfl
      | some o =>
        obtain ⟨o', e⟩ := J.base.there a o q (by rw [hex]; simp)
        exact absurd rfl (fresh e)
    have nopin : ∀ p ∈ X.pn ++ pins, p.1 ≠ a := fun p hp => fresh (J.pin p hp).1
    have S3 := J3.suite g3 d3 na neL neF
    refine wpAny_handleBy_cons (codeAny_handlers_test ?_) (by intro q; cases q)
    refine hte a o3 v3 (X.pn ++ pins) σ' G' _ b S3 d3 (by rw [z3.1]; exact hb1) fun h9 kp => ?_
    have up9 := up3.trans (keep_up kp)
    clear S3
    replace fl := keep_fly kp fl
    replace up3 := up9
    cases b with
    | true =>
      refine codeAny_handlers_suite_as (HandSPX.lands_againZ fl fun h4 fl4 up4 => ?_)
      have J4 : Inv X pins σ' G' { s' with heap := h4 } := J.landed nb fl4.1 ((up.trans up3).trans up4) hos ag
      obtain ⟨o4, v4, g4, z4, d4⟩ := fl4.there
      have S4 := J4.suite g4 d4 na neL neF
      refine store_ok (X := X.suite a ((a, o4) :: (X.pn ++ pins))) (v := .ref a) S4 hN hi nloc rfl (fun s5 S5 => ?_) (.inr hln)
      have hlen : i < σ'.length := by
        have e1 := J.len
        have e2 := (List.getElem?_eq_some_iff.mp hi).1
        omega
      refine wpAny_mono ((hsu a o4 (X.pn ++ pins)).run [] s5 _ G' ⟨fun σ6 G6 => σ6 = (σ'.set i (some (.ref a))).set j (some (.ref a)) ∧ G6 = G', fun _ _ => False, fun _ _ => False, fun _ _ => False⟩ S5 ⟨.ref a, by rw [List.getElem?_set_self hlen], rfl, rfl⟩) (fun fl6 s6 q6 => ?_) (fun _ _ z => z.elim)
      cases fl6 with
      | next =>
        obtain ⟨σ6, G6, S6, rfl, rfl⟩ := q6
        refine gone_ok (X := X.suite a ((a, o4) :: (X.pn ++ pins))) S6 hN hi hln fun s7 S7 => ?_
        obtain ⟨p1, p2, _⟩ := S7.pin (a, o4) (List.mem_append_left _ List.mem_cons_self)
        exact ⟨_, _, (S7.unsuite okX).keepX new0 p2 neL p1 z4.1 z4.2 d4 nopin, yes rfl a na⟩
      | brk => obtain ⟨_, _, _, z⟩ := q6; exact z.elim
      | cont => obtain ⟨_, _, _, z⟩ := q6; exact z.elim
      | ret u => obtain ⟨_, _, _, _, _, z⟩ := q6; exact z.elim
    | false =>
      show wpAny _ X.A (handleBy (.ref a) X.env []) _ _ _
      refine wpAny_handleBy_nil ?_
      obtain ⟨k1, k2, k3, oe, ws, T, oT, ts', he, hz, hd, h1, hr⟩ := id fl
      unfold PySem.passOn
      refine wpAny_bind (wpAny_field he hd h1 ?_)
      rw [if_neg (show ¬ ((Value.ref T == Value.none) = true) by simp)]
      have last : wpAny (model X.prog X.w) X.A (setFlight (.ref a) X.env.frame) (fun _ s4 => wpAny (model X.prog X.w) X.A (throw (.ref a) : Sem Flow) (SP X pins Dn) X.xe s4) X.xe { s' with heap := h9 } := by
        rw [hf]
        exact HandSPX.setFlight_upZ fl fun h4 hh4 up4 => wpAny_throw (tk _ _ ⟨a, Bh, sI, pins, σ', G', cls, d, rfl, J, nb, (up.trans up3).trans up4, .inr (.inr (by rw [hs]; exact hh4)), na, hos, ag, no rfl⟩)
      first
        | exact wpAny_bind (wpAny_pure (wpAny_bind last))
        | exact wpAny_bind last
  refine wpAny_mono ((hb _ _ _ cat PassesOwn.looking).run [] s σ G Dn (I.toTry _) h) (fun fl s1 q => ?_) (fun e s1 q => q)
  cases fl with
  | next => obtain ⟨σ1, G1, J1, q1⟩ := q; exact wpAny_execs_nil ⟨σ1, G1, J1.ofTry okX, q1⟩
  | brk => obtain ⟨σ1, G1, J1, q1⟩ := q; exact ⟨σ1, G1, J1.ofTry okX, q1⟩
  | cont => obtain ⟨σ1, G1, J1, q1⟩ := q; exact ⟨σ1, G1, J1.ofTry okX, q1⟩
  | ret u => obtain ⟨v, σ1, G1, J1, r1, q1⟩ := q; exact ⟨v, σ1, G1, J1.ofTry okX, r1, q1⟩
end
/-! xs[::-1] -/
theorem DqA.rev {H : Hp} : ∀ {v : List V} {d : List D}, DqA H v d → DqA H v.reverse d.reverse
  | _, _, .nil => .nil
  | _, _, .cons a r => by
    rw [List.reverse_cons, List.reverse_cons]
    exact (DqA.rev r).append (.cons a .nil)
def fRev (f : M Vl) : M (List D) := bnd f fun x => gets fun s => (datL s x).map List.reverse
def fPar3 (i j l : Nat) (f : M (List Vl)) : M Fl := bnd f fun vs => match vs with
  | [x, y, z] => bnd (kName i x) fun _ => bnd (kName j y) fun _ => bnd (kName l z) fun _ => ret .nx
  | _ => stuck
section
variable {mg : Str → Option Value} {W : WX} {ta : TE} {fa : M Vl}
theorem sf_rev {K : PySem.W.Frag} (h : SE mg W ta fa) : SF mg W (tRevL K ta) (fRev fa) := fun B σ H Hi as s Q rp w => by
  refine h B σ H Hi as s _ rp (wp_mono (wp_bnd w) (fun x s1 w1 => ?_) fun _ _ z => z)
  intro H1 Hi1 as1 r1 e1 p1 v hv
  obtain ⟨z, q, w2⟩ := wp_gets w1
  cases h1 : datL s1 x with
  | none => rw [h1] at q; cases q
  | some ys =>
    rw [h1] at q
    cases q
    obtain ⟨a, ws, rfl, ha, da⟩ := r1.datL hv h1
    exact ⟨a, ws, rfl, .inl (.inl ha), fun p hp => w2 H1 Hi1 as1 r1 e1 p1 p ws.reverse hp da.rev⟩
theorem ss_par3 {i j l : Nat} {tA : TA} {fA : M (List Vl)} (h : SA mg W tA fA) : SS mg W (tPar3 i j l tA) (fPar3 i j l fA) := fun B σ H Hi as s Dn rp w => by
  refine h B σ H Hi as s _ rp (wp_mono (wp_bnd w) (fun xs s1 w1 => ?_) fun _ _ z => z σ)
  intro H1 Hi1 as1 r1 e1 p1 vs hv
  cases hv with
  | nil => exact w1.elim
  | cons a1 hv =>
    cases hv with
    | nil => exact w1.elim
    | cons a2 hv =>
      cases hv with
      | nil => exact w1.elim
      | cons a3 hv =>
        cases hv with
        | nil => exact ⟨_, _, _, rfl, (w1 _) H1 Hi1 as1 (((r1.bind a1).bind a2).bind a3) e1 p1⟩
        | cons a4 hv => exact w1.elim
theorem x_fRev (s : S) : fRev fa s = bnd fa (fun x => gets fun s => (datL s x).map List.reverse) s := id rfl
theorem x_fPar3 {fA : M (List Vl)} (i j l : Nat) (s : S) : fPar3 i j l fA s = bnd fA (fun vs => match vs with
  | [x, y, z] => bnd (kName i x) fun _ => bnd (kName j y) fun _ => bnd (kName l z) fun _ => DL.ret Fl.nx
  | _ => stuck) s := id rfl
end
theorem revK {X : Cx} {K : PySem.W.Frag} {e : Expr} {te : TE} {k : Nat} {p1 p2 p3 pos : Pos} (he : PE X e te) (hK : X.K = K := by rfl) : PE X (.Subscript e (.Slice none none (some (.UnaryOp .USub (.Constant (.int 1) k p1) p2)) p3) pos) (tRevL K te) := hK ▸ pe_revL he
theorem exm_any2 {K : PySem.W.Frag} {cls c1 c2 : Value} {b1 b2 : Bool} (h1 : PySem.W.exmOne K cls c1 = some b1) (h2 : PySem.W.exmOne K cls c2 = some b2) : PySem.W.exmAny K cls [c1, c2] = some (b1 || b2) := by
  simp [PySem.W.exmAny, h1, h2]
/-- a method's call, the fragment named: fit for the blocks of comprehensions -/
theorem bmK {X : Cx} {K : PySem.W.Frag} {o e : Expr} {es : List Expr} {to : TE} {t : TA} {name : Str} {apos cpos : Pos} {T id : String} {r : V → List V → Hp → VK → Prop} (pa : PlainAttrs T) (slot : Slot T name id) (hty : typeOf (.builtin id) = pure (.type "method_descriptor")) (hm : MtR X id r) (ho : PE X o to) (ha : PA X (e :: es) t) (hK : X.K = K := by rfl)
    (h1 : attributeBase o name X.env (eval o X.env) = eval o X.env := by rfl) (h2 : ((backTo cpos (starEach (e :: es) X.env)).all (fun x => !x.1) && (backToKw cpos (keywordEach [] X.env)).all (fun x => x.1.isSome) && decide ((e :: es).length + ([] : List Keyword).length + (if ([] : List Keyword).isEmpty then 0 else 1) < 30)) = true := by rfl)
    (h3 : (apos.endLine == cpos.line) = true := by rfl) (h4 : starEach (e :: es) X.env = (false, eval e X.env) :: starEach es X.env := by rfl) (h5 : (backTo cpos (starEach es X.env)).any (·.1) = false := by rfl) :
    PE X (.Call (.Attribute o name apos) (e :: es) [] cpos) (tBM K T r to t) := hK ▸ pe_bm pa slot hty hm ho ha h1 h2 h3 h4 h5
end DL

end DLsec_30

section DLsec_31
set_option maxRecDepth 100000
/-! list comprehensions with any number of loops -/
namespace DL
open PySem PySem.Spec PyProof.Rows L2
abbrev FF : Value → Shared → Prop := fun _ _ => False
section
variable {prog : Program} {w : World} {A : Around} {s : Shared} {elt : Expr} {gens : List Comprehension} {scope : Scope} {pos : Pos} {acc it : Value} {env : Env}
/-- what follows the tests of the k-th clause -/
def Then (prog : Program) (w : World) (A : Around) (elt : Expr) (gens : List Comprehension) (scope : Scope) (pos : Pos) (acc : Value) (env : Env) (k : Nat) (N : Shared → Prop) (s : Shared) : Prop := match gens[k + 1]? with
  | some c => wpAny (model prog w) A (eval c.iter env) (fun x s4 => wpAny (model prog w) A (pyIter x) (fun it s5 =>
      codeAny (model prog w) A (.compStart (.ListComp elt gens scope pos) (k + 1) it acc env) (fun r s' => match r with
        | .ok _ => N s'
        | .error _ => False) s5) FF s4) FF s
  | none => wpAny (model prog w) A (eval elt env) (fun x s4 => wpAny (model prog w) A (call (.builtin "list.append") [acc, x]) (fun _ s5 => N s5) FF s4) FF s
abbrev testsOf (ifs : List Expr) (env : Env) : Sem Bool := forIn ifs true fun c r => if r = true then do let ok ← isTrue c env (eval c env); pure (ForInStep.yield ok) else pure (ForInStep.yield r)
theorem toE {α : Type} {M : Model} {t : Sem α} {Q : α → Shared → Prop} {E : Value → Shared → Prop} (h : wpAny M A t Q FF s) : wpAny M A t Q E s := wpAny_mono h (fun _ _ q => q) fun _ _ z => z.elim
theorem loopN {R : Result → Shared → Prop} {k : Nat} {t i : Expr} {ifs : List Expr} (hg : gens[k]? = some ⟨t, i, ifs, 0⟩) (ha : ∀ c, gens[k + 1]? = some c → c.is_async = 0 ∧ ∀ x, foldedSetIterable c.iter env x = pure x) (I : Nat → Shared → Prop)
    (turn : ∀ n s, I n s → wpAny (model prog w) A (pyNext it) (fun r s1 => match r with
      | none => R (.ok .next) s1
      | some v => wpAny (model prog w) A (letOwnedTupleGo t it v) (fun _ s2 => wpAny (model prog w) A (assign t env v) (fun _ s3 => wpAny (model prog w) A (testsOf ifs env) (fun ok s4 =>
          if ok = true then Then prog w A elt gens scope pos acc env k (fun s' => ∃ m, m < n ∧ I m s') s4 else ∃ m, m < n ∧ I m s4) FF s3) FF s2) FF s1) FF s)
    (n : Nat) (h : I n s) : codeAny (model prog w) A (.compLoop (.ListComp elt gens scope pos) k it acc env) R s := by
  refine codeAny_loop rfl I (fun n s hI => ?_) n h
  have hden : (model prog w).den (.compLoop (.ListComp elt gens scope pos) k it acc env) = (compTurn (.ListComp elt gens scope pos) k it acc env).onRaise (fun x => do noteFrame x env; theTreesLotGoes x) := rfl
  rw [hden]
  refine wpAny_noted ?_
  cases hk : gens[k + 1]? with
  | none =>
    have e : compTurn (.ListComp elt gens scope pos) k it acc env = (do
        standAt i.pos
        match ← pyNext it with
        | none => pure (.done .next)
        | some v =>
          letOwnedTupleGo t it v
          assign t env v
          let ok ← testsOf ifs env
          if ok then (do let _ ← call (.builtin "list.append") [acc, ← eval elt env])
          again (.compLoop (.ListComp elt gens scope pos) k it acc env)) := by
      unfold compTurn
      simp only [hg, hk]
      rfl
    rw [e]
    refine wpAny_bind (wpAny_standAt (wpAny_bind (toE (wpAny_mono (turn n s hI) (fun r s1 h1 => ?_) fun _ _ z => z))))
    cases r with
    | none => exact wpAny_pure h1
    | some v =>
      refine wpAny_bind (toE (wpAny_mono h1 (fun _ s2 h2 => ?_) fun _ _ z => z))
      refine wpAny_bind (toE (wpAny_mono h2 (fun _ s3 h3 => ?_) fun _ _ z => z))
      refine wpAny_bind (toE (wpAny_mono h3 (fun ok s4 h4 => ?_) fun _ _ z => z))
      cases ok with
      | false => exact wpAny_pure ⟨rfl, h4⟩
      | true =>
        have h5 : Then prog w A elt gens scope pos acc env k (fun s' => ∃ m, m < n ∧ I m s') s4 := h4
        unfold Then at h5
        rw [hk] at h5
        exact wpAny_bind (wpAny_bind (toE (wpAny_mono h5 (fun x s5 h6 => wpAny_bind (toE (wpAny_mono h6 (fun _ s6 h7 => wpAny_pure (wpAny_pure ⟨rfl, h7⟩)) fun _ _ z => z))) fun _ _ z => z)))
  | some c =>
    obtain ⟨ca, cf⟩ := ha c hk
    obtain ⟨ct, ci, cifs, casy⟩ := c
    simp only at ca cf
    subst ca
    have e : compTurn (.ListComp elt gens scope pos) k it acc env = (do
        standAt i.pos
        match ← pyNext it with
        | none => pure (.done .next)
        | some v =>
          letOwnedTupleGo t it v
          assign t env v
          let ok ← testsOf ifs env
          if ok then
            let x ← eval ci env
            standAt ci.pos
            let x ← foldedSetIterable ci env x
            let _ ← runOwn (.compStart (.ListComp elt gens scope pos) (k + 1) (← holding [x] (pyIter x)) acc env) env
          again (.compLoop (.ListComp elt gens scope pos) k it acc env)) := by
      unfold compTurn
      simp only [hg, hk]
      rfl
    rw [e]
    refine wpAny_bind (wpAny_standAt (wpAny_bind (toE (wpAny_mono (turn n s hI) (fun r s1 h1 => ?_) fun _ _ z => z))))
    cases r with
    | none => exact wpAny_pure h1
    | some v =>
      refine wpAny_bind (toE (wpAny_mono h1 (fun _ s2 h2 => ?_) fun _ _ z => z))
      refine wpAny_bind (toE (wpAny_mono h2 (fun _ s3 h3 => ?_) fun _ _ z => z))
      refine wpAny_bind (toE (wpAny_mono h3 (fun ok s4 h4 => ?_) fun _ _ z => z))
      cases ok with
      | false => exact wpAny_pure ⟨rfl, h4⟩
      | true =>
        have h5 : Then prog w A elt gens scope pos acc env k (fun s' => ∃ m, m < n ∧ I m s') s4 := h4
        unfold Then at h5
        rw [hk] at h5
        refine wpAny_bind (toE (wpAny_mono h5 (fun x s5 h6 => ?_) fun _ _ z => z))
        refine wpAny_bind (wpAny_standAt (wpAny_bind (wpAny_of_eq (cf x) (wpAny_bind (wpAny_holding (toE (wpAny_mono h6 (fun it1 s6 h7 => ?_) fun _ _ z => z)))))))
        refine wpAny_bind (wpAny_runOwn ?_)
        rw [Around.mark_none]
        refine codeAny_mono h7 fun r s' hr => ?_
        cases r with
        | ok f =>
          first
            | exact wpAny_pure ⟨rfl, hr⟩
            | exact wpAny_bind (wpAny_pure (wpAny_pure ⟨rfl, hr⟩))
        | error e => exact hr.elim
theorem startN {R : Result → Shared → Prop} {k : Nat} {t i : Expr} {ifs : List Expr} (hg : gens[k]? = some ⟨t, i, ifs, 0⟩) (h0 : codeAny (model prog w) A (.compLoop (.ListComp elt gens scope pos) k it acc env) R s)
    (h : wpAny (model prog w) A (pyIter it) (fun it' s' => codeAny (model prog w) A (.compLoop (.ListComp elt gens scope pos) k it' acc env) R s') FF s) :
    codeAny (model prog w) A (.compStart (.ListComp elt gens scope pos) k it acc env) R s := by
  refine codeAny_of_tree ?_
  have hden : (model prog w).den (.compStart (.ListComp elt gens scope pos) k it acc env) = (compStart (.ListComp elt gens scope pos) k it acc env).onRaise (fun x => do noteFrame x env; standAt theWindowsPlace) := rfl
  rw [hden]
  refine wpAny_notedAt ?_
  have e : compStart (.ListComp elt gens scope pos) k it acc env = (do
      if (← ask).params.followText "comprehension-iter-twice" then return ← again (.compLoop (.ListComp elt gens scope pos) k it acc env)
      rule "comprehension.iter-twice"
      standAt i.pos
      again (.compLoop (.ListComp elt gens scope pos) k (← pyIter it) acc env)) := by
    unfold compStart
    have hcl : (clausesOf (.ListComp elt gens scope pos))[k]? = some ⟨t, i, ifs, 0⟩ := hg
    simp only [hcl]
    rfl
  rw [e]
  refine wpAny_bind (wpAny_askSetting (wpAny_ite ?_))
  split
  · first
      | exact wpAny_bind (wpAny_pure (wpAny_pure (And.intro rfl h0)))
      | exact wpAny_pure (And.intro rfl h0)
  · exact wpAny_bind (wpAny_rule (wpAny_bind (wpAny_standAt (wpAny_bind (toE (wpAny_mono h (fun it' s' h' => wpAny_pure (And.intro rfl h')) fun _ _ z => z))))))
end
abbrev TW := L2.St → Hp → (Hp → Prop) → Prop
def tEl (te : TE) (D : Addr) : TW := fun σ H N => te σ H fun y H' => ∃ acc, H' D = some (.lst acc) ∧ acc.length < sizeLine ∧ N (upd H' D (.lst (acc ++ [y])))
def tTurns (J : It) (g : TG) (tt : TT) (vs : List Nat) (inn : TW) (σ : L2.St) (H : Hp) (N : Hp → Prop) : Prop := ∃ W : Nat → Nat → Hp → Prop, (∃ m, W 0 m H) ∧ ∀ i m H, W i m H →
  (J.stop i H ∧ N H) ∨ (J.go i H ∧ ∃ Nx : Hp → Prop, (∀ H', Nx H' → ∃ m', m' < m ∧ W (i + 1) m' H') ∧ ∀ x H', J.yld i H x H' → g x (L2.wipe σ vs) H' fun σ2 H2 => L2.wipe σ2 vs = L2.wipe σ vs ∧ tt σ2 H2 fun b H3 => if b = true then inn σ2 H3 Nx else Nx H3)
def tCl (wi : TI) (g : TG) (tt : TT) (vs : List Nat) (inn : TW) : TW := fun σ H N => wi σ H fun J H1 => tTurns J g tt vs inn σ H1 N
def tLcN (wi : TI) (g : TG) (tt : TT) (vs : List Nat) (inn : Addr → TW) : TE := fun σ H Q => wi σ H fun J H1 => ∀ D, H1 D = none → tTurns J g tt vs (inn D) σ (upd H1 D (.lst [])) fun H' => Q (.ref D) H'
section
variable {Y : Cx} {elt : Expr} {gens : List Comprehension} {scope : Scope} {pos : Pos} {D : Addr} {k : Nat} {ws vs : List Nat} {inn : TW} {te : TE} {g : TG} {tt : TT} {wi : TI} {t i : Expr} {ifs : List Expr}
/-- clauses that ask no more of their sources -/
def Plain (env : Env) (gens : List Comprehension) (k : Nat) : Prop := ∀ c, gens[k]? = some c → c.is_async = 0 ∧ ∀ x, foldedSetIterable c.iter env x = pure x
def RunC (Y : Cx) (elt : Expr) (gens : List Comprehension) (scope : Scope) (pos : Pos) (D : Addr) (k : Nat) (ws : List Nat) (T : TW) : Prop := ∀ (pins : List (Addr × Obj)) (s : Shared) (σ : L2.St) (H : Hp) (N : Hp → Prop), Inv Y pins σ H s → T σ H N →
  Then Y.prog Y.w Y.A elt gens scope pos (.ref D) Y.env k (fun s' => ∃ H', Inv Y pins (L2.wipe σ ws) H' s' ∧ N H') s
theorem then_mono {prog : Program} {w : World} {A : Around} {acc : Value} {env : Env} {N N' : Shared → Prop} {s : Shared} (h : Then prog w A elt gens scope pos acc env k N s) (hn : ∀ s', N s' → N' s') : Then prog w A elt gens scope pos acc env k N' s := by
  unfold Then at h ⊢
  cases hk : gens[k + 1]? with
  | none =>
    rw [hk] at h
    exact wpAny_mono h (fun _ _ q => wpAny_mono q (fun _ _ z => hn _ z) fun _ _ z => z) fun _ _ z => z
  | some c =>
    rw [hk] at h
    refine wpAny_mono h (fun _ _ q => wpAny_mono q (fun _ _ z => codeAny_mono z fun r s' hr => ?_) fun _ _ z => z) fun _ _ z => z
    cases r with
    | ok f => exact hn _ hr
    | error e => exact hr.elim
theorem run_el (hk : gens[k + 1]? = none) (hx : Y.xe = FF) (he : PE Y elt te) : RunC Y elt gens scope pos D k [] (tEl te D) := by
  intro pins s σ H N I h
  unfold Then
  rw [hk]
  have r := he.run pins s σ H _ I h
  rw [hx] at r
  refine wpAny_mono r (fun u s4 hq => ?_) fun _ _ z => z
  obtain ⟨y, H4, I4, ry, acc, hD, hz, n⟩ := hq
  exact app_ok I4 hD hz ry fun s5 I5 => ⟨_, I5, n⟩
theorem turns_ok {pins : List (Addr × Obj)} {s : Shared} {σ : L2.St} {H : Hp} {N : Hp → Prop} {R : Result → Shared → Prop} {it : Addr} {fp : List Addr} {tn : Nat → Heap → Prop} {J : It}
    (hg0 : gens[k]? = some ⟨t, i, ifs, 0⟩) (ha : Plain Y.env gens (k + 1)) (hx : Y.xe = FF) (hc : Y.calm = true) (hg : PG Y t g) (ht : PTs Y ifs tt) (hn : RunC Y elt gens scope pos D k ws inn) (hw : ∀ j ∈ ws, j ∈ vs)
    (T : Turn Y.prog Y.w Y.K t J fp it tn) (hfp : ∀ {σ' : L2.St} {H' : Hp} {s' : Shared}, Inv Y pins σ' H' s' → (∀ b ∈ fp, H' b = none) → ∀ b ∈ fp, FpOk Y pins H' b)
    (I : Inv Y pins (L2.wipe σ vs) H s) (st : tn 0 s.heap) (f0 : ∀ b ∈ fp, H b = none) (h : tTurns J g tt vs inn σ H N) (hR : ∀ H' s', Inv Y pins (L2.wipe σ vs) H' s' → N H' → R (.ok .next) s') :
    codeAny (model Y.prog Y.w) Y.A (.compLoop (.ListComp elt gens scope pos) k (.ref it) (.ref D) Y.env) R s := by
  obtain ⟨W, ⟨m0, w0⟩, turn⟩ := h
  refine loopN hg0 ha (fun n s' => ∃ i H', Inv Y pins (L2.wipe σ vs) H' s' ∧ tn i s'.heap ∧ (∀ b ∈ fp, H' b = none) ∧ W i n H') ?_ m0 ⟨0, H, I, st, f0, w0⟩
  rintro n s5 ⟨j, H5, I5, st5, n5, w5⟩
  rcases turn j n H5 w5 with ⟨stop, q⟩ | ⟨go, Nx, hNx, step⟩
  · refine wpAny_mono (T.done Y rfl rfl rfl hc j pins s5 _ H5 FF I5 (hfp I5 n5) st5 stop) (fun r s6 hq => ?_) fun _ _ z => z
    obtain ⟨hr, I6⟩ := hq
    subst hr
    exact hR H5 s6 I6 q
  · refine wpAny_mono (T.item Y rfl rfl rfl hc j pins s5 _ H5 FF I5 (hfp I5 n5) st5 go) (fun r s6 hq => ?_) fun _ _ z => z
    obtain ⟨u, hr, h6⟩ := hq
    subst hr
    refine wpAny_mono h6 (fun _ s7 hq => ?_) fun _ _ z => z
    obtain ⟨x, H7, I7, r7, y7, st7, n7⟩ := hq
    have I8 := I7.pinned (hfp I7 n7) (T.obj _ _ st7)
    have a1 := hg.run _ s7 _ H7 x u _ I8 r7 (step x H7 y7)
    rw [hx] at a1
    refine wpAny_mono a1 (fun _ s8 hq => ?_) fun _ _ z => z
    obtain ⟨σ8, H8, I9, hw8, q8⟩ := hq
    have a2 := ht.run _ s8 σ8 H8 _ I9 q8
    rw [hx] at a2
    refine wpAny_mono a2 (fun b s9 hq => ?_) fun _ _ z => z
    obtain ⟨H9, I10, q9⟩ := hq
    have hl8 : (L2.wipe σ vs).length = σ8.length := by rw [← hw8, wipe_length]
    have fin : ∀ {σ9 : L2.St} {s' : Shared} {H' : Hp}, Inv Y (pins ++ pinsAt fp s7.heap) σ9 H' s' → (L2.wipe σ vs).length = σ9.length → (∀ (a : Nat) v, (L2.wipe σ vs)[a]? = some (some v) → σ9[a]? = some (some v)) → Nx H' →
        ∃ m, m < n ∧ ∃ i H', Inv Y pins (L2.wipe σ vs) H' s' ∧ tn i s'.heap ∧ (∀ b ∈ fp, H' b = none) ∧ W i m H' := fun {σ9 s' H'} I' hl hv nx => by
      obtain ⟨m', hm, w'⟩ := hNx H' nx
      have pin : ∀ b ∈ fp, ∀ o, s7.heap.get? b = some o → s'.heap.get? b = some o ∧ H' b = none := fun b hb o e => by
        have z := I'.pin (b, o) (List.mem_append_right _ (List.mem_append_right _ (mem_pinsAt hb e)))
        exact ⟨z.1, z.2.1⟩
      refine ⟨m', hm, j + 1, H', I'.unpinned.weak hl hv, T.keep _ _ _ st7 fun b hb o e => (pin b hb o e).1, fun b hb => ?_, w'⟩
      obtain ⟨o, e, _⟩ := T.obj _ _ st7 b hb
      exact (pin b hb o e).2
    cases b with
    | false =>
      refine fin I10 hl8 (fun a v e => ?_) q9
      rw [← hw8] at e
      exact (wipe_some e).1
    | true =>
      refine then_mono (hn _ s9 σ8 H9 Nx I10 q9) fun s' hq => ?_
      obtain ⟨H', I', nx⟩ := hq
      refine fin I' (hl8.trans (wipe_length σ8 ws).symm) (fun a v e => ?_) nx
      rw [← hw8] at e
      obtain ⟨e1, e2⟩ := wipe_some e
      rw [wipe_out fun z => e2 (hw a z)]
      exact e1
theorem run_cl (hk : gens[k + 1]? = some ⟨t, i, ifs, 0⟩) (ha : Plain Y.env gens (k + 1 + 1)) (hx : Y.xe = FF) (hc : Y.calm = true) (hi : PI Y t i wi) (hg : PG Y t g) (ht : PTs Y ifs tt) (hn : RunC Y elt gens scope pos D (k + 1) ws inn) (hw : ∀ j ∈ ws, j ∈ vs) :
    RunC Y elt gens scope pos D k vs (tCl wi g tt vs inn) := by
  intro pins s σ H N I h
  unfold Then
  rw [hk]
  have r := hi.run pins s σ H _ I h
  rw [hx] at r
  refine wpAny_mono r (fun xv s4 h4 => wpAny_mono h4 (fun itv s5 h5 => ?_) fun _ _ z => z) fun _ _ z => z
  obtain ⟨it, fp, tn, J, H5, e, I5, T, st5, f5, q⟩ := h5
  subst e
  have loop : codeAny (model Y.prog Y.w) Y.A (.compLoop (.ListComp elt gens scope pos) (k + 1) (.ref it) (.ref D) Y.env) (fun r s' => match r with
      | .ok _ => ∃ H', Inv Y pins (L2.wipe σ vs) H' s' ∧ N H'
      | .error _ => False) s5 :=
    turns_ok hk ha hx hc hg ht hn hw T (fun {σ' H' s'} _ hn b hb => ⟨hn b hb, (f5 b hb).2⟩) (I5.weak (wipe_length _ _) fun a v e => (wipe_some e).1) st5 (fun b hb => (f5 b hb).1) q fun H' s' I' n => ⟨H', I', n⟩
  exact startN hk loop (T.self Y.A 0 _ _ _ st5 loop)
end
section
variable {X : Cx} {elt tg iter : Expr} {ifs : List Expr} {rest : List Comprehension} {scope : Scope} {pos : Pos} {own : List (Str × Nat)} {wi : TI} {g : TG} {tt : TT} {inn : Addr → TW} {ws : List Nat}
/-- [elt for .. in .. for .. in .. ..] -/
theorem pe_lcN (hc : X.calm = true) (hN : X.N.Nodup) (hi : PI X tg iter wi) (ok : BlkOk X.N X.env.scope scope own) (hw : ∀ j ∈ ws, j ∈ own.map (·.2))
    (hg : ∀ (s : Shared) (H : Hp) (C : Addr) (cl : List (Str × Addr)) (fp : List Addr), PG (X.blk s H scope (compEnvC scope cl C X.env) fp) tg g)
    (ht : ∀ (s : Shared) (H : Hp) (C : Addr) (cl : List (Str × Addr)) (fp : List Addr), PTs (X.blk s H scope (compEnvC scope cl C X.env) fp) ifs tt)
    (hr : ∀ (s : Shared) (H : Hp) (C : Addr) (cl : List (Str × Addr)) (fp : List Addr) (D : Addr), RunC (X.blk s H scope (compEnvC scope cl C X.env) fp) elt (⟨tg, iter, ifs, 0⟩ :: rest) scope pos D 0 ws (inn D))
    (ha : ∀ env, Plain env (⟨tg, iter, ifs, 0⟩ :: rest) 1) (hs : ∀ x, foldedSetIterable iter X.env x = pure x := by intro _; rfl) :
    PE X (.ListComp elt (⟨tg, iter, ifs, 0⟩ :: rest) scope pos) (tLcN wi g tt (own.map (·.2)) inn) := by
  refine ⟨fun pins s σ H Q I h => ?_⟩
  rw [eval_ListComp]
  have free : ∀ y ∈ scope.names, y.2 = .free → ∃ c, X.env.cells.lookup y.1 = some c := fun y hy e => (ok.free y hy e).elim (fun z => I.ok.has _ (.inl z)) fun z => I.ok.has _ (.inr z)
  refine wpAny_comprehension_free (use := none) rfl hs (closure_ok free) ok.kind (fun y hy e => by rw [ok.uniq y hy, e]) ?_
  refine wpAny_mono (hi.run pins s σ H _ I h) (fun xv s1 hx => wpAny_mono hx (fun itv s2 h2 => ?_) fun _ _ z => z) fun _ _ z => z
  obtain ⟨it, fp, tn, J, H2, e, I2, T, st2, f2, q⟩ := h2
  subst e
  refine wpAny_newObj_type (newEnv_comp ?_) (by show 0 ≤ sizeLine; decide)
  have fr : ∀ D, s2.heap.objs.size = D → H2 D = none := fun D e => I2.hok.fresh (Nat.le_of_eq e)
  generalize hD : s2.heap.objs.size = D
  have w0 := q D (fr D hD)
  have old : ∀ b ∈ fp, b < s2.heap.objs.size := fun b hb => by
    obtain ⟨o, e, _⟩ := T.obj _ _ st2 b hb
    exact Heap.lt_size e
  have I3 : Inv X pins σ (upd H2 D (.lst [])) { s2 with heap := s2.heap.push { cls := .type "list", data := .seq ([] : List Value).toArray } } :=
    I2.laid (t' := s2.toks) (fun b o e => Heap.get?_push_of_some _ e) (Nat.le_of_eq hD) ⟨Nat.zero_le _, [], 0, .nil, by rw [← hD]; exact Heap.get?_push_size _ rfl⟩
  have st3 : tn 0 (s2.heap.push { cls := .type "list", data := .seq ([] : List Value).toArray }) := T.keep _ _ _ st2 fun b _ o e => Heap.get?_push_of_some _ e
  have f3 : ∀ b ∈ fp, FpOk X pins (upd H2 D (.lst [])) b ∧ b < (s2.heap.push { cls := .type "list", data := .seq ([] : List Value).toArray }).objs.size := fun b hb => by
    refine ⟨⟨?_, (f2 b hb).2⟩, by rw [Heap.size_push]; exact Nat.lt_succ_of_lt (old b hb)⟩
    rw [upd_ne (by rw [← hD]; exact Nat.ne_of_lt (old b hb))]
    exact (f2 b hb).1
  generalize hs3 : ({ s2 with heap := s2.heap.push { cls := .type "list", data := .seq ([] : List Value).toArray } } : Shared) = s3 at I3
  have hh : s3.heap = s2.heap.push { cls := .type "list", data := .seq ([] : List Value).toArray } := by rw [← hs3]
  rw [← hh] at st3 f3
  have I4 := block_start I3 ok hN f3
  generalize hcl : cellsFrom (s3.heap.objs.size + 1) scope.names (cloFrom X.env.cells scope.names []) = cl at I4
  have pg := hg s3 (upd H2 D (.lst [])) s3.heap.objs.size cl fp
  have pt := ht s3 (upd H2 D (.lst [])) s3.heap.objs.size cl fp
  have pr := hr s3 (upd H2 D (.lst [])) s3.heap.objs.size cl fp D
  generalize hce : compEnvC scope cl s3.heap.objs.size X.env = ce at I4 pg pt pr
  have cL : ce.locals = s3.heap.objs.size := by subst hce; rfl
  have st4 : tn 0 (pushCells (s3.heap.push { cls := .type "dict", data := .dict #[] }) scope.names) := T.keep _ _ _ st3 fun b _ o e => pushCells_keeps _ _ _ _ (Heap.get?_push_of_some _ e)
  have loop := fun (R : Result → Shared → Prop) hR => turns_ok (Y := X.blk s3 (upd H2 D (.lst [])) scope ce fp) (R := R) (k := 0) (σ := σ) (N := fun H' => Q (.ref D) H') rfl (ha ce) rfl hc pg pt pr hw T
    (fun {σ' H' s'} I' hn b hb => ⟨hn b hb, (I'.ok.exf b hb).1, I'.ok.exfs b hb, .inl hb, fun x c e => (I'.ok.exf b hb).2 x c e, fun p hp => absurd (show p ∈ ([] : List (Addr × Obj)) ++ [] from hp) (by simp)⟩)
    I4 st4 (fun b hb => (f3 b hb).1.1) w0 hR
  have main : codeAny (model X.prog X.w) X.A (.compLoop (.ListComp elt (⟨tg, iter, ifs, 0⟩ :: rest) scope pos) 0 (.ref it) (.ref D) ce) (compPost (model X.prog X.w) X.A X.xe none (EP X pins σ Q) (.ref D) s3.heap.objs.size) { s3 with heap := pushCells (s3.heap.push { cls := .type "dict", data := .dict #[] }) scope.names } := by
    refine loop _ fun H' s' I' hq => ?_
    have I7 : Inv X pins σ H' s' := I3.call' (ch := fp) I'.os I'.base I'.hok I'.bare fun b hb => ⟨(f3 b hb).1.2.2.2.1, (f3 b hb).1.2.1, (f3 b hb).1.2.2.2.2.1, (f3 b hb).1.2.2.2.2.2⟩
    have nC : H' s3.heap.objs.size = none := by
      have z : H' ce.locals = none := I'.free
      rwa [cL] at z
    obtain ⟨m, hn, _⟩ := I'.loc
    have hn : s'.heap.Ns ce.locals m := hn
    rw [cL] at hn
    obtain ⟨f0, f1, f2, f3, f4, f5⟩ := I3.fpOk (H' := H') (Nat.le_refl _) nC
    exact ⟨m, hn, fun h'' sb => ⟨.ref D, H', I7.turned (t' := s'.toks) (fun b o hb e => (sb.2 b hb).trans e) f0 f1 f3 f4 f5, rfl, hq⟩⟩
  have fin : codeAny (model X.prog X.w) X.A (.compStart (.ListComp elt (⟨tg, iter, ifs, 0⟩ :: rest) scope pos) 0 (.ref it) (.ref D) ce) (compPost (model X.prog X.w) X.A X.xe none (EP X pins σ Q) (.ref D) s3.heap.objs.size) { s3 with heap := pushCells (s3.heap.push { cls := .type "dict", data := .dict #[] }) scope.names } :=
    startN rfl main (T.self X.A 0 _ _ _ st4 main)
  subst hce hcl hs3
  exact fin
end
end DL

end DLsec_31

section DLsec_32
set_option maxRecDepth 100000
/-! comprehensions with any number of loops: the data -/
namespace DL
open PySem PySem.Spec PyProof.Rows L2
def fCl (fi : M (List D)) (k : Vl → M Unit) (t : M Bool) (F : M (List D)) (vs : List Nat) : M (List D) := bnd fi fun xs s => match lc2L k t F xs ⟨wipeD s.sl vs, s.ce⟩ with
  | .ok ys s' => if ys.length ≤ 1000000 then .ok ys ⟨s.sl, s'.ce⟩ else .no
  | .ex _ _ => .no
  | .no => .no
def fEl (fe : M Vl) : M (List D) := bnd (fFrz fe) fun v => match v with
  | .d d => ret [d]
  | .c _ => stuck
/-- the list at A grows -/
def SW (mg : Str → Option Value) (inn : Addr → TW) (F : M (List D)) : Prop := ∀ (B : Bd mg) (σ : L2.St) (H Hi : Hp) (as : List Addr) (s : S) (A : Addr) (a0 : List V) (y0 ys : List D) (s' : S) (N : Hp → Prop), Rep B σ (era H A) Hi as s → H A = some (.lst a0) → Hi A = none → DqA Hi a0 y0 → F s = .ok ys s' → y0.length + ys.length ≤ 1000000 →
  (∀ (H' Hi' : Hp) (as' : List Addr) (acc : List V), H' A = some (.lst acc) → Hi' A = none → (∃ σ', Rep B σ' (era H' A) Hi' as' s') → Same Hi Hi' → as <+: as' → DqA Hi' acc (y0 ++ ys) → N H') → inn A σ H N
section
variable {mg : Str → Option Value} {W : WX} {B : Bd mg} {σ : L2.St} {H Hi : Hp} {as : List Addr} {s : S} {A : Addr} {a0 : List V}
variable {te : TE} {fe : M Vl} {inn : Addr → TW} {F : M (List D)} {wi : TI} {fi : M (List D)} {g : TG} {tt : TT} {vs : List Nat} {k : Vl → M Unit} {ft : M Bool}
theorem Rep.withA (r : Rep B σ (DL.era H A) Hi as s) (hA : H A = some (.lst a0)) : Rep B σ H Hi as s := by
  have := r.add (o := .lst a0) (p := A) era_same
  rwa [upd_era hA] at this
theorem Rep.notA (r : Rep B σ (DL.era H A) Hi as s) : A ∉ aliveA as s.ce := fun z => by
  obtain ⟨j, c, h1, h2, h3⟩ := mem_aliveA.mp z
  exact (r.cel j A c h1 h2).ne_new h3 era_same rfl
theorem Rep.keepA (r : Rep B σ (DL.era H A) Hi as s) (hA : H A = some (.lst a0)) (hi : Hi A = none) {σ' : L2.St} {H' Hi' : Hp} {as' : List Addr} {s' : S} (r' : Rep (B.sub H Hi as s.ce) σ' H' Hi' as' s') :
    H' A = some (.lst a0) ∧ Hi' A = none ∧ Rep B σ' (DL.era H' A) Hi' as' s' := by
  have nA := r.notA
  have h1 : H' A = some (.lst a0) := by
    have q : HL [] H' A (.lst a0) := r'.fr A _ hA nA
    unfold HL at q
    rwa [if_neg (by simp)] at q
  have h2 : Hi' A = none := by
    cases z : Hi' A with
    | none => rfl
    | some o =>
      rcases r'.hin A o z with q | q | q
      · have q' : Hi A = some o := q
        rw [hi] at q'; cases q'
      · have q' : H A = none := q
        rw [hA] at q'; cases q'
      · exact absurd q nA
  refine ⟨h1, h2, ((r.withA hA).leave r').era h2 (r.fresh0 era_same) fun j c e1 e2 => ?_⟩
  cases al : c.alive with
  | false => rfl
  | true =>
    rcases r'.new j A c e1 e2 al with q | q
    · exact absurd q nA
    · have q' : H A = none := q
      rw [hA] at q'; cases q'
theorem sw_el (he : SE mg WF te fe) : SW mg (tEl te) (fEl fe) := fun B σ H Hi as s A a0 y0 ys s' N r hA hi d0 q hn hN => by
  have w : wpR (fEl fe s) (fun o t => o = ys ∧ t = s') (fun _ _ => False) := by rw [q]; exact ⟨rfl, rfl⟩
  refine se_frz he _ σ H Hi as s _ (r.withA hA).enter (wp_mono (wp_bnd w) (fun v s7 w7 => ?_) fun _ _ z => z.elim)
  intro H7 Hi7 as7 r7 e7 p7 y hy
  cases hy with
  | c _ => exact w7.elim
  | d qd =>
    obtain ⟨rfl, rfl⟩ := w7
    obtain ⟨k1, k2, k3⟩ := r.keepA hA hi r7
    have hl := d0.length
    simp only [List.length_cons, List.length_nil] at hn
    exact ⟨a0, k1, lt_line (by omega), hN _ Hi7 as7 (a0 ++ [y]) upd_same k2 ⟨_, by rw [era_upd]; exact k3⟩ e7 p7 ((d0.mono e7).append (.cons qd .nil))⟩
theorem sw_turns (hg : SG mg WF g k) (hk : KG g vs) (ht : ST mg WF tt ft) (hin : SW mg inn F) {xs ys y0 : List D} {s2 : S} {J : It} {L : List Addr} {P : Hp → Prop}
    (r1 : Rep B σ (era H A) Hi as s) (hA : H A = some (.lst a0)) (HiA : Hi A = none) (d0 : DqA Hi a0 y0) (hL : ∀ a ∈ L, a ∈ B.lk0 ++ B.lk1) (hJ : ItD J L Hi xs)
    (q0 : lc2L k ft F xs ⟨wipeD s.sl vs, s.ce⟩ = .ok ys s2) (hn : y0.length + ys.length ≤ 1000000)
    (hP : ∀ (H' Hi' : Hp) (acc : List V), H' A = some (.lst acc) → Hi' A = none → Rep B σ (era H' A) Hi' as ⟨s.sl, s2.ce⟩ → Same Hi Hi' → DqA Hi' acc (y0 ++ ys) → P H') : tTurns J g tt vs (inn A) σ H P := by
  refine ⟨fun i m H2 => m + i = xs.length ∧ ∃ acc yacc ce Hi2, H2 A = some (.lst acc) ∧ Hi2 A = none ∧ Rep B (L2.wipe σ vs) (era H2 A) Hi2 as ⟨wipeD s.sl vs, ce⟩ ∧ Same Hi Hi2 ∧ DqA Hi2 acc yacc ∧
    ∃ zs s', lc2L k ft F (xs.drop i) ⟨wipeD s.sl vs, ce⟩ = .ok zs s' ∧ yacc ++ zs = y0 ++ ys ∧ s' = s2, ⟨xs.length, rfl, a0, y0, s.ce, Hi, hA, HiA, r1.wipe vs, Same.refl _, d0, ys, s2, q0, rfl, rfl⟩, ?_⟩
  rintro i m H2 ⟨hm, acc, yacc, ce, Hi2, hAa, hHiA, r2, e2, da, zs, s', q2, hys, hs'⟩
  have rb := (r2.withA hAa).enter
  have hL' : ∀ a ∈ L, a ∈ (B.sub H2 Hi2 as ce).lk0 ++ (B.sub H2 Hi2 as ce).lk1 := fun a ha => by
    show a ∈ B.lk0 ++ B.lk1 ++ []
    rw [List.append_nil]
    exact hL a ha
  obtain ⟨step, stop⟩ := hJ _ hL' (L2.wipe σ vs) H2 Hi2 as _ rb e2 i
  by_cases hlt : i < xs.length
  · obtain ⟨d, hd⟩ : ∃ d, xs[i]? = some d := ⟨_, List.getElem?_eq_getElem hlt⟩
    have ex : xs.drop i = d :: xs.drop (i + 1) := by
      rw [List.drop_eq_getElem_cons hlt]
      rw [List.getElem?_eq_getElem hlt] at hd
      cases hd; rfl
    rw [ex] at q2
    obtain ⟨go, yl⟩ := step d hd
    refine .inr ⟨go, fun H' => ∃ acc yacc ce Hi2, H' A = some (.lst acc) ∧ Hi2 A = none ∧ Rep B (L2.wipe σ vs) (era H' A) Hi2 as ⟨wipeD s.sl vs, ce⟩ ∧ Same Hi Hi2 ∧ DqA Hi2 acc yacc ∧
      ∃ zs s', lc2L k ft F (xs.drop (i + 1)) ⟨wipeD s.sl vs, ce⟩ = .ok zs s' ∧ yacc ++ zs = y0 ++ ys ∧ s' = s2, ?_, ?_⟩
    · rintro H' ⟨acc, yacc, ce, Hi3, z⟩
      exact ⟨m - 1, by omega, by omega, acc, yacc, ce, Hi3, z⟩
    · intro x H3 hy
      obtain ⟨Hi3, r3, e3, q3⟩ := yl x H3 hy
      obtain ⟨o, s4, zs', q4, q5, rfl⟩ : ∃ o s4 zs', lc2T k ft F d ⟨wipeD s.sl vs, ce⟩ = .ok o s4 ∧ lc2L k ft F (xs.drop (i + 1)) ⟨wipeD s.sl vs, cutC ce.length s4.ce⟩ = .ok zs' s' ∧ zs = o ++ zs' := by
        simp only [lc2L] at q2
        cases z : lc2T k ft F d ⟨wipeD s.sl vs, ce⟩ with
        | no => rw [z] at q2; cases q2
        | ex x s' => rw [z] at q2; cases q2
        | ok o s4 =>
          rw [z] at q2
          simp only at q2
          cases z2 : lc2L k ft F (xs.drop (i + 1)) ⟨wipeD s.sl vs, cutC ce.length s4.ce⟩ with
          | no => rw [z2] at q2; cases q2
          | ex x s' => rw [z2] at q2; cases q2
          | ok ys' s'' => rw [z2] at q2; cases q2; exact ⟨o, s4, ys', rfl, z2, rfl⟩
      have w4 : wpR (lc2T k ft F d ⟨wipeD s.sl vs, ce⟩) (fun o' s' => o' = o ∧ s' = s4) (fun _ _ => False) := by rw [q4]; exact ⟨rfl, rfl⟩
      refine hk.mono _ _ _ _ _ (fun σ5 H5 ⟨k5, q⟩ => ⟨by rw [k5, wipe_wipe], q⟩) (hk.keep _ _ _ _ (hg _ _ H3 Hi3 as _ (.d d) x _ r3 (.d q3) (wp_mono (wp_bnd w4) (fun _ s5 w5 σ5 => ?_) fun _ _ z => z.elim)))
      intro H5 Hi5 as5 r5 e5 p5
      refine ht _ σ5 H5 Hi5 as5 s5 _ r5 (wp_mono (wp_bnd w5) (fun b s6 w6 => ?_) fun _ _ z => z.elim)
      intro H6 Hi6 as6 r6 e6 p6
      have E6 : Same Hi2 Hi6 := (e3.trans e5).trans e6
      obtain ⟨k1, k2, k3⟩ := r2.keepA hAa hHiA r6
      cases b with
      | false =>
        obtain ⟨rfl, rfl⟩ := w6
        exact ⟨acc, yacc, _, Hi6, k1, k2, r2.cut k3 E6 (p5.trans p6), e2.trans E6, da.mono E6, zs', s', q5, by simpa using hys, hs'⟩
      | true =>
        simp only [if_true] at w6 ⊢
        have q6 : F s6 = .ok o s4 := by
          cases z : F s6 with
          | no => rw [z] at w6; exact w6.elim
          | ex x s' => rw [z] at w6; exact w6.elim
          | ok o' s7 => rw [z] at w6; obtain ⟨rfl, rfl⟩ := w6; rfl
        have hz := congrArg List.length hys
        simp only [List.length_append] at hz
        refine hin B σ5 H6 Hi6 as6 s6 A acc yacc o s4 _ k3 k1 k2 (da.mono E6) q6 (by omega) fun H8 Hi8 as8 acc8 h1 h2 h3 h4 h5 h6 => ?_
        obtain ⟨σ8, h3⟩ := h3
        exact ⟨acc8, yacc ++ o, _, Hi8, h1, h2, r2.cut h3 (E6.trans h4) ((p5.trans p6).trans h5), (e2.trans E6).trans h4, h6, zs', s', q5, by simpa using hys, hs'⟩
  · have ex : xs.drop i = [] := List.drop_eq_nil_of_le (by omega)
    rw [ex] at q2
    cases q2
    rw [List.append_nil] at hys
    subst hs'
    have r4 : Rep B σ (era H2 A) Hi2 as ⟨s.sl, ce⟩ := ⟨r2.sub, r2.lkd, r2.fr, r2.hin, r2.new, r1.len, fun i x h => by
      obtain ⟨v, k1, k2⟩ := r1.slo i x h
      exact ⟨v, k1, k2.mono e2 (List.prefix_refl _)⟩, r2.lea, r2.cel, r2.inj⟩
    rw [hys] at da
    exact .inl ⟨stop (by omega), hP H2 Hi2 acc hAa hHiA r4 e2 da⟩
theorem fCl_inv {xs : List D} {s1 : S} {P : List D → S → Prop} {E : Ex → S → Prop} (w : wpR ((fun (xs : List D) (s : S) => (match lc2L k ft F xs ⟨wipeD s.sl vs, s.ce⟩ with
    | .ok ys s' => if ys.length ≤ 1000000 then R.ok ys ⟨s.sl, s'.ce⟩ else .no
    | .ex _ _ => .no
    | .no => .no)) xs s1) P E) : ∃ ys s', lc2L k ft F xs ⟨wipeD s1.sl vs, s1.ce⟩ = .ok ys s' ∧ ys.length ≤ 1000000 ∧ P ys ⟨s1.sl, s'.ce⟩ := by
  simp only at w
  cases e : lc2L k ft F xs ⟨wipeD s1.sl vs, s1.ce⟩ with
  | ok ys s' =>
    rw [e] at w
    simp only at w
    by_cases hn : ys.length ≤ 1000000
    · rw [if_pos hn] at w; exact ⟨ys, s', rfl, hn, w⟩
    · rw [if_neg hn] at w; exact w.elim
  | ex x s' => rw [e] at w; exact w.elim
  | no => rw [e] at w; exact w.elim
theorem sw_cl (hi : SI mg WF wi fi) (hg : SG mg WF g k) (hk : KG g vs) (ht : ST mg WF tt ft) (hin : SW mg inn F) : SW mg (fun A => tCl wi g tt vs (inn A)) (fCl fi k ft F vs) := fun B σ H Hi as s A a0 y0 ys s' N r hA hiA d0 q hn hN => by
  have w : wpR (fCl fi k ft F vs s) (fun o t => o = ys ∧ t = s') (fun _ _ => False) := by rw [q]; exact ⟨rfl, rfl⟩
  refine hi _ σ H Hi as s _ (r.withA hA).enter (wp_mono (wp_bnd w) (fun xs s1 w1 => ?_) fun _ _ z => z.elim)
  intro H1 Hi1 as1 r1 e1 p1 J L hL hJ
  obtain ⟨ys', t, q1, q2, rfl, rfl⟩ := fCl_inv w1
  obtain ⟨k1, k2, k3⟩ := r.keepA hA hiA r1
  refine sw_turns hg hk ht hin k3 k1 k2 (d0.mono e1) (fun a ha => ?_) hJ q1 hn fun H' Hi' acc h1 h2 h3 h4 h5 => ?_
  · have q' : a ∈ B.lk0 ++ B.lk1 ++ [] := hL a ha
    rwa [List.append_nil] at q'
  · exact hN H' Hi' as1 acc h1 h2 ⟨_, h3⟩ (e1.trans h4) p1 h5
theorem sf_lcN (hi : SI mg W wi fi) (hg : SG mg WF g k) (hk : KG g vs) (ht : ST mg WF tt ft) (hin : SW mg inn F) : SF mg W (tLcN wi g tt vs inn) (fCl fi k ft F vs) := fun B σ H Hi as s Q rp w => by
  refine hi B σ H Hi as s _ rp (wp_mono (wp_bnd w) (fun xs s1 w1 => ?_) fun _ _ z => z)
  intro H1 Hi1 as1 r1 e1 p1 J L hL hJ A hA
  obtain ⟨ys, t, q1, q2, w2⟩ := fCl_inv w1
  have ee : era (upd H1 A (.lst [])) A = H1 := by
    rw [era_upd]
    funext b
    by_cases z : b = A
    · subst z; rw [era_same, hA]
    · rw [era_ne z]
  refine sw_turns (y0 := []) hg hk ht hin (by rw [ee]; exact r1) upd_same (r1.fresh hA) .nil hL hJ q1 (by simpa using q2) fun H' Hi' acc h1 h2 h3 h4 h5 => ?_
  have := w2 (era H' A) Hi' as1 h3 (e1.trans h4) p1 A acc era_same h5
  rwa [upd_era h1] at this
end
end DL

end DLsec_32

section DLsec_33
set_option maxRecDepth 100000
/-! dicts: walked, made, written, frozen -/
namespace DL
open PySem PySem.Spec PyProof.Rows L2
section
variable {mg : Str → Option Value} {W : WX} {B : Bd mg} {σ : L2.St} {H Hi : Hp} {as : List Addr} {s : S}
variable {ta tb tc te tk tv : TE} {fa fb fc fe fk fv : M Vl}
/-- a cell is given up -/
theorem Rep.kill (r : Rep B σ H Hi as s) (j : Nat) : Rep B σ H Hi as { s with ce := s.ce.set j .g } := by
  have look : ∀ (i : Nat) (c : Ce), (s.ce.set j .g)[i]? = some c → c = .g ∨ s.ce[i]? = some c := fun i c e => by
    by_cases z : j = i
    · subst z
      rw [List.getElem?_set] at e
      simp only [if_true] at e
      split at e
      · exact .inl (Option.some.inj e).symm
      · cases e
    · rw [List.getElem?_set_ne z] at e
      exact .inr e
  refine ⟨r.sub, r.lkd, r.fr, r.hin, fun i a c e1 e2 al => ?_, r.len, r.slo, by simp [r.lea], fun i a c e1 e2 => ?_, fun i k a c c' e1 e2 e3 e4 a1 a2 => ?_⟩
  · rcases look i c e2 with rfl | e
    · cases al
    · exact r.new i a c e1 e al
  · rcases look i c e2 with rfl | e
    · trivial
    · exact r.cel i a c e1 e
  · rcases look i c e3 with rfl | e
    · cases a1
    · rcases look k c' e4 with rfl | e'
      · cases a2
      · exact r.inj i k a c c' e1 e2 e e' a1 a2
def frzL (x : Vl) : M D := fun s => match x with
  | .c j => match s.ce[j]? with
    | some (.m kvs) => .ok (.dict (kvs.map fun p => (kD p.1, p.2))) { s with ce := s.ce.set j .g }
    | _ => .no
  | _ => .no
/-- a new dict as data -/
def fFrzL (f : M Vl) : M Vl := fun s => match bnd f frzL s with
  | .ok y s2 => .ok (.d y) ⟨s.sl, cutC s.ce.length s2.ce⟩
  | .ex e s2 => .ex e s2
  | .no => .no
theorem se_frzL (h : SE mg W ta fa) : SE mg W (tLockR ta) (fFrzL fa) := fun B σ H Hi as s Q rp w => by
  have w0 : wpR (bnd fa frzL s) (fun y s2 => OKs B σ Hi as ⟨s.sl, cutC s.ce.length s2.ce⟩ fun H' Hi' as' => ∀ v, RelVl Hi' as' v (.d y) → Q v H') (XW mg W B σ Hi as) := by
    unfold fFrzL at w
    cases e : bnd fa frzL s with
    | ok y s2 => rw [e] at w; exact w
    | ex x s2 => rw [e] at w; exact w
    | no => rw [e] at w; exact w
  refine h B σ H Hi as s _ rp (wp_mono (wp_bnd w0) (fun x s1 w1 => ?_) fun _ _ z => z)
  intro H1 Hi1 as1 r1 e1 p1 v hv
  cases hv with
  | d _ => exact w1.elim
  | @c a j q =>
    simp only [frzL] at w1
    cases hc : s1.ce[j]? with
    | none => rw [hc] at w1; exact w1.elim
    | some c =>
      rw [hc] at w1
      cases c with
      | m kvs =>
        obtain ⟨hn, vs, h1, h2⟩ := r1.cel j a _ q hc
        refine ⟨a, _, rfl, h1, trivial, fun od => ?_⟩
        have own := r1.new j a _ q hc rfl
        have r2 := r1.kill j
        have r3 : Rep B σ (era H1 a) Hi1 as1 { s1 with ce := s1.ce.set j .g } := r2.era hn own.symm fun i c k1 k2 => by
          cases al : c.alive with
          | false => rfl
          | true =>
            by_cases z : j = i
            · subst z
              rw [List.getElem?_set_self (lt_of_get hc)] at k2
              cases k2; cases al
            · rw [List.getElem?_set_ne z] at k2
              exact absurd (r1.inj j i a _ c q k1 hc k2 rfl al) z
        have r4 := r3.addI (o := .frz od (.dK vs)) (p := a) era_same
        have eu : upd (era H1 a) a (.frz od (.dK vs)) = upd H1 a (.frz od (.dK vs)) := by
          funext b
          by_cases z : b = a
          · subst z; rw [upd_same, upd_same]
          · rw [upd_ne z, upd_ne z, era_ne z]
        rw [eu] at r4
        have sm : Same Hi1 (upd Hi1 a (.frz od (.dK vs))) := same_new hn
        exact w1 _ _ as (rp.cut r4 (e1.trans sm) p1) (e1.trans sm) (List.prefix_refl _) _ (.d (.dct upd_same (h2.mono sm).toM))
      | _ => exact w1.elim
/-! ### what is walked -/
theorem DqM.get {H : Hp} : ∀ {v : List (Key × V)} {d : List (D × D)} {i : Nat} {x : D × D}, DqM H v d → d[i]? = some x → ∃ k y, v[i]? = some (k, y) ∧ x.1 = kD k ∧ Dq H y x.2
  | _, _, _, _, .nil, e => by simp at e
  | _, _, 0, _, .cons h _, e => by simp at e; subst e; exact ⟨_, _, rfl, rfl, h⟩
  | _, _, i + 1, x, .cons _ r, e => by
    obtain ⟨k, y, a, b⟩ := DqM.get (i := i) (x := x) r (by simpa using e)
    exact ⟨k, y, by simpa using a, b⟩
theorem DqM.length {H : Hp} : ∀ {v : List (Key × V)} {d : List (D × D)}, DqM H v d → v.length = d.length
  | _, _, .nil => rfl
  | _, _, .cons _ r => congrArg (· + 1) (DqM.length r)
theorem Rep.frzAt (r : Rep B σ H Hi as s) {a : Addr} {o : Obj} {u : HO} (h : Hi a = some (.frz o u)) : H a = some (.frz o u) :=
  (r.sub a _ h).of_notin fun z => by
    obtain ⟨k, e⟩ := r.lkd a z
    rw [h] at e; cases e
def dsOf : Vl → Option (List (D × D))
  | .d (.dict ds) => some ds
  | _ => none
def fItemsI (fo : M Vl) : M (List D) := bnd fo fun x => gets fun _ => (dsOf x).map itemsD
def fValsI (fo : M Vl) : M (List D) := bnd fo fun x => gets fun _ => (dsOf x).map fun ds => ds.map (·.2)
def fKeysI (fo : M Vl) : M (List D) := bnd fo fun x => gets fun _ => (dsOf x).map fun ds => ds.map (·.1)
theorem dsOf_inv {v : V} {x : Vl} {ds : List (D × D)} (h : RelVl Hi as v x) (e : dsOf x = some ds) : ∃ a o kvs, v = .ref a ∧ Hi a = some (.frz o (.dK kvs)) ∧ DqM Hi kvs ds := by
  cases h with
  | c _ => cases e
  | d q =>
    cases q with
    | dct h1 h2 => cases e; exact ⟨_, _, _, rfl, h1, h2⟩
    | _ => cases e
theorem si_items (ho : SE mg W ta fa) : SI mg W (iItems ta) (fItemsI fa) := fun B σ H Hi as s R rp w => by
  refine ho B σ H Hi as s _ rp (wp_mono (wp_bnd w) (fun x s1 w1 => ?_) fun _ _ z => z)
  intro H1 Hi1 as1 r1 e1 p1 v hv
  obtain ⟨z, q, w2⟩ := wp_gets w1
  cases hd : dsOf x with
  | none => rw [hd] at q; cases q
  | some ds =>
    rw [hd] at q; cases q
    obtain ⟨a, o, kvs, rfl, ha, hm⟩ := dsOf_inv hv hd
    refine ⟨a, o, kvs, rfl, r1.frzAt ha, w2 H1 Hi1 as1 r1 e1 p1 _ [] (by simp) ?_⟩
    intro mg' B' _ σ' H' Hi' as' s' r' e' i
    have hH : H' a = some (.frz o (.dK kvs)) := r'.frzAt (e' _ _ ha)
    have hl := hm.length
    refine ⟨fun d hd => ?_, fun hi => ⟨hH, by simp [itemsD] at hi; omega⟩⟩
    rw [itemsD, List.getElem?_map] at hd
    cases hg : ds[i]? with
    | none => rw [hg] at hd; cases hd
    | some p =>
      rw [hg] at hd; cases hd
      obtain ⟨k, y, k1, k2, k3⟩ := hm.get hg
      refine ⟨⟨hH, lt_of_get k1⟩, fun x' H'' hy => ?_⟩
      obtain ⟨T, k', y', j1, rfl, j2, rfl⟩ := hy
      rw [k1] at j1; cases j1
      have sm : Same Hi' (upd Hi' T (.tup [kV k, y])) := same_new (r'.fresh j2)
      refine ⟨_, r'.addI j2, sm, .tup upd_same ?_⟩
      rw [k2]
      exact .cons (dqkD k) (.cons ((k3.mono e').mono sm) .nil)
theorem si_vals (ho : SE mg W ta fa) : SI mg W (iVals ta) (fValsI fa) := fun B σ H Hi as s R rp w => by
  refine ho B σ H Hi as s _ rp (wp_mono (wp_bnd w) (fun x s1 w1 => ?_) fun _ _ z => z)
  intro H1 Hi1 as1 r1 e1 p1 v hv
  obtain ⟨z, q, w2⟩ := wp_gets w1
  cases hd : dsOf x with
  | none => rw [hd] at q; cases q
  | some ds =>
    rw [hd] at q; cases q
    obtain ⟨a, o, kvs, rfl, ha, hm⟩ := dsOf_inv hv hd
    refine ⟨a, o, kvs, rfl, r1.frzAt ha, w2 H1 Hi1 as1 r1 e1 p1 _ [] (by simp) ?_⟩
    intro mg' B' _ σ' H' Hi' as' s' r' e' i
    have hH : H' a = some (.frz o (.dK kvs)) := r'.frzAt (e' _ _ ha)
    have hl := hm.length
    refine ⟨fun d hd => ?_, fun hi => ⟨hH, by simp at hi; omega⟩⟩
    rw [List.getElem?_map] at hd
    cases hg : ds[i]? with
    | none => rw [hg] at hd; cases hd
    | some p =>
      rw [hg] at hd; cases hd
      obtain ⟨k, y, k1, k2, k3⟩ := hm.get hg
      refine ⟨⟨hH, lt_of_get k1⟩, fun x' H'' hy => ?_⟩
      obtain ⟨rfl, k', j1⟩ := hy
      rw [k1] at j1; cases j1
      exact ⟨Hi', r', Same.refl _, k3.mono e'⟩
theorem si_keys (ho : SE mg W ta fa) : SI mg W (iKeys ta) (fKeysI fa) := fun B σ H Hi as s R rp w => by
  refine ho B σ H Hi as s _ rp (wp_mono (wp_bnd w) (fun x s1 w1 => ?_) fun _ _ z => z)
  intro H1 Hi1 as1 r1 e1 p1 v hv
  obtain ⟨z, q, w2⟩ := wp_gets w1
  cases hd : dsOf x with
  | none => rw [hd] at q; cases q
  | some ds =>
    rw [hd] at q; cases q
    obtain ⟨a, o, kvs, rfl, ha, hm⟩ := dsOf_inv hv hd
    refine ⟨a, o, rfl, .inl ⟨kvs, r1.frzAt ha, w2 H1 Hi1 as1 r1 e1 p1 _ [] (by simp) ?_⟩⟩
    intro mg' B' _ σ' H' Hi' as' s' r' e' i
    have hH : H' a = some (.frz o (.dK kvs)) := r'.frzAt (e' _ _ ha)
    have hl := hm.length
    refine ⟨fun d hd => ?_, fun hi => ⟨hH, by simp at hi; omega⟩⟩
    rw [List.getElem?_map] at hd
    cases hg : ds[i]? with
    | none => rw [hg] at hd; cases hd
    | some p =>
      rw [hg] at hd; cases hd
      obtain ⟨k, y, k1, k2, k3⟩ := hm.get hg
      refine ⟨⟨hH, lt_of_get k1⟩, fun x' H'' hy => ?_⟩
      obtain ⟨rfl, k', y', j1, rfl⟩ := hy
      rw [k1] at j1; cases j1
      exact ⟨Hi', r', Same.refl _, by show Dq Hi' (kV k) p.1; rw [k2]; exact dqkD k⟩
/-! ### new dicts, written -/
def fDNewM : M Vl := fun s => .ok (.c s.ce.length) { s with ce := s.ce ++ [.m []] }
theorem se_dnewM : SE mg W tDNewK fDNewM := fun B σ H Hi as s Q rp w p hp => by
  refine w _ _ _ (rp.addC (c := .m []) hp rfl ⟨rp.fresh hp, [], upd_same, .nil⟩) (Same.refl _) (List.prefix_append _ _) _ (.c ?_)
  rw [← rp.lea, List.getElem?_append_right (Nat.le_refl _), Nat.sub_self]
  rfl
def putD (kvs : List (Key × D)) (k : Key) (d : D) : List (Key × D) := if (kvs.any fun p => decide (p.1 = k)) = true then kvs.map (fun p => if p.1 = k then (p.1, d) else p) else kvs ++ [(k, d)]
theorem DqK.any {H : Hp} {k : Key} : ∀ {v : List (Key × V)} {d : List (Key × D)}, DqK H v d → (v.any fun p => decide (p.1 = k)) = (d.any fun p => decide (p.1 = k))
  | _, _, .nil => rfl
  | _, _, .cons _ r => by simp [DqK.any r]
theorem DqK.length {H : Hp} : ∀ {v : List (Key × V)} {d : List (Key × D)}, DqK H v d → v.length = d.length
  | _, _, .nil => rfl
  | _, _, .cons _ r => congrArg (· + 1) (DqK.length r)
theorem DqK.snoc {H : Hp} {k : Key} {y : V} {x : D} (h : Dq H y x) : ∀ {v : List (Key × V)} {d : List (Key × D)}, DqK H v d → DqK H (v ++ [(k, y)]) (d ++ [(k, x)])
  | _, _, .nil => .cons h .nil
  | _, _, .cons q r => .cons q (DqK.snoc h r)
theorem DqK.repl {H : Hp} {k : Key} {y : V} {x : D} (h : Dq H y x) : ∀ {v : List (Key × V)} {d : List (Key × D)}, DqK H v d → DqK H (v.map fun p => if p.1 = k then (p.1, y) else p) (d.map fun p => if p.1 = k then (p.1, x) else p)
  | _, _, .nil => .nil
  | _, _, .cons (k := k') q r => by
    simp only [List.map_cons]
    by_cases e : k' = k
    · rw [if_pos e, if_pos e]; exact .cons h (DqK.repl h r)
    · rw [if_neg e, if_neg e]; exact .cons q (DqK.repl h r)
theorem DqK.put {H : Hp} {k : Key} {y : V} {x : D} {v : List (Key × V)} {d : List (Key × D)} (q : DqK H v d) (h : Dq H y x) : DqK H (putK v k y) (putD d k x) := by
  unfold putK putD
  rw [q.any]
  split
  · exact q.repl h
  · exact q.snoc h
/-- d[k] = v -/
def putC (o : Vl) (i : Vl) (d : D) : M Unit := fun s => match o, i with
  | .c j, .d y => match s.ce[j]?, keyD y with
    | some (.m kvs), some k => if kvs.length < 1000000 then .ok () { s with ce := s.ce.set j (.m (putD kvs k d)) } else .no
    | _, _ => .no
  | _, _ => .no
def fDPut (fo fi fx : M Vl) : M Fl := bnd fx fun x => bnd fo fun o => bnd fi fun i => bnd (frz x) fun d => bnd (putC o i d) fun _ => ret .nx
theorem ss_dput (ho : SE mg W ta fa) (hi : SE mg W tb fb) (hx : SE mg W tc fc) : SS mg W (sDPut ta tb tc) (fDPut fa fb fc) := fun B σ H Hi as s Dn rp w => by
  refine hx B σ H Hi as s _ rp (wp_mono (wp_bnd w) (fun x s1 w1 => ?_) fun _ _ z => z σ)
  intro H1 Hi1 as1 r1 e1 p1 v hv
  refine ho B σ H1 Hi1 as1 s1 _ r1 (wp_mono (wp_bnd w1) (fun o s2 w2 => ?_) fun e s' z => XW.mono (z σ) e1 p1)
  intro H2 Hi2 as2 r2 e2 p2 u hu
  refine hi B σ H2 Hi2 as2 s2 _ r2 (wp_mono (wp_bnd w2) (fun i s3 w3 => ?_) fun e s' z => XW.mono (z σ) (e1.trans e2) (p1.trans p2))
  intro H3 Hi3 as3 r3 e3 p3 t ht
  obtain ⟨d, s4, Hi4, w4, r4, e4, q4⟩ := r3.frz ((hv.mono e2 p2).mono e3 p3) (wp_bnd w3)
  have w5 := wp_bnd w4
  have hu4 := (hu.mono e3 p3).mono e4 (List.prefix_refl _)
  have ht4 := ht.mono e4 (List.prefix_refl _)
  cases hu4 with
  | d _ => exact w5.elim
  | @c a j q =>
    cases ht4 with
    | c _ => exact w5.elim
    | d hy =>
      rename_i yd
      simp only [putC] at w5
      cases hc : s4.ce[j]? with
      | none => rw [hc] at w5; exact w5.elim
      | some c =>
        rw [hc] at w5
        cases c with
        | m kvs =>
          cases hk : keyD yd with
          | none => rw [hk] at w5; exact w5.elim
          | some k =>
            rw [hk] at w5
            simp only at w5
            split at w5
            case isFalse => exact w5.elim
            case isTrue hn =>
            obtain ⟨hnn, vs, h1, h2⟩ := r4.cel j a _ q hc
            have hu := keyD_inv hy hk
            have r5 := r4.mut (c' := .m (putD kvs k d)) (o := .dK (putK vs k v)) q hc rfl rfl ⟨hnn, _, upd_same, h2.put q4⟩
            refine ⟨a, _, rfl, .inl ⟨vs, k, h1, hu, by rw [h2.length]; exact lt_line hn, rfl⟩, ?_⟩
            exact w5 σ _ Hi4 as3 r5 (((e1.trans e2).trans e3).trans e4) ((p1.trans p2).trans p3)
        | _ => exact w5.elim
/-! ### sorted(d), keys ints -/
def intKeys : List (D × D) → Option (List Int)
  | [] => some []
  | (.int i, _) :: r => (intKeys r).map (i :: ·)
  | _ => none
theorem intKeys_inv {H : Hp} : ∀ {v : List (Key × V)} {d : List (D × D)} {ks : List Int}, DqM H v d → intKeys d = some ks → v.map (·.1) = ks.map Sum.inl
  | _, _, _, .nil, e => by cases e; rfl
  | _, _, ks, .cons (k := k) _ r, e => by
    cases k with
    | inr x => simp [kD, intKeys] at e
    | inl i =>
      simp only [kD, intKeys] at e
      cases h : intKeys _ with
      | none => rw [h] at e; cases e
      | some ks' =>
        rw [h] at e; cases e
        simp [intKeys_inv r h]
def oSortK : OA (List D) := fun xs s => match xs with
  | [x] => match dictOf s x with
    | some ds => match intKeys ds with
      | some ks => if ks.length < 64 then some ((srt ks).map .int) else none
      | none => none
    | none => none
  | _ => none
def rSortK : RC := fun xs H Q => ∃ (a : Addr) (kvs : List (Key × V)) (ks : List Int), xs = [.ref a] ∧ Rd H a (.dK kvs) ∧ kvs.map (·.1) = ks.map Sum.inl ∧ ks.length < 64 ∧
    ∀ (ys : List Int) (p : Addr), ys.Perm ks → ys.Pairwise (· ≤ ·) → H p = none → Q (.ref p) (upd H p (.lst (ys.map V.int)))
theorem ca_sortK : CaF rSortK oSortK := fun B σ H Hi as s xs z vs Q rp hv e q => by
  cases hv with
  | nil => cases e
  | cons a1 a2 =>
    cases a2 with
    | cons _ _ => cases e
    | nil =>
      rename_i v x
      simp only [oSortK] at e
      cases h1 : DL.dictOf s x with
      | none => rw [h1] at e; cases e
      | some ds =>
        rw [h1] at e
        simp only at e
        cases h2 : intKeys ds with
        | none => rw [h2] at e; cases e
        | some ks =>
          rw [h2] at e
          simp only at e
          split at e
          · rename_i hn
            cases e
            obtain ⟨a, kvs, rfl, hr, hm⟩ := rp.dictOf a1 h1
            refine ⟨a, kvs, ks, rfl, hr, intKeys_inv hm h2, hn, fun ys p pm so hp => ?_⟩
            have : ys = srt ks := sorted_eq (pm.trans (srt_perm ks).symm) so (srt_sorted ks)
            subst this
            exact q H Hi rp (Same.refl _) p _ hp (DqA.ints _)
          · cases e
end
theorem sortKK {X : Cx} (hc : X.calm = true) : CallR X (.builtin "sorted") rSortK := call_sortedDI hc
end DL

end DLsec_33

section DLsec_34
set_option maxRecDepth 100000
/-! dict comprehensions -/
namespace DL
open PySem PySem.Spec PyProof.Rows L2
def dcT (k : Vl → M Unit) (t : M Bool) (ek ev : M Vl) (x : D) : M (Option (Key × D)) := bnd (k (.d x)) fun _ => bnd t fun b => if b = true then bnd (fFrz ek) (fun y => bnd (fFrz ev) fun z => match y, z with
  | .d yd, .d zd => match keyD yd with
    | some key => ret (some (key, zd))
    | none => stuck
  | _, _ => stuck) else ret none
def dcL (k : Vl → M Unit) (t : M Bool) (ek ev : M Vl) : List D → M (List (Key × D))
  | [] => ret []
  | x :: xs => fun s => match dcT k t ek ev x s with
    | .ok o s' => (match dcL k t ek ev xs ⟨s.sl, cutC s.ce.length s'.ce⟩ with
      | .ok ys s'' => .ok (o.toList ++ ys) s''
      | r => r)
    | .ex _ _ => .no
    | .no => .no
def putsD (acc ys : List (Key × D)) : List (Key × D) := ys.foldl (fun a p => putD a p.1 p.2) acc
/-- {k: v for .. in ..}, a new dict -/
def fDcM (fi : M (List D)) (k : Vl → M Unit) (t : M Bool) (ek ev : M Vl) (vs : List Nat) : M Vl := bnd fi fun xs s => match dcL k t ek ev xs ⟨wipeD s.sl vs, s.ce⟩ with
  | .ok ys s' => if ys.length ≤ 1000000 then .ok (.c s'.ce.length) ⟨s.sl, s'.ce ++ [.m (putsD [] ys)]⟩ else .no
  | .ex _ _ => .no
  | .no => .no
theorem putD_len (kvs : List (Key × D)) (k : Key) (d : D) : (putD kvs k d).length ≤ kvs.length + 1 := by
  unfold putD
  split
  · rw [List.length_map]; omega
  · rw [List.length_append, List.length_singleton]; omega
section
variable {mg : Str → Option Value} {W : WX} {B : Bd mg} {σ : L2.St} {H Hi : Hp} {as : List Addr} {s : S} {A : Addr} {o : HO}
variable {tk tv : TE} {fk fv : M Vl} {wi : TI} {fi : M (List D)} {g : TG} {tt : TT} {vs : List Nat} {k : Vl → M Unit} {ft : M Bool}
theorem Rep.withO (r : Rep B σ (DL.era H A) Hi as s) (hA : H A = some o) : Rep B σ H Hi as s := by
  have := r.add (o := o) (p := A) era_same
  rwa [upd_era hA] at this
theorem Rep.keepO (r : Rep B σ (DL.era H A) Hi as s) (hA : H A = some o) (hi : Hi A = none) {σ' : L2.St} {H' Hi' : Hp} {as' : List Addr} {s' : S} (r' : Rep (B.sub H Hi as s.ce) σ' H' Hi' as' s') :
    H' A = some o ∧ Hi' A = none ∧ Rep B σ' (DL.era H' A) Hi' as' s' := by
  have nA := r.notA
  have h1 : H' A = some o := by
    have q : HL [] H' A o := r'.fr A _ hA nA
    unfold HL at q
    rwa [if_neg (by simp)] at q
  have h2 : Hi' A = none := by
    cases z : Hi' A with
    | none => rfl
    | some u =>
      rcases r'.hin A u z with q | q | q
      · have q' : Hi A = some u := q
        rw [hi] at q'; cases q'
      · have q' : H A = none := q
        rw [hA] at q'; cases q'
      · exact absurd q nA
  refine ⟨h1, h2, ((r.withO hA).leave r').era h2 (r.fresh0 era_same) fun j c e1 e2 => ?_⟩
  cases al : c.alive with
  | false => rfl
  | true =>
    rcases r'.new j A c e1 e2 al with q | q
    · exact absurd q nA
    · have q' : H A = none := q
      rw [hA] at q'; cases q'
theorem se_dc (hi : SI mg W wi fi) (hg : SG mg WF g k) (hk : KG g vs) (ht : ST mg WF tt ft) (hy : SE mg WF tk fk) (hz : SE mg WF tv fv) : SE mg W (tDc wi g tt tk tv vs) (fDcM fi k ft fk fv vs) := fun B σ H Hi as s Q rp w => by
  refine hi B σ H Hi as s _ rp (wp_mono (wp_bnd w) (fun xs s1 w1 => ?_) fun _ _ z => z)
  intro H1 Hi1 as1 r1 e1 p1 J L hL hJ A hA
  obtain ⟨ys, st, q0, hn, w2⟩ : ∃ ys s', dcL k ft fk fv xs ⟨wipeD s1.sl vs, s1.ce⟩ = .ok ys s' ∧ ys.length ≤ 1000000 ∧ OKs B σ Hi as ⟨s1.sl, s'.ce ++ [.m (putsD [] ys)]⟩ (fun H' Hi' as' => ∀ v, RelVl Hi' as' v (.c s'.ce.length) → Q v H') := by
    cases e : dcL k ft fk fv xs ⟨wipeD s1.sl vs, s1.ce⟩ with
    | ok ys s' =>
      rw [e] at w1
      simp only at w1
      by_cases hn : ys.length ≤ 1000000
      · rw [if_pos hn] at w1; exact ⟨ys, s', rfl, hn, w1⟩
      · rw [if_neg hn] at w1; exact w1.elim
    | ex x s' => rw [e] at w1; exact w1.elim
    | no => rw [e] at w1; exact w1.elim
  have ee : era (upd H1 A (.dK [])) A = H1 := by
    rw [era_upd]
    funext b
    by_cases z : b = A
    · subst z; rw [era_same, hA]
    · rw [era_ne z]
  refine ⟨fun i m H2 => m + i = xs.length ∧ ∃ acc yacc ce Hi2, H2 A = some (.dK acc) ∧ Hi2 A = none ∧ Rep B (L2.wipe σ vs) (era H2 A) Hi2 as1 ⟨wipeD s1.sl vs, ce⟩ ∧ Same Hi1 Hi2 ∧ DqK Hi2 acc yacc ∧
    ∃ zs s', dcL k ft fk fv (xs.drop i) ⟨wipeD s1.sl vs, ce⟩ = .ok zs s' ∧ putsD yacc zs = putsD [] ys ∧ yacc.length + zs.length ≤ 1000000 ∧ s' = st, ⟨xs.length, rfl, [], [], s1.ce, Hi1, upd_same, r1.fresh hA, by rw [ee]; exact r1.wipe vs, Same.refl _, .nil, ys, st, q0, rfl, by simpa using hn, rfl⟩, ?_⟩
  rintro i m H2 ⟨hm, acc, yacc, ce, Hi2, hAa, hHiA, r2, e2, da, zs, s', q2, hys, hlen, hs'⟩
  have rb := (r2.withO hAa).enter
  have hL' : ∀ a ∈ L, a ∈ (B.sub H2 Hi2 as1 ce).lk0 ++ (B.sub H2 Hi2 as1 ce).lk1 := fun a ha => by
    show a ∈ B.lk0 ++ B.lk1 ++ []
    rw [List.append_nil]
    exact hL a ha
  obtain ⟨step, stop⟩ := hJ _ hL' (L2.wipe σ vs) H2 Hi2 as1 _ rb e2 i
  by_cases hlt : i < xs.length
  · obtain ⟨d, hd⟩ : ∃ d, xs[i]? = some d := ⟨_, List.getElem?_eq_getElem hlt⟩
    have ex : xs.drop i = d :: xs.drop (i + 1) := by
      rw [List.drop_eq_getElem_cons hlt]
      rw [List.getElem?_eq_getElem hlt] at hd
      cases hd; rfl
    rw [ex] at q2
    obtain ⟨go, yl⟩ := step d hd
    refine .inr ⟨go, fun H' => ∃ acc yacc ce Hi2, H' A = some (.dK acc) ∧ Hi2 A = none ∧ Rep B (L2.wipe σ vs) (era H' A) Hi2 as1 ⟨wipeD s1.sl vs, ce⟩ ∧ Same Hi1 Hi2 ∧ DqK Hi2 acc yacc ∧
      ∃ zs s', dcL k ft fk fv (xs.drop (i + 1)) ⟨wipeD s1.sl vs, ce⟩ = .ok zs s' ∧ putsD yacc zs = putsD [] ys ∧ yacc.length + zs.length ≤ 1000000 ∧ s' = st, ?_, ?_⟩
    · rintro H' ⟨acc, yacc, ce, Hi3, z⟩
      exact ⟨m - 1, by omega, by omega, acc, yacc, ce, Hi3, z⟩
    · intro x H3 hy3
      obtain ⟨Hi3, r3, e3, q3⟩ := yl x H3 hy3
      obtain ⟨ot, s4, zs', q4, q5, rfl⟩ : ∃ o s4 zs', dcT k ft fk fv d ⟨wipeD s1.sl vs, ce⟩ = .ok o s4 ∧ dcL k ft fk fv (xs.drop (i + 1)) ⟨wipeD s1.sl vs, cutC ce.length s4.ce⟩ = .ok zs' s' ∧ zs = o.toList ++ zs' := by
        simp only [dcL] at q2
        cases z : dcT k ft fk fv d ⟨wipeD s1.sl vs, ce⟩ with
        | no => rw [z] at q2; cases q2
        | ex x s' => rw [z] at q2; cases q2
        | ok o s4 =>
          rw [z] at q2
          simp only at q2
          cases z2 : dcL k ft fk fv (xs.drop (i + 1)) ⟨wipeD s1.sl vs, cutC ce.length s4.ce⟩ with
          | no => rw [z2] at q2; cases q2
          | ex x s' => rw [z2] at q2; cases q2
          | ok ys' s'' => rw [z2] at q2; cases q2; exact ⟨o, s4, ys', rfl, z2, rfl⟩
      have w4 : wpR (dcT k ft fk fv d ⟨wipeD s1.sl vs, ce⟩) (fun o' s' => o' = ot ∧ s' = s4) (fun _ _ => False) := by rw [q4]; exact ⟨rfl, rfl⟩
      refine hk.mono _ _ _ _ _ (fun σ5 H5 ⟨k5, q⟩ => ⟨by rw [k5, wipe_wipe], q⟩) (hk.keep _ _ _ _ (hg _ _ H3 Hi3 as1 _ (.d d) x _ r3 (.d q3) (wp_mono (wp_bnd w4) (fun _ s5 w5 σ5 => ?_) fun _ _ z => z.elim)))
      intro H5 Hi5 as5 r5 e5 p5
      refine ht _ σ5 H5 Hi5 as5 s5 _ r5 (wp_mono (wp_bnd w5) (fun b s6 w6 => ?_) fun _ _ z => z.elim)
      intro H6 Hi6 as6 r6 e6 p6
      have E6 : Same Hi2 Hi6 := (e3.trans e5).trans e6
      cases b with
      | false =>
        obtain ⟨rfl, rfl⟩ := w6
        obtain ⟨k1, k2, k3⟩ := r2.keepO hAa hHiA r6
        exact ⟨acc, yacc, _, Hi6, k1, k2, r2.cut k3 E6 (p5.trans p6), e2.trans E6, da.mono E6, zs', s', q5, by simpa using hys, by simpa using hlen, hs'⟩
      | true =>
        simp only [if_true] at w6 ⊢
        refine se_frz hy _ σ5 H6 Hi6 as6 s6 _ r6 (wp_mono (wp_bnd w6) (fun y s7 w7 => ?_) fun _ _ z => z.elim)
        intro H7 Hi7 as7 r7 e7 p7 yv hyv
        refine se_frz hz _ σ5 H7 Hi7 as7 s7 _ r7 (wp_mono (wp_bnd w7) (fun z s8 w8 => ?_) fun _ _ z => z.elim)
        intro H8 Hi8 as8 r8 e8 p8 zv hzv
        obtain ⟨k1, k2, k3⟩ := r2.keepO hAa hHiA r8
        cases hyv with
        | c _ => exact w8.elim
        | d dy =>
          rename_i yd
          cases hzv with
          | c _ => exact w8.elim
          | d dz =>
            rename_i zd
            simp only at w8
            cases hkd : keyD yd with
            | none => rw [hkd] at w8; exact w8.elim
            | some key =>
              rw [hkd] at w8
              obtain ⟨rfl, rfl⟩ := w8
              have E8 := (E6.trans e7).trans e8
              have ek := keyD_inv dy hkd
              have hdl := da.length
              simp only [Option.toList_some, List.length_append, List.length_cons, List.length_nil] at hlen
              have hpl := putD_len yacc key zd
              exact ⟨acc, key, ek, k1, lt_line (by omega), putK acc key zv, putD yacc key zd, _, Hi8, upd_same, k2, by rw [era_upd]; exact r2.cut k3 E8 (((p5.trans p6).trans p7).trans p8), e2.trans E8, (da.mono E8).put dz, zs', s', q5, by simpa [putsD] using hys, by omega, hs'⟩
  · have ex : xs.drop i = [] := List.drop_eq_nil_of_le (by omega)
    rw [ex] at q2
    cases q2
    have hys' : yacc = putsD [] ys := hys
    subst hs'
    have r4 : Rep B σ (era H2 A) Hi2 as1 ⟨s1.sl, ce⟩ := ⟨r2.sub, r2.lkd, r2.fr, r2.hin, r2.new, r1.len, fun i x h => by
      obtain ⟨v, k1, k2⟩ := r1.slo i x h
      exact ⟨v, k1, k2.mono e2 (List.prefix_refl _)⟩, r2.lea, r2.cel, r2.inj⟩
    rw [hys'] at da
    have r5 := r4.addC (c := .m (putsD [] ys)) (o := .dK acc) (p := A) era_same rfl ⟨hHiA, acc, upd_same, da⟩
    rw [upd_era hAa] at r5
    refine .inl ⟨stop (by omega), w2 H2 Hi2 _ r5 (e1.trans e2) (p1.trans (List.prefix_append _ _)) _ (.c ?_)⟩
    show (as1 ++ [A])[ce.length]? = some A
    rw [show ce.length = as1.length from r4.lea.symm, List.getElem?_append_right (Nat.le_refl _), Nat.sub_self]
    rfl
end
end DL

end DLsec_34

section DLsec_35
set_option maxRecDepth 100000
/-! list(range(..)); plain clauses; what the new functions do -/
namespace DL
open PySem PySem.Spec PyProof.Rows L2
theorem plain_of {env : Env} {gens : List Comprehension} {k : Nat} {c : Comprehension} (e : gens[k]? = some c) (h1 : c.is_async = 0) (h2 : ∀ x, foldedSetIterable c.iter env x = pure x) : Plain env gens k := fun c' h => by
  rw [e] at h
  cases h
  exact ⟨h1, h2⟩
theorem plain_end {env : Env} {gens : List Comprehension} {k : Nat} (e : gens[k]? = none) : Plain env gens k := fun c' h => by rw [e] at h; cases h
def rRange1 : RC := fun vs H Q => ∃ j, vs = [V.int j] ∧ ∀ p, H p = none → Q (.ref p) (upd H p (.rng 0 j))
def rRange2 : RC := fun vs H Q => ∃ i j, vs = [V.int i, V.int j] ∧ ∀ p, H p = none → Q (.ref p) (upd H p (.rng i j))
def rListRng : RC := fun vs H Q => ∃ a lo hi, vs = [V.ref a] ∧ H a = some (.rng lo hi) ∧ (-1000000000 ≤ lo ∧ hi ≤ 1000000000 ∧ hi - lo ≤ 1000000 ∧ lo ≤ 1000000000 ∧ -1000000000 ≤ hi) ∧ ∀ p, H p = none → Q (.ref p) (upd H p (.lst (((List.range (hi - lo).toNat).map fun i : Nat => lo + (i : Int)).map V.int)))
section
variable {X : Cx}
theorem cr_rng1 : CallR X (.type "range") rRange1 := by
  intro pins s σ H vs us Q I r h
  obtain ⟨j, rfl, q⟩ := h
  cases r with
  | cons rj rr =>
    cases rr
    obtain ⟨u, rfl⟩ := rj
    refine call_range_1 ⟨.ref s.heap.objs.size, upd H s.heap.objs.size (.rng 0 j), I.laid (t' := s.toks + 2) (fun b o e => Heap.get?_push_of_some _ e) (Nat.le_refl _) ?_, rfl, q _ (I.hok.fresh (Nat.le_refl _))⟩
    exact ⟨_, _, _, Heap.get?_push_size _ rfl⟩
theorem cr_rng2 : CallR X (.type "range") rRange2 := cr_range2
theorem vals_ints : ∀ {ns : List Int} {us : List Value}, us.length = ns.length → (∀ (j : Nat) v, us[j]? = some v → ∃ t, v = .int (ns.getD j 0) t) → Vals (ns.map V.int) us
  | [], [], _, _ => .nil
  | n :: ns, u :: us, hl, h => by
    obtain ⟨t, e⟩ := h 0 u rfl
    refine .cons ⟨t, e⟩ (vals_ints (by simpa using hl) fun j v hj => ?_)
    obtain ⟨t', e'⟩ := h (j + 1) v (by simpa using hj)
    exact ⟨t', by simpa using e'⟩
theorem cr_listRng (hc : X.calm = true) : CallR X (.type "list") rListRng := by
  intro pins s σ H vs us Q I r h
  obtain ⟨a, lo, hi, rfl, ha, ⟨b1, b2, b3, b4, b5⟩, q⟩ := h
  rw [Vals.ref1 r]
  obtain ⟨t, u, v, hr⟩ : ∃ t u v, s.heap.get? a = some { cls := .type "range", data := .fields #[.int lo t, .int hi u, .int 1 v] } := I.hok a _ ha
  have hsz : Builtin.Range.rangeSize lo hi 1 = ((hi - lo).toNat : Int) := by
    unfold Builtin.Range.rangeSize
    by_cases h : lo < hi
    · simp [h]; omega
    · simp [h]; omega
  have hsm : Builtin.Range.small lo hi 1 = true := by
    unfold Builtin.Range.small
    rw [hsz]
    simp only [Builtin.Range.rangeFitsLong, Bool.and_eq_true, Bool.or_eq_true, decide_eq_true_eq, beq_iff_eq, gt_iff_lt, show (0 : Int) < 1 by decide, if_true]
    omega
  refine call_list_range (t := t) (u := u) (v := v) (I.ok.hd hc) hr hsm hsz (by omega) fun h' tk acc' c' hk hS hacc => ?_
  refine ⟨.ref s.heap.objs.size, _, I.laid (o := .lst (((List.range (hi - lo).toNat).map fun i : Nat => lo + (i : Int)).map V.int)) (t' := tk) hk (Nat.le_refl _) ⟨?_, acc'.toList, c', ?_, ?_⟩, rfl, q _ (I.hok.fresh (Nat.le_refl _))⟩
  · rw [List.length_map, List.length_map, List.length_range]
    exact le_line (by omega)
  · refine vals_ints (by rw [List.length_map, List.length_range, Array.length_toList]; exact hacc.1) fun j v hj => ?_
    have hj' : acc'[j]? = some v := by rw [← Array.getElem?_toList]; exact hj
    obtain ⟨t, e⟩ := hacc.2 j v hj'
    have hlt : j < (hi - lo).toNat := by
      have := (Array.getElem?_eq_some_iff.mp hj').1
      rw [hacc.1] at this
      exact this
    refine ⟨t, ?_⟩
    rw [e]
    simp [List.getD, hlt]
  · simpa using hS
end
def fL6 (f : M (List D)) : M (List D) := bnd f fun xs => if xs.length ≤ 1000000 then ret xs else stuck
section
variable {mg : Str → Option Value} {W : WX} {tA : TA} {fA : M (List Vl)}
theorem rng_dqa {Hi : Hp} (lo : Int) (n : Nat) : DqA Hi (((List.range n).map fun i : Nat => lo + (i : Int)).map V.int) (rng lo n) := by
  have := DqA.ints (H := Hi) ((List.range n).map fun i : Nat => lo + (i : Int))
  rw [List.map_map] at this ⊢
  rw [rng]
  have e : (List.range n).map (fun i : Nat => PyData.int (lo + (i : Int))) = ((List.range n).map fun i : Nat => lo + (i : Int)).map PyData.int := by rw [List.map_map]; rfl
  rw [e]
  rw [← List.map_map]
  exact DqA.ints _
theorem sf_lrng1 (h : SA mg W tA fA) : SF mg W (tCB rListRng (tCons (tCB rRange1 tA) tNil)) (fL6 (fRng1 fA)) := fun B σ H Hi as s Q rp w => by
  refine h B σ H Hi as s _ rp (wp_mono (wp_bnd (wp_bnd w)) (fun x s1 w1 => ?_) fun _ _ z => z)
  intro H1 Hi1 as1 r1 e1 p1 vs hv
  cases hv with
  | nil => exact w1.elim
  | cons a1 a2 =>
    cases a1 with
    | c q => cases a2 <;> exact w1.elim
    | d q =>
      cases a2 with
      | cons _ _ => cases q <;> exact w1.elim
      | nil =>
        cases q with
        | int j =>
          simp only at w1
          split at w1
          · rename_i hj
            refine ⟨j, rfl, fun p hp => ⟨p, 0, j, rfl, upd_same, ?_⟩⟩
            have w2 : wpR ((if (rng 0 j.toNat).length ≤ 1000000 then ret (rng 0 j.toNat) else stuck) s1) _ _ := w1
            split at w2
            · rename_i hn
              rw [rng, List.length_map, List.length_range] at hn
              refine ⟨by omega, fun p' hp' => ?_⟩
              have := w2 (upd H1 p (.rng 0 j)) Hi1 as1 (r1.add hp) e1 p1 p' _ hp' (rng_dqa 0 j.toNat)
              simpa using this
            · exact w2.elim
          · exact w1.elim
        | _ => exact w1.elim
theorem sf_lrng2 (h : SA mg W tA fA) : SF mg W (tCB rListRng (tCons (tCB rRange2 tA) tNil)) (fL6 (fRng2 fA)) := fun B σ H Hi as s Q rp w => by
  refine h B σ H Hi as s _ rp (wp_mono (wp_bnd (wp_bnd w)) (fun x s1 w1 => ?_) fun _ _ z => z)
  intro H1 Hi1 as1 r1 e1 p1 vs hv
  have key : ∃ i j : Int, vs = [.int i, .int j] ∧ x = [.d (.int i), .d (.int j)] := by
    cases hv with
    | nil => exact w1.elim
    | cons a1 a2 =>
      cases a2 with
      | nil =>
        cases a1 with
        | c q => exact w1.elim
        | d q => cases q <;> exact w1.elim
      | cons a2 a3 =>
        cases a3 with
        | cons _ _ => cases a1 with
          | c q => exact w1.elim
          | d q => cases q <;> (cases a2 with
            | c _ => exact w1.elim
            | d q' => cases q' <;> exact w1.elim)
        | nil =>
          cases a1 with
          | c q => exact w1.elim
          | d q =>
            cases a2 with
            | c _ => cases q <;> exact w1.elim
            | d q' =>
              cases q with
              | int i =>
                cases q' with
                | int j => exact ⟨i, j, rfl, rfl⟩
                | _ => exact w1.elim
              | _ => cases q' <;> exact w1.elim
  obtain ⟨i, j, rfl, rfl⟩ := key
  simp only at w1
  split at w1
  · rename_i hj
    refine ⟨i, j, rfl, fun p hp => ⟨p, i, j, rfl, upd_same, ?_⟩⟩
    have w2 : wpR ((if (rng i (j - i).toNat).length ≤ 1000000 then ret (rng i (j - i).toNat) else stuck) s1) _ _ := w1
    split at w2
    · rename_i hn
      rw [rng, List.length_map, List.length_range] at hn
      exact ⟨by omega, fun p' hp' => w2 (upd H1 p (.rng i j)) Hi1 as1 (r1.add hp) e1 p1 p' _ hp' (rng_dqa i _)⟩
    · exact w2.elim
  · exact w1.elim
end
section
variable (s : S)
theorem x_fFrzL (f : M Vl) : fFrzL f s = match bnd f frzL s with
  | .ok y s2 => .ok (.d y) ⟨s.sl, cutC s.ce.length s2.ce⟩
  | .ex e s2 => .ex e s2
  | .no => .no := id rfl
theorem x_frzL (x : Vl) : frzL x s = match x with
  | .c j => match s.ce[j]? with
    | some (.m kvs) => .ok (.dict (kvs.map fun p => (kD p.1, p.2))) { s with ce := s.ce.set j .g }
    | _ => .no
  | _ => .no := id rfl
theorem x_fItemsI (fo : M Vl) : fItemsI fo s = bnd fo (fun x => gets fun _ => (dsOf x).map itemsD) s := id rfl
theorem x_fValsI (fo : M Vl) : fValsI fo s = bnd fo (fun x => gets fun _ => (dsOf x).map fun ds => ds.map (·.2)) s := id rfl
theorem x_fKeysI (fo : M Vl) : fKeysI fo s = bnd fo (fun x => gets fun _ => (dsOf x).map fun ds => ds.map (·.1)) s := id rfl
theorem x_fDNewM : fDNewM s = .ok (.c s.ce.length) { s with ce := s.ce ++ [.m []] } := id rfl
theorem x_fDPut (fo fi fx : M Vl) : fDPut fo fi fx s = bnd fx (fun x => bnd fo fun o => bnd fi fun i => bnd (frz x) fun d => bnd (putC o i d) fun _ => DL.ret .nx) s := id rfl
theorem x_putC (o i : Vl) (d : D) : putC o i d s = match o, i with
  | .c j, .d y => match s.ce[j]?, keyD y with
    | some (.m kvs), some k => if kvs.length < 1000000 then .ok () { s with ce := s.ce.set j (.m (putD kvs k d)) } else .no
    | _, _ => .no
  | _, _ => .no := id rfl
theorem x_fL6 (f : M (List D)) : fL6 f s = bnd f (fun xs => if xs.length ≤ 1000000 then DL.ret xs else stuck) s := id rfl
theorem x_fEl (fe : M Vl) : fEl fe s = bnd (fFrz fe) (fun v => match v with
  | .d d => DL.ret [d]
  | .c _ => stuck) s := id rfl
theorem x_lc2T (k : Vl → M Unit) (t : M Bool) (f : M (List D)) (x : D) : lc2T k t f x s = bnd (k (.d x)) (fun _ => bnd t fun b => if b = true then f else DL.ret []) s := id rfl
theorem x_dcT (k : Vl → M Unit) (t : M Bool) (ek ev : M Vl) (x : D) : dcT k t ek ev x s = bnd (k (.d x)) (fun _ => bnd t fun b => if b = true then bnd (fFrz ek) (fun y => bnd (fFrz ev) fun z => match y, z with
  | .d yd, .d zd => match keyD yd with
    | some key => DL.ret (some (key, zd))
    | none => stuck
  | _, _ => stuck) else DL.ret none) s := id rfl
end
/-! loops that leave the cells -/
section
variable {sl : List (Option Vl)} {ce : List Ce} {k : Vl → M Unit} {t : M Bool} {F : M (List D)} {ek ev : M Vl}
theorem lc2L_en {α : Type} (enc : α → D) (f : α → List D) : ∀ {as : List α}, (∀ a ∈ as, ∃ s', lc2T k t F (enc a) ⟨sl, ce⟩ = .ok (f a) s' ∧ cutC ce.length s'.ce = ce) → lc2L k t F (as.map enc) ⟨sl, ce⟩ = .ok (as.map f).flatten ⟨sl, ce⟩
  | [], _ => rfl
  | a :: as, h => by
    obtain ⟨s', e1, e2⟩ := h a List.mem_cons_self
    have ih := lc2L_en enc f (as := as) fun b hb => h b (List.mem_cons_of_mem _ hb)
    simp only [List.map_cons, lc2L, e1, e2, ih, List.flatten_cons]
theorem dcL_en {α : Type} (enc : α → D) (f : α → Option (Key × D)) : ∀ {as : List α}, (∀ a ∈ as, ∃ s', dcT k t ek ev (enc a) ⟨sl, ce⟩ = .ok (f a) s' ∧ cutC ce.length s'.ce = ce) → dcL k t ek ev (as.map enc) ⟨sl, ce⟩ = .ok (as.filterMap f) ⟨sl, ce⟩
  | [], _ => rfl
  | a :: as, h => by
    obtain ⟨s', e1, e2⟩ := h a List.mem_cons_self
    have ih := dcL_en enc f (as := as) fun b hb => h b (List.mem_cons_of_mem _ hb)
    simp only [List.map_cons, dcL, e1, e2, ih, List.filterMap_cons]
    cases f a <;> simp
theorem fCl_ok {fi : M (List D)} {vs : List Nat} {s s1 s2 : S} {xs ys : List D} (h1 : fi s = .ok xs s1) (h2 : lc2L k t F xs ⟨wipeD s1.sl vs, s1.ce⟩ = .ok ys s2) (hl : ys.length ≤ 1000000) : fCl fi k t F vs s = .ok ys ⟨s1.sl, s2.ce⟩ := by
  simp only [fCl, bnd, h1, h2, if_pos hl]
theorem fDcM_ok {fi : M (List D)} {vs : List Nat} {s s1 s2 : S} {xs : List D} {ys : List (Key × D)} (h1 : fi s = .ok xs s1) (h2 : dcL k t ek ev xs ⟨wipeD s1.sl vs, s1.ce⟩ = .ok ys s2) (hl : ys.length ≤ 1000000) : fDcM fi k t ek ev vs s = .ok (.c s2.ce.length) ⟨s1.sl, s2.ce ++ [.m (putsD [] ys)]⟩ := by
  simp only [fDcM, bnd, h1, h2, if_pos hl]
theorem putD_new {kvs : List (Key × D)} {key : Key} {d : D} (h : ∀ p ∈ kvs, p.1 ≠ key) : putD kvs key d = kvs ++ [(key, d)] := by
  unfold putD
  rw [if_neg]
  simp only [List.any_eq_true, decide_eq_true_eq, not_exists, not_and]
  exact fun p hp => h p hp
theorem putsD_new : ∀ {ys acc : List (Key × D)}, (∀ p ∈ acc, ∀ q ∈ ys, p.1 ≠ q.1) → (ys.map (·.1)).Nodup → putsD acc ys = acc ++ ys
  | [], acc, _, _ => by simp [putsD]
  | y :: ys, acc, h, nd => by
    rw [List.map_cons, List.nodup_cons] at nd
    have e : putsD acc (y :: ys) = putsD (putD acc y.1 y.2) ys := rfl
    rw [e, putD_new fun p hp => h p hp y List.mem_cons_self, putsD_new (fun p hp q hq => ?_) nd.2]
    · simp
    · rcases List.mem_append.mp hp with z | z
      · exact h p z q (List.mem_cons_of_mem _ hq)
      · rw [List.mem_singleton.mp z]
        exact fun z => nd.1 (z ▸ List.mem_map.mpr ⟨q, hq, rfl⟩)
end
end DL

end DLsec_35

section DLsec_36
set_option maxRecDepth 100000
/-! tuples that name cells -/
namespace DL
open PySem PySem.Spec PyProof.Rows L2
def fTupC (f : M (List Vl)) : M Vl := bnd f fun xs s => if xs.length ≤ 1000000 then .ok (.c s.ce.length) { s with ce := s.ce ++ [.t xs] } else .no
/-- as data, no cell is cut -/
def fFrzN (f : M Vl) : M Vl := bnd f fun x => bnd (frz x) fun y => ret (.d y)
def oIxT : O2 Vl := fun x y s => match x, y with
  | .c j, .d (.int i) => match s.ce[j]? with
    | some (.t xs) => atI xs i
    | _ => none
  | .d (.tuple xs), .d (.int i) => (atI xs i).map .d
  | _, _ => none
section
variable {mg : Str → Option Value} {W : WX} {B : Bd mg} {σ : St} {H Hi : Hp} {as : List Addr} {s : S}
variable {ta tb tc te : TE} {fa fb fc fe : M Vl}
theorem se_tupC {t : TA} {fl : M (List Vl)} (h : SA mg W t fl) : SE mg W (tTup t) (fTupC fl) := fun B σ H Hi as s Q rp w => by
  refine h B σ H Hi as s _ rp (wp_mono (wp_bnd w) (fun xs s1 w1 => ?_) fun _ _ z => z)
  intro H1 Hi1 as1 r1 e1 p1 vs hv
  by_cases hn : xs.length ≤ 1000000
  · rw [if_pos hn] at w1
    refine ⟨by rw [Paired.length hv]; exact le_line hn, fun p hp => ?_⟩
    have sm : Same Hi1 (upd Hi1 p (.tup vs)) := same_new (r1.fresh hp)
    have rr := (r1.addI (o := .tup vs) hp).pushT (a := p) (xs := xs) upd_same (relVls_mono sm (List.prefix_refl _) hv)
    refine w1 _ _ _ rr (e1.trans sm) (p1.trans (List.prefix_append _ _)) _ (.c ?_)
    rw [← r1.lea, List.getElem?_append_right (Nat.le_refl _), Nat.sub_self]
    rfl
  · rw [if_neg hn] at w1; exact w1.elim
theorem se_frzN (h : SE mg W ta fa) : SE mg W ta (fFrzN fa) := fun B σ H Hi as s Q rp w => by
  refine h B σ H Hi as s _ rp (wp_mono (wp_bnd w) (fun x s1 w1 => ?_) fun _ _ z => z)
  intro H1 Hi1 as1 r1 e1 p1 v hv
  obtain ⟨y, s2, Hi2, w2, r2, e2, q2⟩ := r1.frz hv (wp_bnd w1)
  exact w2 _ _ _ r2 (e1.trans e2) p1 _ (.d q2)
end
theorem os_ixT {K : PySem.W.Frag} : OpS (rIx K) oIxT := fun B σ H Hi as s x y z u v Q rp hu hv e q => by
  cases hu with
  | d q0 =>
    cases hv with
    | c _ => cases q0 <;> cases e
    | d q' =>
      cases q0 with
      | tup h1 h2 =>
        cases q' with
        | int i =>
          rename_i a vs ds
          simp only [oIxT] at e
          cases k : L2.atI ds i with
          | none => simp [k] at e
          | some d =>
            simp [k] at e; subst e
            obtain ⟨v, e1, e2⟩ := h2.atI k
            exact .inr (.inl ⟨a, vs, i, v, rfl, rfl, .inl (.inl (rp.tup h1)), e1, q.now rp (.d e2)⟩)
        | _ => cases e
      | _ => cases e
  | @c a j ha =>
    cases hv with
    | c _ => cases e
    | d q' =>
      cases q' with
      | int i =>
        simp only [oIxT] at e
        cases hc : s.ce[j]? with
        | none => rw [hc] at e; cases e
        | some c =>
          rw [hc] at e
          cases c with
          | t xs =>
            obtain ⟨vs, h1, h2⟩ := rp.cel j a _ ha hc
            obtain ⟨x, k1, k2⟩ := paired_atI h2 e
            exact .inr (.inl ⟨a, vs, i, x, rfl, rfl, .inl (.inl (rp.tup h1)), k1, q.now rp k2⟩)
          | _ => cases e
      | _ => cases e
theorem x_fTupC (f : M (List Vl)) (s : S) : fTupC f s = bnd f (fun xs s => if xs.length ≤ 1000000 then .ok (.c s.ce.length) { s with ce := s.ce ++ [.t xs] } else .no) s := id rfl
theorem x_fFrzN (f : M Vl) (s : S) : fFrzN f s = bnd f (fun x => bnd (frz x) fun y => DL.ret (.d y)) s := id rfl
end DL

end DLsec_36

section Rsec
set_option maxRecDepth 100000
set_option maxHeartbeats 4000000
open PySem PySem.Spec PyProof.Rows L2 DL
namespace R
def topS (i : Nat) : Stmt := PySem.Challenge.pw_mergeunits_k10_quotients.main.body.getD i (.Pass ⟨0, 0, 0, 0⟩)
abbrev s_is_whole : Stmt := topS 3
abbrev N_is_whole : List Str := ["thing"]
theorem sc_is_whole : FnScope N_is_whole ["thing"] (defScope s_is_whole) := ⟨rfl, rfl, rfl, by decide +kernel, rfl, by decide +kernel, by decide +kernel⟩
abbrev s_check_list : Stmt := topS 4
abbrev N_check_list : List Str := ["values", "place", "value"]
theorem sc_check_list : FnScope N_check_list ["values"] (defScope s_check_list) := ⟨rfl, rfl, rfl, by decide +kernel, rfl, by decide +kernel, by decide +kernel⟩
abbrev s_units_of : Stmt := topS 5
abbrev N_units_of : List Str := ["values", "told", "value"]
theorem sc_units_of : FnScope N_units_of ["values"] (defScope s_units_of) := ⟨rfl, rfl, rfl, by decide +kernel, rfl, by decide +kernel, by decide +kernel⟩
abbrev s_word_dict : Stmt := topS 6
abbrev N_word_dict : List Str := ["values", "told", "unit"]
theorem sc_word_dict : FnScope N_word_dict ["values"] (defScope s_word_dict) := ⟨rfl, rfl, rfl, by decide +kernel, rfl, by decide +kernel, by decide +kernel⟩
abbrev s_from_words : Stmt := topS 7
abbrev N_from_words : List Str := ["some", "leader", "unit", "value"]
theorem sc_from_words : FnScope N_from_words ["some"] (defScope s_from_words) := ⟨rfl, rfl, rfl, by decide +kernel, rfl, by decide +kernel, by decide +kernel⟩
abbrev s_difference : Stmt := topS 9
abbrev N_difference : List Str := ["word", "part", "place", "unit"]
theorem sc_difference : FnScope N_difference ["word", "part"] (defScope s_difference) := ⟨rfl, rfl, rfl, by decide +kernel, rfl, by decide +kernel, by decide +kernel⟩
abbrev s_divided : Stmt := topS 10
abbrev N_divided : List Str := ["whole", "part", "leader", "place", "word"]
theorem sc_divided : FnScope N_divided ["whole", "part"] (defScope s_divided) := ⟨rfl, rfl, rfl, by decide +kernel, rfl, by decide +kernel, by decide +kernel⟩
abbrev s_quotient : Stmt := topS 11
abbrev N_quotient : List Str := ["whole", "first", "told"]
theorem sc_quotient : FnScope N_quotient ["whole", "first"] (defScope s_quotient) := ⟨rfl, rfl, rfl, by decide +kernel, rfl, by decide +kernel, by decide +kernel⟩
abbrev s__law_draws : Stmt := topS 13
abbrev N__law_draws : List Str := ["_law_cell"]
theorem sc__law_draws : FnScope N__law_draws ["_law_cell"] (defScope s__law_draws) := ⟨rfl, rfl, rfl, by decide +kernel, rfl, by decide +kernel, by decide +kernel⟩
abbrev s__law_next : Stmt := topS 14
abbrev N__law_next : List Str := ["_law_draws_here", "_law_k", "_law_number"]
theorem sc__law_next : FnScope N__law_next ["_law_draws_here"] (defScope s__law_next) := ⟨rfl, rfl, rfl, by decide +kernel, rfl, by decide +kernel, by decide +kernel⟩
abbrev s__law_drawn : Stmt := topS 15
abbrev N__law_drawn : List Str := ["_law_draws_here", "_law_most", "_law_pick", "_law_wide", "_law_told", "_law_k", "_law_value"]
theorem sc__law_drawn : FnScope N__law_drawn ["_law_draws_here", "_law_most"] (defScope s__law_drawn) := ⟨rfl, rfl, rfl, by decide +kernel, rfl, by decide +kernel, by decide +kernel⟩
abbrev s__law_row : Stmt := topS 16
abbrev N__law_row : List Str := ["_law_draws_here", "_law_most", "_law_told", "_law_heads_here", "_law_tails", "_law_head", "_law_tail", "_law_k", "_law_unit"]
theorem sc__law_row : FnScope N__law_row ["_law_draws_here", "_law_most"] (defScope s__law_row) := ⟨rfl, rfl, rfl, by decide +kernel, rfl, by decide +kernel, by decide +kernel⟩
abbrev s__law_merged : Stmt := topS 17
abbrev N__law_merged : List Str := ["_law_one", "_law_other", "_law_told", "_law_left", "_law_right_here"]
theorem sc__law_merged : FnScope N__law_merged ["_law_one", "_law_other"] (defScope s__law_merged) := ⟨rfl, rfl, rfl, by decide +kernel, rfl, by decide +kernel, by decide +kernel⟩
abbrev s__law_units : Stmt := topS 18
abbrev N__law_units : List Str := ["_law_values", "_law_heads_here", "_law_ends", "_law_at", "_law_one", "_law_other", "_law_value"]
theorem sc__law_units : FnScope N__law_units ["_law_values"] (defScope s__law_units) := ⟨rfl, rfl, rfl, by decide +kernel, rfl, by decide +kernel, by decide +kernel⟩
abbrev s__law_word : Stmt := topS 19
abbrev N__law_word : List Str := ["_law_values", "_law_head", "_law_unit"]
theorem sc__law_word : FnScope N__law_word ["_law_values", "_law_head"] (defScope s__law_word) := ⟨rfl, rfl, rfl, by decide +kernel, rfl, by decide +kernel, by decide +kernel⟩
abbrev s__law_heads : Stmt := topS 20
abbrev N__law_heads : List Str := ["_law_values", "_law_unit"]
theorem sc__law_heads : FnScope N__law_heads ["_law_values"] (defScope s__law_heads) := ⟨rfl, rfl, rfl, by decide +kernel, rfl, by decide +kernel, by decide +kernel⟩
abbrev s__law_of_words : Stmt := topS 21
abbrev N__law_of_words : List Str := ["_law_some", "_law_head"]
theorem sc__law_of_words : FnScope N__law_of_words ["_law_some"] (defScope s__law_of_words) := ⟨rfl, rfl, rfl, by decide +kernel, rfl, by decide +kernel, by decide +kernel⟩
abbrev s__law_due : Stmt := topS 22
abbrev N__law_due : List Str := ["_law_a_whole", "_law_a_first", "_law_left", "_law_head", "_law_word_here", "_law_part", "_law_at", "_law_unit"]
theorem sc__law_due : FnScope N__law_due ["_law_a_whole", "_law_a_first"] (defScope s__law_due) := ⟨rfl, rfl, rfl, by decide +kernel, rfl, by decide +kernel, by decide +kernel⟩
abbrev s__law_right : Stmt := topS 23
abbrev N__law_right : List Str := ["_law_draws_here", "_law_a_first", "_law_second", "_law_a_whole", "_law_other", "_law_kept", "_law_due_here", "_law_told", "_law_named", "_law_rest"]
theorem sc__law_right : FnScope N__law_right ["_law_draws_here"] (defScope s__law_right) := ⟨rfl, rfl, rfl, by decide +kernel, rfl, by decide +kernel, by decide +kernel⟩
abbrev s_law : Stmt := topS 24
abbrev N_law : List Str := ["_law_script", "_law_draws_here", "_law_cell"]
theorem sc_law : FnScope N_law ["_law_script"] (defScope s_law) := ⟨rfl, rfl, rfl, by decide +kernel, rfl, by decide +kernel, by decide +kernel⟩
/-! what the defs do -/
noncomputable def body_is_whole : M Fl :=
  (fRet (fAndV (fIsi "int" (fVar 0)) (fNotV (fIsi "bool" (fVar 0)))))
noncomputable def g_is_whole : FD := mkF 1 1 body_is_whole
noncomputable abbrev I0_check_list : M (List D) := (fEnum (fCons (fVar 0) fNil))
noncomputable abbrev K0_check_list : Vl → M Unit := (kTup 2 (kCons (kName 1) (kCons (kName 2) kNil)))
noncomputable abbrev B0_check_list : M Fl := (fIf (fNot (fTru (fDef g_is_whole (fCons (fVar 2) fNil)))) stuck fNext)
noncomputable def body_check_list : M Fl :=
  (fSeq (fIf (fNot (fTru (fIsi "list" (fVar 0)))) stuck fNext)
  (fFor I0_check_list K0_check_list B0_check_list))
noncomputable def g_check_list : FD := mkF 1 3 body_check_list
noncomputable abbrev I0_units_of : M (List D) := (orI (fItL (fVar 0)) (fItT (fVar 0)))
noncomputable abbrev K0_units_of : Vl → M Unit := (kName 2)
noncomputable abbrev B0_units_of : M Fl := (fIf (fOr (fTest (fOp oEqG (fVar 1) (fDat (fLst fNil)))) (fTest (fOp oGe (fVar 2) (fOp oIx (fOp oIx (fVar 1) (fNeg (fC (.int 1)))) (fC (.int 0)))))) (fAsg (fOp oAdd (fVar 1) (fDat (fLst (fCons (fDat (fLst (fCons (fVar 2) fNil))) fNil)))) (kName 1)) (fAsg (fOp oAdd (fSl oSl (fVar 1) fNoP (fP (fNeg (fC (.int 1))))) (fDat (fLst (fCons (fOp oAdd (fOp oIx (fVar 1) (fNeg (fC (.int 1)))) (fDat (fLst (fCons (fVar 2) fNil)))) fNil)))) (kName 1)))
noncomputable def body_units_of : M Fl :=
  (fSeq (fAsg (fDat (fLst fNil)) (kName 1))
  (fSeq (fFor I0_units_of K0_units_of B0_units_of)
  (fRet (fVar 1))))
noncomputable def g_units_of : FD := mkF 1 3 body_units_of
noncomputable abbrev I0_word_dict : M (List D) := (orI (fItL (fDef g_units_of (fCons (fVar 0) fNil))) (fItT (fDef g_units_of (fCons (fVar 0) fNil))))
noncomputable abbrev K0_word_dict : Vl → M Unit := (kName 2)
noncomputable abbrev B0_word_dict : M Fl := (fExpr (fApp (fSetdL (fVar 1) (fOp oIx (fVar 2) (fC (.int 0)))) (fVar 2)))
noncomputable def body_word_dict : M Fl :=
  (fSeq (fAsg fDNew (kName 1))
  (fSeq (fFor I0_word_dict K0_word_dict B0_word_dict)
  (fRet (fToM (fVar 1)))))
noncomputable def g_word_dict : FD := mkF 1 3 body_word_dict
noncomputable abbrev E0_from_words : M Vl := (fVar 3)
noncomputable abbrev I2_0_from_words : M (List D) := (orI (fItL (fVar 2)) (fItT (fVar 2)))
noncomputable abbrev K2_0_from_words : Vl → M Unit := (kName 3)
noncomputable abbrev T2_0_from_words : M Bool := fYes
noncomputable abbrev I1_0_from_words : M (List D) := (orI (fItL (fDSub (fVar 0) (fVar 1))) (fItT (fDSub (fVar 0) (fVar 1))))
noncomputable abbrev K1_0_from_words : Vl → M Unit := (kName 2)
noncomputable abbrev T1_0_from_words : M Bool := fYes
noncomputable abbrev I0_from_words : M (List D) := (orI (fItL (fDat (fCall oSortK (fCons (fVar 0) fNil)))) (fItT (fDat (fCall oSortK (fCons (fVar 0) fNil)))))
noncomputable abbrev K0_from_words : Vl → M Unit := (kName 1)
noncomputable abbrev T0_from_words : M Bool := fYes
noncomputable def body_from_words : M Fl :=
  (fRet (fCell (fCl I0_from_words K0_from_words T0_from_words (fCl I1_0_from_words K1_0_from_words T1_0_from_words (fCl I2_0_from_words K2_0_from_words T2_0_from_words (fEl E0_from_words) [3]) [2, 3]) [1, 2, 3])))
noncomputable def g_from_words : FD := mkF 1 4 body_from_words
noncomputable abbrev I0_difference : M (List D) := (fEnum (fCons (fVar 1) fNil))
noncomputable abbrev K0_difference : Vl → M Unit := (kTup 2 (kCons (kName 2) (kCons (kName 3) kNil)))
noncomputable abbrev B0_difference : M Fl := (fIf (fOr (fTest (fOp oGe (fVar 2) (fCall oLenG (fCons (fVar 0) fNil)))) (fTest (fOp oNeG (fOp oIx (fVar 0) (fVar 2)) (fVar 3)))) (fRet (fVar 2)) fNext)
noncomputable def body_difference : M Fl :=
  (fSeq (fFor I0_difference K0_difference B0_difference)
  (fRet (fC .none)))
noncomputable def g_difference : FD := mkF 2 4 body_difference
noncomputable abbrev I0_divided : M (List D) := (orI (fItL (fDat (fCall oSortK (fCons (fVar 1) fNil)))) (fItT (fDat (fCall oSortK (fCons (fVar 1) fNil)))))
noncomputable abbrev K0_divided : Vl → M Unit := (kName 2)
noncomputable abbrev B0_divided : M Fl := (fSeq (fAsg (fDef g_difference (fCons (fGet2 (fVar 0) (fVar 2) (fDat (fLst fNil))) (fCons (fDSub (fVar 1) (fVar 2)) fNil))) (kName 3))
  (fIf (fTest (fNotN (fVar 3))) (fRet (fTup (fCons (fC (.str "leader")) (fCons (fVar 2) (fCons (fVar 3) fNil))))) fNext))
noncomputable abbrev I1_divided : M (List D) := (fItemsI (fVar 0))
noncomputable abbrev K1_divided : Vl → M Unit := (kTup 2 (kCons (kName 2) (kCons (kName 4) kNil)))
noncomputable abbrev T1_divided : M Bool := fYes
noncomputable abbrev E1_divided : M Vl := (fVar 2)
noncomputable abbrev V1_divided : M Vl := (fSl oSl (fVar 4) (fP (fCall oLenG (fCons (fGet2 (fVar 1) (fVar 2) (fDat (fLst fNil))) fNil))) fNoP)
noncomputable def body_divided : M Fl :=
  (fSeq (fFor I0_divided K0_divided B0_divided)
  (fRet (fTup (fCons (fC (.str "list")) (fCons (fFrzL (fDcM I1_divided K1_divided T1_divided E1_divided V1_divided [2, 4])) fNil)))))
noncomputable def g_divided : FD := mkF 2 5 body_divided
noncomputable def body_quotient : M Fl :=
  (fSeq (fExpr (fDef g_check_list (fCons (fVar 0) fNil)))
  (fSeq (fExpr (fDef g_check_list (fCons (fVar 1) fNil)))
  (fSeq (fAsg (fDef g_divided (fCons (fFrzL (fDef g_word_dict (fCons (fVar 0) fNil))) (fCons (fFrzL (fDef g_word_dict (fCons (fVar 1) fNil))) fNil))) (kName 2))
  (fRet (fIf (fTest (fOp oEqG (fOp oIx (fVar 2) (fC (.int 0))) (fC (.str "list")))) (fTupC (fCons (fC (.str "list")) (fCons (fDef g_from_words (fCons (fOp oIx (fVar 2) (fC (.int 1))) fNil)) fNil))) (fVar 2))))))
noncomputable def g_quotient : FD := mkF 2 3 body_quotient
noncomputable def body__law_draws : M Fl :=
  (fRet (fCell (fLst (fCons (fOp oMod (fCall oInt (fCons (fVar 0) fNil)) (fOp oPowW (fOp oPowW (fOp oPowW (fC (.int 10)) (fC (.int 60))) (fC (.int 60))) (fC (.int 4)))) (fCons (fC (.int 0)) (fCons (fOp oGe (fVar 0) (fOp oPowW (fC (.int 10)) (fC (.int 18)))) fNil))))))
noncomputable def g__law_draws : FD := mkF 1 1 body__law_draws
noncomputable def body__law_next : M Fl :=
  (fSeq (fAsg (fOp oAdd (fOp oIx (fVar 0) (fC (.int 1))) (fC (.int 1))) (kSub (fVar 0) (fC (.int 1))))
  (fSeq (fAsg (fOp oIx (fVar 0) (fC (.int 1))) (kName 1))
  (fSeq (fIf (fTru (fOp oIx (fVar 0) (fC (.int 2)))) (fSeq (fAsg (fOp oMod (fCall oInt (fCons (fOp oIx (fVar 0) (fC (.int 0))) fNil)) (fOp oPowW (fC (.int 10)) (fC (.int 6)))) (kName 2))
  (fSeq (fAsg (fOp oDiv (fOp oIx (fVar 0) (fC (.int 0))) (fOp oPowW (fC (.int 10)) (fC (.int 6)))) (kSub (fVar 0) (fC (.int 0))))
  (fRet (fVar 2)))) fNext)
  (fSeq (fAsg (fOp oMod (fCall oInt (fCons (fOp oMulG (fOp oAdd (fOp oAdd (fOp oMod (fCall oInt (fCons (fOp oIx (fVar 0) (fC (.int 0))) fNil)) (fC (.int 1000003))) (fOp oMulG (fOp oMulG (fVar 1) (fVar 1)) (fC (.int 7919)))) (fVar 1)) (fC (.int 48271))) fNil)) (fC (.int 2147483629))) (kName 2))
  (fSeq (fAsg (fOp oMod (fCall oInt (fCons (fOp oMulG (fVar 2) (fVar 2)) fNil)) (fC (.int 2147483587))) (kName 2))
  (fRet (fOp oDiv (fOp oMod (fCall oInt (fCons (fOp oMulG (fVar 2) (fOp oAdd (fVar 2) (fC (.int 2)))) fNil)) (fC (.int 2147483579))) (fC (.int 7)))))))))
noncomputable def g__law_next : FD := mkF 1 3 body__law_next
noncomputable abbrev I0__law_drawn : M (List D) := (fRng1 (fCons (fOp oMod (fCall oInt (fCons (fOp oDiv (fVar 2) (fC (.int 4))) fNil)) (fOp oAdd (fVar 1) (fC (.int 1)))) fNil))
noncomputable abbrev K0__law_drawn : Vl → M Unit := (kName 5)
noncomputable abbrev T0__law_drawn : M Bool := fYes
noncomputable abbrev E0__law_drawn : M Vl := (fOp oSub (fOp oMod (fCall oInt (fCons (fDef g__law_next (fCons (fVar 0) fNil)) fNil)) (fVar 3)) (fOp oDiv (fVar 3) (fC (.int 2))))
noncomputable abbrev I1__law_drawn : M (List D) := (orI (fItL (fVar 4)) (fItT (fVar 4)))
noncomputable abbrev K1__law_drawn : Vl → M Unit := (kName 6)
noncomputable abbrev T1__law_drawn : M Bool := fYes
noncomputable abbrev E1__law_drawn : M Vl := (fOp oAdd (fOp oMulG (fOp oMulG (fVar 6) (fC (.int 2))) (fOp oPowW (fC (.int 10)) (fC (.int 14)))) (fC (.int 1)))
noncomputable def body__law_drawn : M Fl :=
  (fSeq (fAsg (fDef g__law_next (fCons (fVar 0) fNil)) (kName 2))
  (fSeq (fAsg (fOp oIx (fDat (fLst (fCons (fC (.int 2)) (fCons (fC (.int 4)) (fCons (fC (.int 9)) (fCons (fOp oPowW (fC (.int 10)) (fC (.int 6))) fNil)))))) (fOp oMod (fCall oInt (fCons (fVar 2) fNil)) (fC (.int 4)))) (kName 3))
  (fSeq (fAsg (fDat (fLc I0__law_drawn K0__law_drawn T0__law_drawn E0__law_drawn [5])) (kName 4))
  (fSeq (fAsg (fIf (fTest (fOp oEqG (fOp oMod (fCall oInt (fCons (fOp oDiv (fVar 2) (fC (.int 4096))) fNil)) (fC (.int 8))) (fC (.int 0)))) (fDat (fLc I1__law_drawn K1__law_drawn T1__law_drawn E1__law_drawn [6])) (fVar 4)) (kName 4))
  (fRet (fIf (fTest (fOp oEqG (fOp oMod (fCall oInt (fCons (fOp oDiv (fVar 2) (fC (.int 512))) fNil)) (fC (.int 6))) (fC (.int 0)))) (fDat (fCall oSortG (fCons (fVar 4) fNil))) (fVar 4)))))))
noncomputable def g__law_drawn : FD := mkF 2 7 body__law_drawn
noncomputable abbrev I0__law_row : M (List D) := (fRng1 (fCons (fOp oMod (fCall oInt (fCons (fDef g__law_next (fCons (fVar 0) fNil)) fNil)) (fC (.int 3))) fNil))
noncomputable abbrev K0__law_row : Vl → M Unit := (kName 7)
noncomputable abbrev T0__law_row : M Bool := fYes
noncomputable abbrev E0__law_row : M Vl := (fOp oSub (fOp oSub (fVar 5) (fC (.int 1))) (fOp oMod (fCall oInt (fCons (fDef g__law_next (fCons (fVar 0) fNil)) fNil)) (fVar 4)))
noncomputable abbrev C1__law_row : M Bool := (fAnd (fTest (fOp oLt (fCall oLenG (fCons (fVar 2) fNil)) (fVar 1))) (fTest (fOp oGt (fOp oMod (fCall oInt (fCons (fDef g__law_next (fCons (fVar 0) fNil)) fNil)) (fC (.int 7))) (fC (.int 0)))))
noncomputable abbrev B1__law_row : M Fl := (fSeq (fAsg (fOp oAdd (fC (.int 5)) (fOp oMulG (fC (.int 5)) (fOp oMod (fCall oInt (fCons (fDef g__law_next (fCons (fVar 0) fNil)) fNil)) (fVar 3)))) (kName 5))
  (fSeq (fAsg (fDat (fLc I0__law_row K0__law_row T0__law_row E0__law_row [7])) (kName 6))
  (fExpr (fApp (fVar 2) (fOp oAdd (fDat (fLst (fCons (fVar 5) fNil))) (fVar 6))))))
noncomputable abbrev I2__law_row : M (List D) := (orI (fItL (fFrz (fVar 2))) (fItT (fFrz (fVar 2))))
noncomputable abbrev K2__law_row : Vl → M Unit := (kName 8)
noncomputable abbrev T2__law_row : M Bool := (fTest (fOp oEqG (fOp oIx (fVar 8) (fC (.int 0))) (fVar 5)))
noncomputable abbrev E2__law_row : M Vl := (fVar 8)
noncomputable abbrev I3__law_row : M (List D) := (orI (fItL (fDat (fLst (fCons (fC (.int 5)) (fCons (fC (.int 10)) (fCons (fC (.int 15)) fNil)))))) (fItT (fDat (fLst (fCons (fC (.int 5)) (fCons (fC (.int 10)) (fCons (fC (.int 15)) fNil)))))))
noncomputable abbrev K3__law_row : Vl → M Unit := (kName 5)
noncomputable abbrev T3__law_row : M Bool := fYes
noncomputable abbrev E3__law_row : M Vl := (fDat (fLc I2__law_row K2__law_row T2__law_row E2__law_row [8]))
noncomputable def body__law_row : M Fl :=
  (fSeq (fAsg (fCell (fLst fNil)) (kName 2))
  (fSeq (fAsg (fOp oAdd (fC (.int 1)) (fOp oMod (fCall oInt (fCons (fDef g__law_next (fCons (fVar 0) fNil)) fNil)) (fC (.int 3)))) (kName 3))
  (fSeq (fAsg (fOp oAdd (fC (.int 1)) (fOp oMod (fCall oInt (fCons (fDef g__law_next (fCons (fVar 0) fNil)) fNil)) (fC (.int 2)))) (kName 4))
  (fSeq (fWhile C1__law_row B1__law_row)
  (fRet (fCall oSumL (fCons (fCall oSumL (fCons (fDat (fLc I3__law_row K3__law_row T3__law_row E3__law_row [5])) (fCons (fDat (fLst fNil)) fNil))) (fCons (fDat (fLst fNil)) fNil))))))))
noncomputable def g__law_row : FD := mkF 2 9 body__law_row
noncomputable abbrev C0__law_merged : M Bool := (fAnd (fTest (fOp oNeG (fVar 3) (fDat (fLst fNil)))) (fTest (fOp oNeG (fVar 4) (fDat (fLst fNil)))))
noncomputable abbrev B0__law_merged : M Fl := (fExpr (fApp (fVar 2) (fIf (fTest (fOp oLt (fOp oIx (fVar 4) (fC (.int 0))) (fOp oIx (fVar 3) (fC (.int 0))))) (fPopAt (fVar 4) (fC (.int 0))) (fPopAt (fVar 3) (fC (.int 0))))))
noncomputable def body__law_merged : M Fl :=
  (fSeq (fIf (fOr (fTest (fOp oEqG (fVar 0) (fDat (fLst fNil)))) (fTest (fOp oEqG (fVar 1) (fDat (fLst fNil))))) (fRet (fOp oAdd (fVar 0) (fVar 1))) fNext)
  (fSeq (fAsg (fCell (fLst fNil)) (kName 2))
  (fSeq (fPar 3 4 (fCons (fCell (fCall oList (fCons (fVar 0) fNil))) (fCons (fCell (fCall oList (fCons (fVar 1) fNil))) fNil)))
  (fSeq (fWhile C0__law_merged B0__law_merged)
  (fRet (fOp oAdd (fOp oAdd (fVar 2) (fVar 3)) (fVar 4)))))))
noncomputable def g__law_merged : FD := mkF 2 5 body__law_merged
noncomputable abbrev I0__law_units : M (List D) := (orI (fItL (fSl oSl (fVar 0) fNoP (fP (fVar 3)))) (fItT (fSl oSl (fVar 0) fNoP (fP (fVar 3)))))
noncomputable abbrev K0__law_units : Vl → M Unit := (kName 6)
noncomputable abbrev T0__law_units : M Bool := (fTest (fOp oGt (fVar 6) (fOp oIx (fVar 0) (fVar 3))))
noncomputable abbrev E0__law_units : M Vl := (fVar 6)
noncomputable abbrev I1__law_units : M (List D) := (fRng1 (fCons (fCall oLenG (fCons (fVar 0) fNil)) fNil))
noncomputable abbrev K1__law_units : Vl → M Unit := (kName 3)
noncomputable abbrev T1__law_units : M Bool := (fTest (fOp oEqG (fDat (fLc I0__law_units K0__law_units T0__law_units E0__law_units [6])) (fDat (fLst fNil))))
noncomputable abbrev E1__law_units : M Vl := (fVar 3)
noncomputable abbrev I2__law_units : M (List D) := (fZip (fCons (fVar 1) (fCons (fVar 2) fNil)))
noncomputable abbrev K2__law_units : Vl → M Unit := (kTup 2 (kCons (kName 4) (kCons (kName 5) kNil)))
noncomputable abbrev T2__law_units : M Bool := fYes
noncomputable abbrev E2__law_units : M Vl := (fSl oSl (fVar 0) (fP (fVar 4)) (fP (fVar 5)))
noncomputable def body__law_units : M Fl :=
  (fSeq (fAsg (fDat (fLc I1__law_units K1__law_units T1__law_units E1__law_units [3])) (kName 1))
  (fSeq (fAsg (fOp oAdd (fSl oSl (fVar 1) (fP (fC (.int 1))) fNoP) (fDat (fLst (fCons (fCall oLenG (fCons (fVar 0) fNil)) fNil)))) (kName 2))
  (fRet (fDat (fLc I2__law_units K2__law_units T2__law_units E2__law_units [4, 5])))))
noncomputable def g__law_units : FD := mkF 1 7 body__law_units
noncomputable abbrev I0__law_word : M (List D) := (orI (fItL (fDef g__law_units (fCons (fVar 0) fNil))) (fItT (fDef g__law_units (fCons (fVar 0) fNil))))
noncomputable abbrev K0__law_word : Vl → M Unit := (kName 2)
noncomputable abbrev T0__law_word : M Bool := (fTest (fOp oEqG (fOp oIx (fVar 2) (fC (.int 0))) (fVar 1)))
noncomputable abbrev E0__law_word : M Vl := (fVar 2)
noncomputable def body__law_word : M Fl :=
  (fRet (fDat (fLc I0__law_word K0__law_word T0__law_word E0__law_word [2])))
noncomputable def g__law_word : FD := mkF 2 3 body__law_word
noncomputable abbrev I0__law_heads : M (List D) := (orI (fItL (fDef g__law_units (fCons (fVar 0) fNil))) (fItT (fDef g__law_units (fCons (fVar 0) fNil))))
noncomputable abbrev K0__law_heads : Vl → M Unit := (kName 1)
noncomputable abbrev T0__law_heads : M Bool := fYes
noncomputable abbrev E0__law_heads : M Vl := (fOp oIx (fVar 1) (fC (.int 0)))
noncomputable def body__law_heads : M Fl :=
  (fRet (fDat (fSrtS (fDat (fLc I0__law_heads K0__law_heads T0__law_heads E0__law_heads [1])))))
noncomputable def g__law_heads : FD := mkF 1 2 body__law_heads
noncomputable abbrev I0__law_of_words : M (List D) := (orI (fItL (fDat (fCall oSortK (fCons (fVar 0) fNil)))) (fItT (fDat (fCall oSortK (fCons (fVar 0) fNil)))))
noncomputable abbrev K0__law_of_words : Vl → M Unit := (kName 1)
noncomputable abbrev T0__law_of_words : M Bool := fYes
noncomputable abbrev E0__law_of_words : M Vl := (fCall oSumL (fCons (fDSub (fVar 0) (fVar 1)) (fCons (fDat (fLst fNil)) fNil)))
noncomputable def body__law_of_words : M Fl :=
  (fRet (fCall oSumL (fCons (fDat (fLc I0__law_of_words K0__law_of_words T0__law_of_words E0__law_of_words [1])) (fCons (fDat (fLst fNil)) fNil))))
noncomputable def g__law_of_words : FD := mkF 1 2 body__law_of_words
noncomputable abbrev I0__law_due : M (List D) := (fEnum (fCons (fVar 5) fNil))
noncomputable abbrev K0__law_due : Vl → M Unit := (kTup 2 (kCons (kName 6) (kCons (kName 7) kNil)))
noncomputable abbrev B0__law_due : M Fl := (fIf (fTest (fOp oNeG (fSl oSl (fVar 4) (fP (fVar 6)) (fP (fOp oAdd (fVar 6) (fC (.int 1))))) (fDat (fLst (fCons (fVar 7) fNil))))) (fRet (fTup (fCons (fC (.str "leader")) (fCons (fVar 3) (fCons (fVar 6) fNil))))) fNext)
noncomputable abbrev I1__law_due : M (List D) := (orI (fItL (fDat (fSrtS (fOp oAdd (fDef g__law_heads (fCons (fVar 0) fNil)) (fDef g__law_heads (fCons (fVar 1) fNil)))))) (fItT (fDat (fSrtS (fOp oAdd (fDef g__law_heads (fCons (fVar 0) fNil)) (fDef g__law_heads (fCons (fVar 1) fNil)))))))
noncomputable abbrev K1__law_due : Vl → M Unit := (kName 3)
noncomputable abbrev B1__law_due : M Fl := (fSeq (fPar 4 5 (fCons (fDef g__law_word (fCons (fVar 0) (fCons (fVar 3) fNil))) (fCons (fDef g__law_word (fCons (fVar 1) (fCons (fVar 3) fNil))) fNil)))
  (fSeq (fFor I0__law_due K0__law_due B0__law_due)
  (fDPut (fVar 2) (fVar 3) (fSl oSl (fVar 4) (fP (fCall oLenG (fCons (fVar 5) fNil))) fNoP))))
noncomputable def body__law_due : M Fl :=
  (fSeq (fAsg fDNewM (kName 2))
  (fSeq (fFor I1__law_due K1__law_due B1__law_due)
  (fRet (fRstV (fTup (fCons (fC (.str "list")) (fCons (fDef g__law_of_words (fCons (fFrzL (fVar 2)) fNil)) fNil)))))))
noncomputable def g__law_due : FD := mkF 2 8 body__law_due
noncomputable abbrev I0__law_right : M (List D) := (orI (fItL (fDat (fLst (fCons (fVar 1) (fCons (fDef g__law_row (fCons (fVar 0) (fCons (fC (.int 5)) fNil))) (fCons (fVar 2) (fCons (fSl oSl (fVar 1) (fP (fC (.int 1))) fNoP) (fCons (fSl oSl (fVar 1) fNoP (fP (fNeg (fC (.int 1))))) (fCons (fVar 3) (fCons (fDat (fLst fNil)) (fCons (fDef g__law_drawn (fCons (fVar 0) (fCons (fC (.int 6)) fNil))) fNil))))))))))) (fItT (fDat (fLst (fCons (fVar 1) (fCons (fDef g__law_row (fCons (fVar 0) (fCons (fC (.int 5)) fNil))) (fCons (fVar 2) (fCons (fSl oSl (fVar 1) (fP (fC (.int 1))) fNoP) (fCons (fSl oSl (fVar 1) fNoP (fP (fNeg (fC (.int 1))))) (fCons (fVar 3) (fCons (fDat (fLst fNil)) (fCons (fDef g__law_drawn (fCons (fVar 0) (fCons (fC (.int 6)) fNil))) fNil))))))))))))
noncomputable abbrev K0__law_right : Vl → M Unit := (kName 4)
noncomputable abbrev B0__law_right : M Fl := (fSeq (fAsg (fCall oRepr (fCons (fDat (fLst (fCons (fVar 3) (fCons (fVar 4) fNil)))) fNil)) (kName 5))
  (fSeq (fAsg (fDef g__law_due (fCons (fVar 3) (fCons (fVar 4) fNil))) (kName 6))
  (fSeq (fPar 7 8 (fCons (fDef g_quotient (fCons (fVar 3) (fCons (fVar 4) fNil))) (fCons (fFrzN (fDef g_quotient (fPerm [1, 0] (fCons (fVar 4) (fCons (fVar 3) fNil))))) fNil)))
  (fSeq (fIf (fRstT (fOr (fTest (fOp oNeG (fCall oRepr (fCons (fDat (fLst (fCons (fFrz (fVar 7)) (fCons (fVar 8) fNil)))) fNil)) (fCall oRepr (fCons (fDat (fLst (fCons (fVar 6) (fCons (fVar 6) fNil)))) fNil)))) (fTest (fOp oNeG (fCall oRepr (fCons (fDat (fLst (fCons (fVar 3) (fCons (fVar 4) fNil)))) fNil)) (fVar 5))))) (fRet (fC (.bool false))) fNext)
  (fSeq (fIf (fTest (fOp oEqG (fOp oIxT (fVar 7) (fC (.int 0))) (fC (.str "list")))) (fSeq (fAsg (fOp oIxT (fVar 7) (fC (.int 1))) (kName 9))
  (fExpr (fApp (fVar 9) (fC .none)))) fNext)
  (fIf (fOr (fTest (fOp oNeG (fVar 8) (fVar 6))) (fTest (fOp oNeG (fCall oRepr (fCons (fDat (fLst (fCons (fVar 3) (fCons (fVar 4) fNil)))) fNil)) (fVar 5)))) (fRet (fC (.bool false))) fNext))))))
noncomputable def body__law_right : M Fl :=
  (fSeq (fAsg (fIf (fTest (fOp oEqG (fOp oMod (fCall oInt (fCons (fDef g__law_next (fCons (fVar 0) fNil)) fNil)) (fC (.int 3))) (fC (.int 0)))) (fDef g__law_drawn (fCons (fVar 0) (fCons (fC (.int 16)) fNil))) (fDef g__law_row (fCons (fVar 0) (fCons (fC (.int 6)) fNil)))) (kName 1))
  (fSeq (fAsg (fDef g__law_row (fCons (fVar 0) (fCons (fC (.int 8)) fNil))) (kName 2))
  (fSeq (fAsg (fDef g__law_merged (fCons (fVar 1) (fCons (fVar 2) fNil))) (kName 3))
  (fSeq (fIf (fTest (fOp oNeG (fFrz (fDef g_quotient (fCons (fVar 3) (fCons (fVar 1) fNil)))) (fTup (fCons (fC (.str "list")) (fCons (fVar 2) fNil))))) (fRet (fC (.bool false))) fNext)
  (fSeq (fFor I0__law_right K0__law_right B0__law_right)
  (fRet (fOp oEqG (fFrz (fDef g_quotient (fCons (fVar 3) (fCons (fVar 3) fNil)))) (fTup (fCons (fC (.str "list")) (fCons (fDat (fLst fNil)) fNil))))))))))
noncomputable def g__law_right : FD := mkF 1 10 body__law_right
/-! what the top has left -/
structure Top (K : PySem.W.Frag) (mg : Str → Option Value) where
  f_is_whole : Addr
  fd_is_whole : FuncData
  F_is_whole : Fun K "is_whole" "is_whole" s_is_whole f_is_whole fd_is_whole
  m_is_whole : mg "is_whole" = some (.ref f_is_whole)
  f_check_list : Addr
  fd_check_list : FuncData
  F_check_list : Fun K "check_list" "check_list" s_check_list f_check_list fd_check_list
  m_check_list : mg "check_list" = some (.ref f_check_list)
  f_units_of : Addr
  fd_units_of : FuncData
  F_units_of : Fun K "units_of" "units_of" s_units_of f_units_of fd_units_of
  m_units_of : mg "units_of" = some (.ref f_units_of)
  f_word_dict : Addr
  fd_word_dict : FuncData
  F_word_dict : Fun K "word_dict" "word_dict" s_word_dict f_word_dict fd_word_dict
  m_word_dict : mg "word_dict" = some (.ref f_word_dict)
  f_from_words : Addr
  fd_from_words : FuncData
  F_from_words : Fun K "from_words" "from_words" s_from_words f_from_words fd_from_words
  m_from_words : mg "from_words" = some (.ref f_from_words)
  f_difference : Addr
  fd_difference : FuncData
  F_difference : Fun K "difference" "difference" s_difference f_difference fd_difference
  m_difference : mg "difference" = some (.ref f_difference)
  f_divided : Addr
  fd_divided : FuncData
  F_divided : Fun K "divided" "divided" s_divided f_divided fd_divided
  m_divided : mg "divided" = some (.ref f_divided)
  f_quotient : Addr
  fd_quotient : FuncData
  F_quotient : Fun K "quotient" "quotient" s_quotient f_quotient fd_quotient
  m_quotient : mg "quotient" = some (.ref f_quotient)
  f__law_draws : Addr
  fd__law_draws : FuncData
  F__law_draws : Fun K "_law_draws" "_law_draws" s__law_draws f__law_draws fd__law_draws
  m__law_draws : mg "_law_draws" = some (.ref f__law_draws)
  f__law_next : Addr
  fd__law_next : FuncData
  F__law_next : Fun K "_law_next" "_law_next" s__law_next f__law_next fd__law_next
  m__law_next : mg "_law_next" = some (.ref f__law_next)
  f__law_drawn : Addr
  fd__law_drawn : FuncData
  F__law_drawn : Fun K "_law_drawn" "_law_drawn" s__law_drawn f__law_drawn fd__law_drawn
  m__law_drawn : mg "_law_drawn" = some (.ref f__law_drawn)
  f__law_row : Addr
  fd__law_row : FuncData
  F__law_row : Fun K "_law_row" "_law_row" s__law_row f__law_row fd__law_row
  m__law_row : mg "_law_row" = some (.ref f__law_row)
  f__law_merged : Addr
  fd__law_merged : FuncData
  F__law_merged : Fun K "_law_merged" "_law_merged" s__law_merged f__law_merged fd__law_merged
  m__law_merged : mg "_law_merged" = some (.ref f__law_merged)
  f__law_units : Addr
  fd__law_units : FuncData
  F__law_units : Fun K "_law_units" "_law_units" s__law_units f__law_units fd__law_units
  m__law_units : mg "_law_units" = some (.ref f__law_units)
  f__law_word : Addr
  fd__law_word : FuncData
  F__law_word : Fun K "_law_word" "_law_word" s__law_word f__law_word fd__law_word
  m__law_word : mg "_law_word" = some (.ref f__law_word)
  f__law_heads : Addr
  fd__law_heads : FuncData
  F__law_heads : Fun K "_law_heads" "_law_heads" s__law_heads f__law_heads fd__law_heads
  m__law_heads : mg "_law_heads" = some (.ref f__law_heads)
  f__law_of_words : Addr
  fd__law_of_words : FuncData
  F__law_of_words : Fun K "_law_of_words" "_law_of_words" s__law_of_words f__law_of_words fd__law_of_words
  m__law_of_words : mg "_law_of_words" = some (.ref f__law_of_words)
  f__law_due : Addr
  fd__law_due : FuncData
  F__law_due : Fun K "_law_due" "_law_due" s__law_due f__law_due fd__law_due
  m__law_due : mg "_law_due" = some (.ref f__law_due)
  f__law_right : Addr
  fd__law_right : FuncData
  F__law_right : Fun K "_law_right" "_law_right" s__law_right f__law_right fd__law_right
  m__law_right : mg "_law_right" = some (.ref f__law_right)
  f_law : Addr
  fd_law : FuncData
  F_law : Fun K "law" "law" s_law f_law fd_law
  m_law : mg "law" = some (.ref f_law)
  m_bool : mg "bool" = none
  m_enumerate : mg "enumerate" = none
  m_int : mg "int" = none
  m_isinstance : mg "isinstance" = none
  m_len : mg "len" = none
  m_list : mg "list" = none
  m_range : mg "range" = none
  m_repr : mg "repr" = none
  m_set : mg "set" = none
  m_sorted : mg "sorted" = none
  m_sum : mg "sum" = none
  m_zip : mg "zip" = none
section
variable {P : Program} {w : World} {K : PySem.W.Frag} {mg : Str → Option Value} {base : Heap}
theorem b_is_whole (T : Top K mg) : Binds K T.fd_is_whole ["thing"] [] := T.F_is_whole.binds fun _ _ _ _ _ _ us hl => match us, hl with | [_], _ => rfl
theorem b_check_list (T : Top K mg) : Binds K T.fd_check_list ["values"] [] := T.F_check_list.binds fun _ _ _ _ _ _ us hl => match us, hl with | [_], _ => rfl
theorem b_units_of (T : Top K mg) : Binds K T.fd_units_of ["values"] [] := T.F_units_of.binds fun _ _ _ _ _ _ us hl => match us, hl with | [_], _ => rfl
theorem b_word_dict (T : Top K mg) : Binds K T.fd_word_dict ["values"] [] := T.F_word_dict.binds fun _ _ _ _ _ _ us hl => match us, hl with | [_], _ => rfl
theorem b_from_words (T : Top K mg) : Binds K T.fd_from_words ["some"] [] := T.F_from_words.binds fun _ _ _ _ _ _ us hl => match us, hl with | [_], _ => rfl
theorem b_difference (T : Top K mg) : Binds K T.fd_difference ["word", "part"] [] := T.F_difference.binds fun _ _ _ _ _ _ us hl => match us, hl with | [_, _], _ => rfl
theorem b_divided (T : Top K mg) : Binds K T.fd_divided ["whole", "part"] [] := T.F_divided.binds fun _ _ _ _ _ _ us hl => match us, hl with | [_, _], _ => rfl
theorem b_quotient (T : Top K mg) : Binds K T.fd_quotient ["whole", "first"] [] := T.F_quotient.binds fun _ _ _ _ _ _ us hl => match us, hl with | [_, _], _ => rfl
theorem b__law_draws (T : Top K mg) : Binds K T.fd__law_draws ["_law_cell"] [] := T.F__law_draws.binds fun _ _ _ _ _ _ us hl => match us, hl with | [_], _ => rfl
theorem b__law_next (T : Top K mg) : Binds K T.fd__law_next ["_law_draws_here"] [] := T.F__law_next.binds fun _ _ _ _ _ _ us hl => match us, hl with | [_], _ => rfl
theorem b__law_drawn (T : Top K mg) : Binds K T.fd__law_drawn ["_law_draws_here", "_law_most"] [] := T.F__law_drawn.binds fun _ _ _ _ _ _ us hl => match us, hl with | [_, _], _ => rfl
theorem b__law_row (T : Top K mg) : Binds K T.fd__law_row ["_law_draws_here", "_law_most"] [] := T.F__law_row.binds fun _ _ _ _ _ _ us hl => match us, hl with | [_, _], _ => rfl
theorem b__law_merged (T : Top K mg) : Binds K T.fd__law_merged ["_law_one", "_law_other"] [] := T.F__law_merged.binds fun _ _ _ _ _ _ us hl => match us, hl with | [_, _], _ => rfl
theorem b__law_units (T : Top K mg) : Binds K T.fd__law_units ["_law_values"] [] := T.F__law_units.binds fun _ _ _ _ _ _ us hl => match us, hl with | [_], _ => rfl
theorem b__law_word (T : Top K mg) : Binds K T.fd__law_word ["_law_values", "_law_head"] [] := T.F__law_word.binds fun _ _ _ _ _ _ us hl => match us, hl with | [_, _], _ => rfl
theorem b__law_heads (T : Top K mg) : Binds K T.fd__law_heads ["_law_values"] [] := T.F__law_heads.binds fun _ _ _ _ _ _ us hl => match us, hl with | [_], _ => rfl
theorem b__law_of_words (T : Top K mg) : Binds K T.fd__law_of_words ["_law_some"] [] := T.F__law_of_words.binds fun _ _ _ _ _ _ us hl => match us, hl with | [_], _ => rfl
theorem b__law_due (T : Top K mg) : Binds K T.fd__law_due ["_law_a_whole", "_law_a_first"] [] := T.F__law_due.binds fun _ _ _ _ _ _ us hl => match us, hl with | [_, _], _ => rfl
theorem b__law_right (T : Top K mg) : Binds K T.fd__law_right ["_law_draws_here"] [] := T.F__law_right.binds fun _ _ _ _ _ _ us hl => match us, hl with | [_], _ => rfl
theorem b_law (T : Top K mg) : Binds K T.fd_law ["_law_script"] [] := T.F_law.binds fun _ _ _ _ _ _ us hl => match us, hl with | [_], _ => rfl
theorem ok_is_whole (T : Top K mg) : FnG P w K mg base 1 T.f_is_whole T.fd_is_whole ["thing"] (FSp mg g_is_whole) := by
  refine T.F_is_whole.okG (k := 0) sc_is_whole (fun _ _ _ _ h => fsp_len h) (fun cdv A out s G vs Q E hr hgd h => ?_)
  have tk : Takes (cxOf (L2.CX P w) P w K mg base N_is_whole "is_whole" (defScope s_is_whole) T.f_is_whole cdv A out s G E) (fun cls d _ H => E cls d H) := takes_of rfl rfl rfl rfl
  refine ⟨_, (pss_one (ps_ret (pe_and (pe_callB (isiK (K := K)) (by rfl) T.m_isinstance (by decide +kernel) (pa_cons (pv 0) (pa_cons (pe_bltn (v := .ty "int") (by rfl) T.m_int (by decide +kernel) rfl) pa_nil))) (pe_one (pe_not (pe_callB (isiK (K := K)) (by rfl) T.m_isinstance (by decide +kernel) (pa_cons (pv 0) (pa_cons (pe_bltn (v := .ty "bool") (by rfl) T.m_bool (by decide +kernel) rfl) pa_nil)))))))), ?_⟩
  exact fn_end (N := N_is_whole) (ar := 1) (body := body_is_whole) (ss_ret (se_andV (se_isi (se_var 0)) (se_notV (se_isi (se_var 0))))) h
theorem ok_check_list (T : Top K mg) : FnG P w K mg base 2 T.f_check_list T.fd_check_list ["values"] (FSp mg g_check_list) := by
  refine T.F_check_list.okG (k := 1) sc_check_list (fun _ _ _ _ h => fsp_len h) (fun cdv A out s G vs Q E hr hgd h => ?_)
  have tk : Takes (cxOf (L2.CX P w) P w K mg base N_check_list "check_list" (defScope s_check_list) T.f_check_list cdv A out s G E) (fun cls d _ H => E cls d H) := takes_of rfl rfl rfl rfl
  refine ⟨_, (pss_cons (ps_if (pt_not (ptK (K := K) (pe_callB (isiK (K := K)) (by rfl) T.m_isinstance (by decide +kernel) (pa_cons (pv 0) (pa_cons (pe_bltn (v := .ty "list") (by rfl) T.m_list (by decide +kernel) rfl) pa_nil))) (by intro _; rfl))) (pss_one ps_never) pss_nil)
  (pss_one (ps_for (passes_of rfl) rfl (piEK (K := K) (by rfl) T.m_enumerate (pa_cons (pv 0) pa_nil)) (pgTK (K := K) (n := 2) rfl (pgs_cons (pg_name (i := 1) sc_check_list.nd rfl (.inl rfl)) (pgs_cons (pg_name (i := 2) sc_check_list.nd rfl (.inl rfl)) pgs_nil))) (pss_one (ps_if (pt_not (ptK (K := K) (pe_callG (ok_is_whole T) (hr.mono (by decide)) hgd (by rfl) T.m_is_whole T.F_is_whole.kp (b_is_whole T) tk (pa_cons (pv 2) pa_nil)) (by intro _; rfl))) (pss_one ps_never) pss_nil))))), ?_⟩
  exact fn_end (N := N_check_list) (ar := 1) (body := body_check_list) (ss_cons (ss_if (st_not (st_tru (se_isi (se_var 0)))) ss_never ss_nil)
  (ss_for (si_enum (sa_cons (se_var 0) sa_nil)) (sg_tup (sgs_cons sg_name (sgs_cons sg_name sgs_nil))) (ss_if (st_not (st_tru (se_def (sa_cons (se_var 2) sa_nil)))) ss_never ss_nil))) h
theorem ok_units_of (T : Top K mg) : FnG P w K mg base 1 T.f_units_of T.fd_units_of ["values"] (FSp mg g_units_of) := by
  refine T.F_units_of.okG (k := 0) sc_units_of (fun _ _ _ _ h => fsp_len h) (fun cdv A out s G vs Q E hr hgd h => ?_)
  have tk : Takes (cxOf (L2.CX P w) P w K mg base N_units_of "units_of" (defScope s_units_of) T.f_units_of cdv A out s G E) (fun cls d _ H => E cls d H) := takes_of rfl rfl rfl rfl
  refine ⟨_, (pss_cons (ps_set (i := 1) sc_units_of.nd rfl (.inl rfl) (pe_lst pa_nil))
  (pss_cons (ps_for (passes_of rfl) rfl (pi_or (piLK (K := K) (pv 0)) (piTK (K := K) (pv 0))) (pg_name (i := 2) sc_units_of.nd rfl (.inl rfl)) (pss_one (ps_if (PW.pt (pw_or (pt_cmpR (eqK (K := K) hr.units) (pv 1) (pe_lst pa_nil) (nomark _)) (pw_or1 (pt_cmpR op_ge (pv 2) (pe_ix (ixK (K := K)) (pe_ix (ixK (K := K)) (pv 1) (pe_un un_neg pe_int) (fun _ _ => rfl)) pe_int (fun _ _ => rfl)) (nomark _))))) (pss_one (ps_set (i := 1) sc_units_of.nd rfl (.inl rfl) (pe_op op_addG (pv 1) (pe_lst (pa_cons (pe_lst (pa_cons (pv 2) pa_nil)) pa_nil))))) (pss_one (ps_set (i := 1) sc_units_of.nd rfl (.inl rfl) (pe_op op_addG (pe_slice (slK (K := K)) (pv 1) po_none (po_some (pe_un un_neg pe_int))) (pe_lst (pa_cons (pe_op op_addG (pe_ix (ixK (K := K)) (pv 1) (pe_un un_neg pe_int) (fun _ _ => rfl)) (pe_lst (pa_cons (pv 2) pa_nil))) pa_nil))))))))
  (pss_one (ps_ret (pv 1))))), ?_⟩
  exact fn_end (N := N_units_of) (ar := 1) (body := body_units_of) (ss_cons (ss_asg (se_dat (sf_lst sa_nil)) sg_name)
  (ss_cons (ss_for (si_or (si_list (se_var 0)) (si_tup (se_var 0))) sg_name (ss_if (st_or (st_test (se_op os_eqG (se_var 1) (se_dat (sf_lst sa_nil)))) (st_test (se_op os_ge (se_var 2) (se_op os_ix (se_op os_ix (se_var 1) (se_neg (se_int 1))) (se_int 0))))) (ss_asg (se_op os_addG (se_var 1) (se_dat (sf_lst (sa_cons (se_dat (sf_lst (sa_cons (se_var 2) sa_nil))) sa_nil)))) sg_name) (ss_asg (se_op os_addG (se_sl ss_G (se_var 1) so_none (so_some (se_neg (se_int 1)))) (se_dat (sf_lst (sa_cons (se_op os_addG (se_op os_ix (se_var 1) (se_neg (se_int 1))) (se_dat (sf_lst (sa_cons (se_var 2) sa_nil)))) sa_nil)))) sg_name)))
  (ss_ret (se_var 1)))) h
theorem ok_word_dict (T : Top K mg) : FnG P w K mg base 2 T.f_word_dict T.fd_word_dict ["values"] (FSp mg g_word_dict) := by
  refine T.F_word_dict.okG (k := 1) sc_word_dict (fun _ _ _ _ h => fsp_len h) (fun cdv A out s G vs Q E hr hgd h => ?_)
  have tk : Takes (cxOf (L2.CX P w) P w K mg base N_word_dict "word_dict" (defScope s_word_dict) T.f_word_dict cdv A out s G E) (fun cls d _ H => E cls d H) := takes_of rfl rfl rfl rfl
  refine ⟨_, (pss_cons (ps_set (i := 1) sc_word_dict.nd rfl (.inl rfl) pe_dnewK)
  (pss_cons (ps_for (passes_of rfl) rfl (pi_or (piLK (K := K) (pe_callG (ok_units_of T) (hr.mono (by decide)) hgd (by rfl) T.m_units_of T.F_units_of.kp (b_units_of T) tk (pa_cons (pv 0) pa_nil))) (piTK (K := K) (pe_callG (ok_units_of T) (hr.mono (by decide)) hgd (by rfl) T.m_units_of T.F_units_of.kp (b_units_of T) tk (pa_cons (pv 0) pa_nil)))) (pg_name (i := 2) sc_word_dict.nd rfl (.inl rfl)) (pss_one (ps_expr (pe_bm PySem.F.plainAttrs_list PySem.F.slot_list_append PySem.F.type_list_append mt_append (pe_dsetd (pv 1) (pe_ix (ixK (K := K)) (pv 2) pe_int (fun _ _ => rfl)) (pe_lst pa_nil) ⟨by rfl, by rfl, by rfl, by rfl⟩) (pa_cons (pv 2) pa_nil)))))
  (pss_one (ps_ret (pv 1))))), ?_⟩
  exact fn_end (N := N_word_dict) (ar := 1) (body := body_word_dict) (ss_cons (ss_asg se_dnew sg_name)
  (ss_cons (ss_for (si_or (si_list (se_def (sa_cons (se_var 0) sa_nil))) (si_tup (se_def (sa_cons (se_var 0) sa_nil)))) sg_name (ss_expr (se_append (se_setdL (se_var 1) (se_op os_ix (se_var 2) (se_int 0))) (se_var 2))))
  (ss_ret (se_toM (se_var 1))))) h
theorem ok_from_words (T : Top K mg) : FnG P w K mg base 1 T.f_from_words T.fd_from_words ["some"] (FSp mg g_from_words) := by
  refine T.F_from_words.okG (k := 0) sc_from_words (fun _ _ _ _ h => fsp_len h) (fun cdv A out s G vs Q E hr hgd h => ?_)
  have tk : Takes (cxOf (L2.CX P w) P w K mg base N_from_words "from_words" (defScope s_from_words) T.f_from_words cdv A out s G E) (fun cls d _ H => E cls d H) := takes_of rfl rfl rfl rfl
  refine ⟨_, (pss_one (ps_ret (pe_lcN (own := [("leader", 1), ("unit", 2), ("value", 3)]) (ws := [2, 3]) rfl sc_from_words.nd (pi_or (piLK (K := K) (pe_callB (sortKK rfl) (by rfl) T.m_sorted (by decide +kernel) (pa_cons (pv 0) pa_nil))) (piTK (K := K) (pe_callB (sortKK rfl) (by rfl) T.m_sorted (by decide +kernel) (pa_cons (pv 0) pa_nil)))) (blkOk_by (by kernel_rfl)) (by decide) (fun _ _ _ _ _ => (pg_name (i := 1) sc_from_words.nd rfl (.inl rfl))) (fun _ _ _ _ _ => pts_nil) (fun _ _ _ _ _ _ => (run_cl (vs := [2, 3]) (ws := [3]) rfl (plain_of rfl rfl (fun _ => rfl)) rfl rfl (pi_or (piLK (K := K) (pe_dget hr.units1 (pv 0) (pv 1) (fun _ _ => rfl))) (piTK (K := K) (pe_dget hr.units1 (pv 0) (pv 1) (fun _ _ => rfl)))) (pg_name (i := 2) sc_from_words.nd rfl (.inl rfl)) pts_nil (run_cl (vs := [3]) (ws := []) rfl (plain_end rfl) rfl rfl (pi_or (piLK (K := K) (pv 2)) (piTK (K := K) (pv 2))) (pg_name (i := 3) sc_from_words.nd rfl (.inl rfl)) pts_nil (run_el rfl rfl (pv 3)) (by decide)) (by decide))) (fun _ => plain_of rfl rfl (fun _ => rfl))))), ?_⟩
  exact fn_end (N := N_from_words) (ar := 1) (body := body_from_words) (ss_ret (se_cell (sf_lcN (vs := [1, 2, 3]) (si_or (si_list (se_dat (sf_call ca_sortK (sa_cons (se_var 0) sa_nil)))) (si_tup (se_dat (sf_call ca_sortK (sa_cons (se_var 0) sa_nil))))) sg_name (kg_name (by decide)) st_yes (sw_cl (vs := [2, 3]) (si_or (si_list (se_dsub (se_var 0) (se_var 1))) (si_tup (se_dsub (se_var 0) (se_var 1)))) sg_name (kg_name (by decide)) st_yes (sw_cl (vs := [3]) (si_or (si_list (se_var 2)) (si_tup (se_var 2))) sg_name (kg_name (by decide)) st_yes (sw_el (se_var 3))))))) h
theorem ok_difference (T : Top K mg) : FnG P w K mg base 1 T.f_difference T.fd_difference ["word", "part"] (FSp mg g_difference) := by
  refine T.F_difference.okG (k := 0) sc_difference (fun _ _ _ _ h => fsp_len h) (fun cdv A out s G vs Q E hr hgd h => ?_)
  have tk : Takes (cxOf (L2.CX P w) P w K mg base N_difference "difference" (defScope s_difference) T.f_difference cdv A out s G E) (fun cls d _ H => E cls d H) := takes_of rfl rfl rfl rfl
  refine ⟨_, (pss_cons (ps_for (passes_of rfl) rfl (piEK (K := K) (by rfl) T.m_enumerate (pa_cons (pv 1) pa_nil)) (pgTK (K := K) (n := 2) rfl (pgs_cons (pg_name (i := 2) sc_difference.nd rfl (.inl rfl)) (pgs_cons (pg_name (i := 3) sc_difference.nd rfl (.inl rfl)) pgs_nil))) (pss_one (ps_if (PW.pt (pw_or (pt_cmpR op_ge (pv 2) (pe_callB (lenK (K := K)) (by rfl) T.m_len (by decide +kernel) (pa_cons (pv 0) pa_nil)) (nomark _)) (pw_or1 (pt_cmpR (neK (K := K) hr.units) (pe_ix (ixK (K := K)) (pv 0) (pv 2) (fun _ _ => rfl)) (pv 3) (nomark _))))) (pss_one (ps_ret (pv 2))) pss_nil)))
  (pss_one (ps_ret pe_non))), ?_⟩
  exact fn_end (N := N_difference) (ar := 2) (body := body_difference) (ss_cons (ss_for (si_enum (sa_cons (se_var 1) sa_nil)) (sg_tup (sgs_cons sg_name (sgs_cons sg_name sgs_nil))) (ss_if (st_or (st_test (se_op os_ge (se_var 2) (se_call ca_lenG (sa_cons (se_var 0) sa_nil)))) (st_test (se_op os_neG (se_op os_ix (se_var 0) (se_var 2)) (se_var 3)))) (ss_ret (se_var 2)) ss_nil))
  (ss_ret se_non)) h
theorem ok_divided (T : Top K mg) : FnG P w K mg base 2 T.f_divided T.fd_divided ["whole", "part"] (FSp mg g_divided) := by
  refine T.F_divided.okG (k := 1) sc_divided (fun _ _ _ _ h => fsp_len h) (fun cdv A out s G vs Q E hr hgd h => ?_)
  have tk : Takes (cxOf (L2.CX P w) P w K mg base N_divided "divided" (defScope s_divided) T.f_divided cdv A out s G E) (fun cls d _ H => E cls d H) := takes_of rfl rfl rfl rfl
  refine ⟨_, (pss_cons (ps_for (passes_of rfl) rfl (pi_or (piLK (K := K) (pe_callB (sortKK rfl) (by rfl) T.m_sorted (by decide +kernel) (pa_cons (pv 1) pa_nil))) (piTK (K := K) (pe_callB (sortKK rfl) (by rfl) T.m_sorted (by decide +kernel) (pa_cons (pv 1) pa_nil)))) (pg_name (i := 2) sc_divided.nd rfl (.inl rfl)) (pss_cons (ps_set (i := 3) sc_divided.nd rfl (.inl rfl) (pe_callG (ok_difference T) (hr.mono (by decide)) hgd (by rfl) T.m_difference T.F_difference.kp (b_difference T) tk (pa_cons (pe_dget2 hr.units1 (pv 0) (pv 2) (pe_lst pa_nil) ⟨by rfl, by rfl, by rfl, by rfl⟩) (pa_cons (pe_dget hr.units1 (pv 1) (pv 2) (fun _ _ => rfl)) pa_nil))))
  (pss_one (ps_if (pt_cmp (pc_notN (pv 3)) rfl) (pss_one (ps_ret (pe_tup (pa_cons pe_str (pa_cons (pv 2) (pa_cons (pv 3) pa_nil)))))) pss_nil))))
  (pss_one (ps_ret (pe_tup (pa_cons pe_str (pa_cons (pe_lockR (pe_dc (own := [("leader", 2), ("word", 4)]) rfl sc_divided.nd (pi_items (pv 0)) (blkOk_by (by kernel_rfl)) (fun _ _ _ _ _ => (pgTK (K := K) (n := 2) rfl (pgs_cons (pg_name (i := 2) sc_divided.nd rfl (.inl rfl)) (pgs_cons (pg_name (i := 4) sc_divided.nd rfl (.inl rfl)) pgs_nil)))) (fun _ _ _ _ _ => pts_nil) (fun _ _ _ _ _ => (pv 2)) (fun _ _ _ _ _ => (pe_slice (slK (K := K)) (pv 4) (po_some (pe_callB (lenK (K := K)) (by rfl) T.m_len (by decide +kernel) (pa_cons (pe_dget2 hr.units1 (pv 1) (pv 2) (pe_lst pa_nil) ⟨by rfl, by rfl, by rfl, by rfl⟩) pa_nil))) po_none)))) pa_nil)))))), ?_⟩
  exact fn_end (N := N_divided) (ar := 2) (body := body_divided) (ss_cons (ss_for (si_or (si_list (se_dat (sf_call ca_sortK (sa_cons (se_var 1) sa_nil)))) (si_tup (se_dat (sf_call ca_sortK (sa_cons (se_var 1) sa_nil))))) sg_name (ss_cons (ss_asg (se_def (sa_cons (se_get2 (se_var 0) (se_var 2) (se_dat (sf_lst sa_nil))) (sa_cons (se_dsub (se_var 1) (se_var 2)) sa_nil))) sg_name)
  (ss_if (st_B (se_notN (se_var 3))) (ss_ret (se_tup (sa_cons (se_str "leader") (sa_cons (se_var 2) (sa_cons (se_var 3) sa_nil))))) ss_nil)))
  (ss_ret (se_tup (sa_cons (se_str "list") (sa_cons (se_frzL (se_dc (vs := [2, 4]) (si_items (se_var 0)) (sg_tup (sgs_cons sg_name (sgs_cons sg_name sgs_nil))) (kg_tup (kgs_cons (kg_name (by decide)) (kgs_cons (kg_name (by decide)) kgs_nil))) st_yes (se_var 2) (se_sl ss_G (se_var 4) (so_some (se_call ca_lenG (sa_cons (se_get2 (se_var 1) (se_var 2) (se_dat (sf_lst sa_nil))) sa_nil))) so_none))) sa_nil))))) h
theorem ok_quotient (T : Top K mg) : FnG P w K mg base 3 T.f_quotient T.fd_quotient ["whole", "first"] (FSp mg g_quotient) := by
  refine T.F_quotient.okG (k := 2) sc_quotient (fun _ _ _ _ h => fsp_len h) (fun cdv A out s G vs Q E hr hgd h => ?_)
  have tk : Takes (cxOf (L2.CX P w) P w K mg base N_quotient "quotient" (defScope s_quotient) T.f_quotient cdv A out s G E) (fun cls d _ H => E cls d H) := takes_of rfl rfl rfl rfl
  refine ⟨_, (pss_cons (ps_expr (pe_callG (ok_check_list T) (hr.mono (by decide)) hgd (by rfl) T.m_check_list T.F_check_list.kp (b_check_list T) tk (pa_cons (pv 0) pa_nil)))
  (pss_cons (ps_expr (pe_callG (ok_check_list T) (hr.mono (by decide)) hgd (by rfl) T.m_check_list T.F_check_list.kp (b_check_list T) tk (pa_cons (pv 1) pa_nil)))
  (pss_cons (ps_set (i := 2) sc_quotient.nd rfl (.inl rfl) (pe_callG (ok_divided T) (hr.mono (by decide)) hgd (by rfl) T.m_divided T.F_divided.kp (b_divided T) tk (pa_cons (pe_lockR (pe_callG (ok_word_dict T) (hr.mono (by decide)) hgd (by rfl) T.m_word_dict T.F_word_dict.kp (b_word_dict T) tk (pa_cons (pv 0) pa_nil))) (pa_cons (pe_lockR (pe_callG (ok_word_dict T) (hr.mono (by decide)) hgd (by rfl) T.m_word_dict T.F_word_dict.kp (b_word_dict T) tk (pa_cons (pv 1) pa_nil))) pa_nil))))
  (pss_one (ps_ret (pe_ifExp (pt_cmpR (eqK (K := K) hr.units) (pe_ix (ixK (K := K)) (pv 2) pe_int (fun _ _ => rfl)) pe_str (nomark _)) (pe_tup (pa_cons pe_str (pa_cons (pe_callG (ok_from_words T) (hr.mono (by decide)) hgd (by rfl) T.m_from_words T.F_from_words.kp (b_from_words T) tk (pa_cons (pe_ix (ixK (K := K)) (pv 2) pe_int (fun _ _ => rfl)) pa_nil)) pa_nil))) (pv 2))))))), ?_⟩
  exact fn_end (N := N_quotient) (ar := 2) (body := body_quotient) (ss_cons (ss_expr (se_def (sa_cons (se_var 0) sa_nil)))
  (ss_cons (ss_expr (se_def (sa_cons (se_var 1) sa_nil)))
  (ss_cons (ss_asg (se_def (sa_cons (se_frzL (se_def (sa_cons (se_var 0) sa_nil))) (sa_cons (se_frzL (se_def (sa_cons (se_var 1) sa_nil))) sa_nil))) sg_name)
  (ss_ret (se_if (st_test (se_op os_eqG (se_op os_ix (se_var 2) (se_int 0)) (se_str "list"))) (se_tupC (sa_cons (se_str "list") (sa_cons (se_def (sa_cons (se_op os_ix (se_var 2) (se_int 1)) sa_nil)) sa_nil))) (se_var 2)))))) h
theorem ok__law_draws (T : Top K mg) : FnG P w K mg base 1 T.f__law_draws T.fd__law_draws ["_law_cell"] (FSp mg g__law_draws) := by
  refine T.F__law_draws.okG (k := 0) sc__law_draws (fun _ _ _ _ h => fsp_len h) (fun cdv A out s G vs Q E hr hgd h => ?_)
  have tk : Takes (cxOf (L2.CX P w) P w K mg base N__law_draws "_law_draws" (defScope s__law_draws) T.f__law_draws cdv A out s G E) (fun cls d _ H => E cls d H) := takes_of rfl rfl rfl rfl
  refine ⟨_, (pss_one (ps_ret (pe_lst (pa_cons (pe_op op_mod (pe_callTy call_int1 (by rfl) T.m_int (by decide +kernel) (pa_cons (pv 0) pa_nil)) (pe_op op_powW (pe_op op_powW (pe_op op_powW pe_int pe_int) pe_int) pe_int)) (pa_cons pe_int (pa_cons (pe_cmpR op_ge (pv 0) (pe_op op_powW pe_int pe_int) (nomark _)) pa_nil)))))), ?_⟩
  exact fn_end (N := N__law_draws) (ar := 1) (body := body__law_draws) (ss_ret (se_cell (sf_lst (sa_cons (se_op os_mod (se_call ca_int (sa_cons (se_var 0) sa_nil)) (se_op os_powW (se_op os_powW (se_op os_powW (se_int 10) (se_int 60)) (se_int 60)) (se_int 4))) (sa_cons (se_int 0) (sa_cons (se_op os_ge (se_var 0) (se_op os_powW (se_int 10) (se_int 18))) sa_nil)))))) h
theorem ok__law_next (T : Top K mg) : FnG P w K mg base 1 T.f__law_next T.fd__law_next ["_law_draws_here"] (FSp mg g__law_next) := by
  refine T.F__law_next.okG (k := 0) sc__law_next (fun _ _ _ _ h => fsp_len h) (fun cdv A out s G vs Q E hr hgd h => ?_)
  have tk : Takes (cxOf (L2.CX P w) P w K mg base N__law_next "_law_next" (defScope s__law_next) T.f__law_next cdv A out s G E) (fun cls d _ H => E cls d H) := takes_of rfl rfl rfl rfl
  refine ⟨_, (pss_cons (ps_asg (pe_op op_addG (pe_ix (ixK (K := K)) (pv 0) pe_int (fun _ _ => rfl)) pe_int) (pg_sub (pv 0) pe_int set_list))
  (pss_cons (ps_set (i := 1) sc__law_next.nd rfl (.inl rfl) (pe_ix (ixK (K := K)) (pv 0) pe_int (fun _ _ => rfl)))
  (pss_cons (ps_if (ptK (K := K) (pe_ix (ixK (K := K)) (pv 0) pe_int (fun _ _ => rfl)) (by intro _; rfl)) (pss_cons (ps_set (i := 2) sc__law_next.nd rfl (.inl rfl) (pe_op op_mod (pe_callTy call_int1 (by rfl) T.m_int (by decide +kernel) (pa_cons (pe_ix (ixK (K := K)) (pv 0) pe_int (fun _ _ => rfl)) pa_nil)) (pe_op op_powW pe_int pe_int)))
  (pss_cons (ps_asg (pe_op op_fdiv (pe_ix (ixK (K := K)) (pv 0) pe_int (fun _ _ => rfl)) (pe_op op_powW pe_int pe_int)) (pg_sub (pv 0) pe_int set_list))
  (pss_one (ps_ret (pv 2))))) pss_nil)
  (pss_cons (ps_set (i := 2) sc__law_next.nd rfl (.inl rfl) (pe_op op_mod (pe_callTy call_int1 (by rfl) T.m_int (by decide +kernel) (pa_cons (pe_op op_mulG (pe_op op_addG (pe_op op_addG (pe_op op_mod (pe_callTy call_int1 (by rfl) T.m_int (by decide +kernel) (pa_cons (pe_ix (ixK (K := K)) (pv 0) pe_int (fun _ _ => rfl)) pa_nil)) pe_int) (pe_op op_mulG (pe_op op_mulG (pv 1) (pv 1)) pe_int)) (pv 1)) pe_int) pa_nil)) pe_int))
  (pss_cons (ps_set (i := 2) sc__law_next.nd rfl (.inl rfl) (pe_op op_mod (pe_callTy call_int1 (by rfl) T.m_int (by decide +kernel) (pa_cons (pe_op op_mulG (pv 2) (pv 2)) pa_nil)) pe_int))
  (pss_one (ps_ret (pe_op op_fdiv (pe_op op_mod (pe_callTy call_int1 (by rfl) T.m_int (by decide +kernel) (pa_cons (pe_op op_mulG (pv 2) (pe_op op_addG (pv 2) pe_int)) pa_nil)) pe_int) pe_int)))))))), ?_⟩
  exact fn_end (N := N__law_next) (ar := 1) (body := body__law_next) (ss_cons (ss_asg (se_op os_addG (se_op os_ix (se_var 0) (se_int 1)) (se_int 1)) (sg_sub (se_var 0) (se_int 1)))
  (ss_cons (ss_asg (se_op os_ix (se_var 0) (se_int 1)) sg_name)
  (ss_cons (ss_if (st_tru (se_op os_ix (se_var 0) (se_int 2))) (ss_cons (ss_asg (se_op os_mod (se_call ca_int (sa_cons (se_op os_ix (se_var 0) (se_int 0)) sa_nil)) (se_op os_powW (se_int 10) (se_int 6))) sg_name)
  (ss_cons (ss_asg (se_op os_div (se_op os_ix (se_var 0) (se_int 0)) (se_op os_powW (se_int 10) (se_int 6))) (sg_sub (se_var 0) (se_int 0)))
  (ss_ret (se_var 2)))) ss_nil)
  (ss_cons (ss_asg (se_op os_mod (se_call ca_int (sa_cons (se_op os_mulG (se_op os_addG (se_op os_addG (se_op os_mod (se_call ca_int (sa_cons (se_op os_ix (se_var 0) (se_int 0)) sa_nil)) (se_int 1000003)) (se_op os_mulG (se_op os_mulG (se_var 1) (se_var 1)) (se_int 7919))) (se_var 1)) (se_int 48271)) sa_nil)) (se_int 2147483629)) sg_name)
  (ss_cons (ss_asg (se_op os_mod (se_call ca_int (sa_cons (se_op os_mulG (se_var 2) (se_var 2)) sa_nil)) (se_int 2147483587)) sg_name)
  (ss_ret (se_op os_div (se_op os_mod (se_call ca_int (sa_cons (se_op os_mulG (se_var 2) (se_op os_addG (se_var 2) (se_int 2))) sa_nil)) (se_int 2147483579)) (se_int 7)))))))) h
theorem ok__law_drawn (T : Top K mg) : FnG P w K mg base 2 T.f__law_drawn T.fd__law_drawn ["_law_draws_here", "_law_most"] (FSp mg g__law_drawn) := by
  refine T.F__law_drawn.okG (k := 1) sc__law_drawn (fun _ _ _ _ h => fsp_len h) (fun cdv A out s G vs Q E hr hgd h => ?_)
  have tk : Takes (cxOf (L2.CX P w) P w K mg base N__law_drawn "_law_drawn" (defScope s__law_drawn) T.f__law_drawn cdv A out s G E) (fun cls d _ H => E cls d H) := takes_of rfl rfl rfl rfl
  refine ⟨_, (pss_cons (ps_set (i := 2) sc__law_drawn.nd rfl (.inl rfl) (pe_callG (ok__law_next T) (hr.mono (by decide)) hgd (by rfl) T.m__law_next T.F__law_next.kp (b__law_next T) tk (pa_cons (pv 0) pa_nil)))
  (pss_cons (ps_set (i := 3) sc__law_drawn.nd rfl (.inr rfl) (pe_ix (ixK (K := K)) (pe_lst (pa_cons pe_int (pa_cons pe_int (pa_cons pe_int (pa_cons (pe_op op_powW pe_int pe_int) pa_nil))))) (pe_op op_mod (pe_callTy call_int1 (by rfl) T.m_int (by decide +kernel) (pa_cons (pv 2) pa_nil)) pe_int) (fun _ _ => rfl)))
  (pss_cons (ps_setLc (i := 4) (own := [("_law_k", 5)]) rfl sc__law_drawn.nd rfl rfl (sw_true rfl rfl rfl (by decide +kernel)) (pi_range1 (by rfl) T.m_range (pa_cons (pe_op op_mod (pe_callTy call_int1 (by rfl) T.m_int (by decide +kernel) (pa_cons (pe_op op_fdiv (pv 2) pe_int) pa_nil)) (pe_op op_addG (pv 1) pe_int)) pa_nil)) (blkOk_by (by kernel_rfl)) (fun _ _ _ _ _ => (pg_name (i := 5) sc__law_drawn.nd rfl (.inl rfl))) (fun _ _ _ _ _ => pts_nil) (fun _ _ _ _ _ => (pe_op op_sub (pe_op op_mod (pe_callTy call_int1 (by rfl) T.m_int (by decide +kernel) (pa_cons (pe_callG (ok__law_next T) (hr.mono (by decide)) hgd (by rfl) T.m__law_next T.F__law_next.kp (b__law_next T) tkF (pa_cons (pv 0) pa_nil)) pa_nil)) (pv 3)) (pe_op op_fdiv (pv 3) pe_int))))
  (pss_cons (ps_set (i := 4) sc__law_drawn.nd rfl (.inl rfl) (pe_ifExp (pt_cmpR (eqK (K := K) hr.units) (pe_op op_mod (pe_callTy call_int1 (by rfl) T.m_int (by decide +kernel) (pa_cons (pe_op op_fdiv (pv 2) pe_int) pa_nil)) pe_int) pe_int (nomark _)) (pe_lc (own := [("_law_value", 6)]) rfl sc__law_drawn.nd (pi_or (piLK (K := K) (pv 4)) (piTK (K := K) (pv 4))) (blkOk_by (by kernel_rfl)) (fun _ _ _ _ _ => (pg_name (i := 6) sc__law_drawn.nd rfl (.inl rfl))) (fun _ _ _ _ _ => pts_nil) (fun _ _ _ _ _ => (pe_op op_addG (pe_op op_mulG (pe_op op_mulG (pv 6) pe_int) (pe_op op_powW pe_int pe_int)) pe_int))) (pv 4)))
  (pss_one (ps_ret (pe_ifExp (pt_cmpR (eqK (K := K) hr.units) (pe_op op_mod (pe_callTy call_int1 (by rfl) T.m_int (by decide +kernel) (pa_cons (pe_op op_fdiv (pv 2) pe_int) pa_nil)) pe_int) pe_int (nomark _)) (pe_callB (sortGK (K := K)) (by rfl) T.m_sorted (by decide +kernel) (pa_cons (pv 4) pa_nil)) (pv 4)))))))), ?_⟩
  exact fn_end (N := N__law_drawn) (ar := 2) (body := body__law_drawn) (ss_cons (ss_asg (se_def (sa_cons (se_var 0) sa_nil)) sg_name)
  (ss_cons (ss_asg (se_op os_ix (se_dat (sf_lst (sa_cons (se_int 2) (sa_cons (se_int 4) (sa_cons (se_int 9) (sa_cons (se_op os_powW (se_int 10) (se_int 6)) sa_nil)))))) (se_op os_mod (se_call ca_int (sa_cons (se_var 2) sa_nil)) (se_int 4))) sg_name)
  (ss_cons (ss_asg (se_dat (sf_lc (vs := [5]) (si_rng1 (sa_cons (se_op os_mod (se_call ca_int (sa_cons (se_op os_div (se_var 2) (se_int 4)) sa_nil)) (se_op os_addG (se_var 1) (se_int 1))) sa_nil)) sg_name (kg_name (by decide)) st_yes (se_op os_sub (se_op os_mod (se_call ca_int (sa_cons (se_def (sa_cons (se_var 0) sa_nil)) sa_nil)) (se_var 3)) (se_op os_div (se_var 3) (se_int 2))))) sg_name)
  (ss_cons (ss_asg (se_if (st_test (se_op os_eqG (se_op os_mod (se_call ca_int (sa_cons (se_op os_div (se_var 2) (se_int 4096)) sa_nil)) (se_int 8)) (se_int 0))) (se_dat (sf_lc (vs := [6]) (si_or (si_list (se_var 4)) (si_tup (se_var 4))) sg_name (kg_name (by decide)) st_yes (se_op os_addG (se_op os_mulG (se_op os_mulG (se_var 6) (se_int 2)) (se_op os_powW (se_int 10) (se_int 14))) (se_int 1)))) (se_var 4)) sg_name)
  (ss_ret (se_if (st_test (se_op os_eqG (se_op os_mod (se_call ca_int (sa_cons (se_op os_div (se_var 2) (se_int 512)) sa_nil)) (se_int 6)) (se_int 0))) (se_dat (sf_call ca_sortG (sa_cons (se_var 4) sa_nil))) (se_var 4))))))) h
theorem ok__law_row (T : Top K mg) : FnG P w K mg base 2 T.f__law_row T.fd__law_row ["_law_draws_here", "_law_most"] (FSp mg g__law_row) := by
  refine T.F__law_row.okG (k := 1) sc__law_row (fun _ _ _ _ h => fsp_len h) (fun cdv A out s G vs Q E hr hgd h => ?_)
  have tk : Takes (cxOf (L2.CX P w) P w K mg base N__law_row "_law_row" (defScope s__law_row) T.f__law_row cdv A out s G E) (fun cls d _ H => E cls d H) := takes_of rfl rfl rfl rfl
  refine ⟨_, (pss_cons (ps_set (i := 2) sc__law_row.nd rfl (.inr rfl) (pe_lst pa_nil))
  (pss_cons (ps_set (i := 3) sc__law_row.nd rfl (.inl rfl) (pe_op op_addG pe_int (pe_op op_mod (pe_callTy call_int1 (by rfl) T.m_int (by decide +kernel) (pa_cons (pe_callG (ok__law_next T) (hr.mono (by decide)) hgd (by rfl) T.m__law_next T.F__law_next.kp (b__law_next T) tk (pa_cons (pv 0) pa_nil)) pa_nil)) pe_int)))
  (pss_cons (ps_set (i := 4) sc__law_row.nd rfl (.inr rfl) (pe_op op_addG pe_int (pe_op op_mod (pe_callTy call_int1 (by rfl) T.m_int (by decide +kernel) (pa_cons (pe_callG (ok__law_next T) (hr.mono (by decide)) hgd (by rfl) T.m__law_next T.F__law_next.kp (b__law_next T) tk (pa_cons (pv 0) pa_nil)) pa_nil)) pe_int)))
  (pss_cons (ps_while (passes_of rfl) (PW.pt (pw_and (pt_cmpR op_lt (pe_callB (lenK (K := K)) (by rfl) T.m_len (by decide +kernel) (pa_cons (pv 2) pa_nil)) (pv 1) (nomark _)) (pw_and1 (pt_cmpR op_gt (pe_op op_mod (pe_callTy call_int1 (by rfl) T.m_int (by decide +kernel) (pa_cons (pe_callG (ok__law_next T) (hr.mono (by decide)) hgd (by rfl) T.m__law_next T.F__law_next.kp (b__law_next T) tk (pa_cons (pv 0) pa_nil)) pa_nil)) pe_int) pe_int (nomark _))))) (pss_cons (ps_set (i := 5) sc__law_row.nd rfl (.inr rfl) (pe_op op_addG pe_int (pe_op op_mulG pe_int (pe_op op_mod (pe_callTy call_int1 (by rfl) T.m_int (by decide +kernel) (pa_cons (pe_callG (ok__law_next T) (hr.mono (by decide)) hgd (by rfl) T.m__law_next T.F__law_next.kp (b__law_next T) tk (pa_cons (pv 0) pa_nil)) pa_nil)) (pv 3)))))
  (pss_cons (ps_setLc (i := 6) (own := [("_law_k", 7)]) rfl sc__law_row.nd rfl rfl (sw_true rfl rfl rfl (by decide +kernel)) (pi_range1 (by rfl) T.m_range (pa_cons (pe_op op_mod (pe_callTy call_int1 (by rfl) T.m_int (by decide +kernel) (pa_cons (pe_callG (ok__law_next T) (hr.mono (by decide)) hgd (by rfl) T.m__law_next T.F__law_next.kp (b__law_next T) tk (pa_cons (pv 0) pa_nil)) pa_nil)) pe_int) pa_nil)) (blkOk_by (by kernel_rfl)) (fun _ _ _ _ _ => (pg_name (i := 7) sc__law_row.nd rfl (.inl rfl))) (fun _ _ _ _ _ => pts_nil) (fun _ _ _ _ _ => (pe_op op_sub (pe_op op_sub (pv 5) pe_int) (pe_op op_mod (pe_callTy call_int1 (by rfl) T.m_int (by decide +kernel) (pa_cons (pe_callG (ok__law_next T) (hr.mono (by decide)) hgd (by rfl) T.m__law_next T.F__law_next.kp (b__law_next T) tkF (pa_cons (pv 0) pa_nil)) pa_nil)) (pv 4)))))
  (pss_one (ps_expr (pe_bm PySem.F.plainAttrs_list PySem.F.slot_list_append PySem.F.type_list_append mt_append (pv 2) (pa_cons (pe_op op_addG (pe_lst (pa_cons (pv 5) pa_nil)) (pv 6)) pa_nil)))))))
  (pss_one (ps_ret (pe_callB (call_sumL rfl) (by rfl) T.m_sum (by decide +kernel) (pa_cons (pe_callB (call_sumL rfl) (by rfl) T.m_sum (by decide +kernel) (pa_cons (pe_lc (own := [("_law_head", 5)]) rfl sc__law_row.nd (pi_or (piLK (K := K) (pe_lst (pa_cons pe_int (pa_cons pe_int (pa_cons pe_int pa_nil))))) (piTK (K := K) (pe_lst (pa_cons pe_int (pa_cons pe_int (pa_cons pe_int pa_nil)))))) (blkOk_by (by kernel_rfl)) (fun _ _ _ _ _ => (pg_name (i := 5) sc__law_row.nd rfl (.inr rfl))) (fun _ _ _ _ _ => pts_nil) (fun _ _ _ _ _ => (pe_lc (own := [("_law_unit", 8)]) rfl sc__law_row.nd (pi_or (piLK (K := K) (pv 2)) (piTK (K := K) (pv 2))) (blkOk_by (by kernel_rfl)) (fun _ _ _ _ _ => (pg_name (i := 8) sc__law_row.nd rfl (.inl rfl))) (fun _ _ _ _ _ => (pts_one (pt_cmpR (eqK (K := K) hr.units) (pe_ix (ixK (K := K)) (pv 8) pe_int (fun _ _ => rfl)) (pv 5) (nomark _)))) (fun _ _ _ _ _ => (pv 8))))) (pa_cons (pe_lst pa_nil) pa_nil))) (pa_cons (pe_lst pa_nil) pa_nil))))))))), ?_⟩
  exact fn_end (N := N__law_row) (ar := 2) (body := body__law_row) (ss_cons (ss_asg (se_cell (sf_lst sa_nil)) sg_name)
  (ss_cons (ss_asg (se_op os_addG (se_int 1) (se_op os_mod (se_call ca_int (sa_cons (se_def (sa_cons (se_var 0) sa_nil)) sa_nil)) (se_int 3))) sg_name)
  (ss_cons (ss_asg (se_op os_addG (se_int 1) (se_op os_mod (se_call ca_int (sa_cons (se_def (sa_cons (se_var 0) sa_nil)) sa_nil)) (se_int 2))) sg_name)
  (ss_cons (ss_while (st_and (st_test (se_op os_lt (se_call ca_lenG (sa_cons (se_var 2) sa_nil)) (se_var 1))) (st_test (se_op os_gt (se_op os_mod (se_call ca_int (sa_cons (se_def (sa_cons (se_var 0) sa_nil)) sa_nil)) (se_int 7)) (se_int 0)))) (ss_cons (ss_asg (se_op os_addG (se_int 5) (se_op os_mulG (se_int 5) (se_op os_mod (se_call ca_int (sa_cons (se_def (sa_cons (se_var 0) sa_nil)) sa_nil)) (se_var 3)))) sg_name)
  (ss_cons (ss_asg (se_dat (sf_lc (vs := [7]) (si_rng1 (sa_cons (se_op os_mod (se_call ca_int (sa_cons (se_def (sa_cons (se_var 0) sa_nil)) sa_nil)) (se_int 3)) sa_nil)) sg_name (kg_name (by decide)) st_yes (se_op os_sub (se_op os_sub (se_var 5) (se_int 1)) (se_op os_mod (se_call ca_int (sa_cons (se_def (sa_cons (se_var 0) sa_nil)) sa_nil)) (se_var 4))))) sg_name)
  (ss_expr (se_append (se_var 2) (se_op os_addG (se_dat (sf_lst (sa_cons (se_var 5) sa_nil))) (se_var 6)))))))
  (ss_ret (se_call ca_sumL (sa_cons (se_call ca_sumL (sa_cons (se_dat (sf_lc (vs := [5]) (si_or (si_list (se_dat (sf_lst (sa_cons (se_int 5) (sa_cons (se_int 10) (sa_cons (se_int 15) sa_nil)))))) (si_tup (se_dat (sf_lst (sa_cons (se_int 5) (sa_cons (se_int 10) (sa_cons (se_int 15) sa_nil))))))) sg_name (kg_name (by decide)) st_yes (se_dat (sf_lc (vs := [8]) (si_or (si_list (se_frz (se_var 2))) (si_tup (se_frz (se_var 2)))) sg_name (kg_name (by decide)) (st_test (se_op os_eqG (se_op os_ix (se_var 8) (se_int 0)) (se_var 5))) (se_var 8))))) (sa_cons (se_dat (sf_lst sa_nil)) sa_nil))) (sa_cons (se_dat (sf_lst sa_nil)) sa_nil)))))))) h
theorem ok__law_merged (T : Top K mg) : FnG P w K mg base 1 T.f__law_merged T.fd__law_merged ["_law_one", "_law_other"] (FSp mg g__law_merged) := by
  refine T.F__law_merged.okG (k := 0) sc__law_merged (fun _ _ _ _ h => fsp_len h) (fun cdv A out s G vs Q E hr hgd h => ?_)
  have tk : Takes (cxOf (L2.CX P w) P w K mg base N__law_merged "_law_merged" (defScope s__law_merged) T.f__law_merged cdv A out s G E) (fun cls d _ H => E cls d H) := takes_of rfl rfl rfl rfl
  refine ⟨_, (pss_cons (ps_if (PW.pt (pw_or (pt_cmpR (eqK (K := K) hr.units) (pv 0) (pe_lst pa_nil) (nomark _)) (pw_or1 (pt_cmpR (eqK (K := K) hr.units) (pv 1) (pe_lst pa_nil) (nomark _))))) (pss_one (ps_ret (pe_op op_addG (pv 0) (pv 1)))) pss_nil)
  (pss_cons (ps_set (i := 2) sc__law_merged.nd rfl (.inl rfl) (pe_lst pa_nil))
  (pss_cons (ps_par (i := 3) (j := 4) rfl sc__law_merged.nd rfl rfl (by decide) rfl rfl (pa_cons (pe_callTy (listK (K := K)) (by rfl) T.m_list (by decide +kernel) (pa_cons (pv 0) pa_nil)) (pa_cons (pe_callTy (listK (K := K)) (by rfl) T.m_list (by decide +kernel) (pa_cons (pv 1) pa_nil)) pa_nil)) (by rfl))
  (pss_cons (ps_while (passes_of rfl) (PW.pt (pw_and (pt_cmpR (neK (K := K) hr.units) (pv 3) (pe_lst pa_nil) (nomark _)) (pw_and1 (pt_cmpR (neK (K := K) hr.units) (pv 4) (pe_lst pa_nil) (nomark _))))) (pss_one (ps_expr (pe_bm PySem.F.plainAttrs_list PySem.F.slot_list_append PySem.F.type_list_append mt_append (pv 2) (pa_cons (pe_ifExp (pt_cmpR op_lt (pe_ix (ixK (K := K)) (pv 4) pe_int (fun _ _ => rfl)) (pe_ix (ixK (K := K)) (pv 3) pe_int (fun _ _ => rfl)) (nomark _)) (pe_bm PySem.F.plainAttrs_list PySem.F.slot_list_pop PySem.F.type_list_pop mt_popAt (pv 4) (pa_cons pe_int pa_nil)) (pe_bm PySem.F.plainAttrs_list PySem.F.slot_list_pop PySem.F.type_list_pop mt_popAt (pv 3) (pa_cons pe_int pa_nil))) pa_nil)))))
  (pss_one (ps_ret (pe_op op_addG (pe_op op_addG (pv 2) (pv 3)) (pv 4)))))))), ?_⟩
  exact fn_end (N := N__law_merged) (ar := 2) (body := body__law_merged) (ss_cons (ss_if (st_or (st_test (se_op os_eqG (se_var 0) (se_dat (sf_lst sa_nil)))) (st_test (se_op os_eqG (se_var 1) (se_dat (sf_lst sa_nil))))) (ss_ret (se_op os_addG (se_var 0) (se_var 1))) ss_nil)
  (ss_cons (ss_asg (se_cell (sf_lst sa_nil)) sg_name)
  (ss_cons (ss_par (i := 3) (j := 4) (sa_cons (se_cell (sf_call ca_list (sa_cons (se_var 0) sa_nil))) (sa_cons (se_cell (sf_call ca_list (sa_cons (se_var 1) sa_nil))) sa_nil)))
  (ss_cons (ss_while (st_and (st_test (se_op os_neG (se_var 3) (se_dat (sf_lst sa_nil)))) (st_test (se_op os_neG (se_var 4) (se_dat (sf_lst sa_nil))))) (ss_expr (se_append (se_var 2) (se_if (st_test (se_op os_lt (se_op os_ix (se_var 4) (se_int 0)) (se_op os_ix (se_var 3) (se_int 0)))) (se_popAt (se_var 4) (se_int 0)) (se_popAt (se_var 3) (se_int 0))))))
  (ss_ret (se_op os_addG (se_op os_addG (se_var 2) (se_var 3)) (se_var 4))))))) h
theorem ok__law_units (T : Top K mg) : FnG P w K mg base 1 T.f__law_units T.fd__law_units ["_law_values"] (FSp mg g__law_units) := by
  refine T.F__law_units.okG (k := 0) sc__law_units (fun _ _ _ _ h => fsp_len h) (fun cdv A out s G vs Q E hr hgd h => ?_)
  have tk : Takes (cxOf (L2.CX P w) P w K mg base N__law_units "_law_units" (defScope s__law_units) T.f__law_units cdv A out s G E) (fun cls d _ H => E cls d H) := takes_of rfl rfl rfl rfl
  refine ⟨_, (pss_cons (ps_setLc (i := 1) (own := [("_law_at", 3)]) rfl sc__law_units.nd rfl rfl (sw_true rfl rfl rfl (by decide +kernel)) (pi_range1 (by rfl) T.m_range (pa_cons (pe_callB (lenK (K := K)) (by rfl) T.m_len (by decide +kernel) (pa_cons (pv 0) pa_nil)) pa_nil)) (blkOk_by (by kernel_rfl)) (fun _ _ _ _ _ => (pg_name (i := 3) sc__law_units.nd rfl (.inr rfl))) (fun _ _ _ _ _ => (pts_one (pt_cmpR (eqK (K := K) hr.units) (pe_lc (own := [("_law_value", 6)]) rfl sc__law_units.nd (pi_or (piLK (K := K) (pe_slice (slK (K := K)) (pv 0) po_none (po_some (pv 3)))) (piTK (K := K) (pe_slice (slK (K := K)) (pv 0) po_none (po_some (pv 3))))) (blkOk_by (by kernel_rfl)) (fun _ _ _ _ _ => (pg_name (i := 6) sc__law_units.nd rfl (.inl rfl))) (fun _ _ _ _ _ => (pts_one (pt_cmpR op_gt (pv 6) (pe_ix (ixK (K := K)) (pv 0) (pv 3) (fun _ _ => rfl)) (nomark _)))) (fun _ _ _ _ _ => (pv 6))) (pe_lst pa_nil) (nomark _)))) (fun _ _ _ _ _ => (pv 3)))
  (pss_cons (ps_set (i := 2) sc__law_units.nd rfl (.inl rfl) (pe_op op_addG (pe_slice (slK (K := K)) (pv 1) (po_some pe_int) po_none) (pe_lst (pa_cons (pe_callB (lenK (K := K)) (by rfl) T.m_len (by decide +kernel) (pa_cons (pv 0) pa_nil)) pa_nil))))
  (pss_one (ps_ret (pe_lc (own := [("_law_one", 4), ("_law_other", 5)]) rfl sc__law_units.nd (piZK (K := K) (by rfl) T.m_zip (pa_cons (pv 1) (pa_cons (pv 2) pa_nil))) (blkOk_by (by kernel_rfl)) (fun _ _ _ _ _ => (pgTK (K := K) (n := 2) rfl (pgs_cons (pg_name (i := 4) sc__law_units.nd rfl (.inl rfl)) (pgs_cons (pg_name (i := 5) sc__law_units.nd rfl (.inl rfl)) pgs_nil)))) (fun _ _ _ _ _ => pts_nil) (fun _ _ _ _ _ => (pe_slice (slK (K := K)) (pv 0) (po_some (pv 4)) (po_some (pv 5))))))))), ?_⟩
  exact fn_end (N := N__law_units) (ar := 1) (body := body__law_units) (ss_cons (ss_asg (se_dat (sf_lc (vs := [3]) (si_rng1 (sa_cons (se_call ca_lenG (sa_cons (se_var 0) sa_nil)) sa_nil)) sg_name (kg_name (by decide)) (st_test (se_op os_eqG (se_dat (sf_lc (vs := [6]) (si_or (si_list (se_sl ss_G (se_var 0) so_none (so_some (se_var 3)))) (si_tup (se_sl ss_G (se_var 0) so_none (so_some (se_var 3))))) sg_name (kg_name (by decide)) (st_test (se_op os_gt (se_var 6) (se_op os_ix (se_var 0) (se_var 3)))) (se_var 6))) (se_dat (sf_lst sa_nil)))) (se_var 3))) sg_name)
  (ss_cons (ss_asg (se_op os_addG (se_sl ss_G (se_var 1) (so_some (se_int 1)) so_none) (se_dat (sf_lst (sa_cons (se_call ca_lenG (sa_cons (se_var 0) sa_nil)) sa_nil)))) sg_name)
  (ss_ret (se_dat (sf_lc (vs := [4, 5]) (si_zip (sa_cons (se_var 1) (sa_cons (se_var 2) sa_nil))) (sg_tup (sgs_cons sg_name (sgs_cons sg_name sgs_nil))) (kg_tup (kgs_cons (kg_name (by decide)) (kgs_cons (kg_name (by decide)) kgs_nil))) st_yes (se_sl ss_G (se_var 0) (so_some (se_var 4)) (so_some (se_var 5)))))))) h
theorem ok__law_word (T : Top K mg) : FnG P w K mg base 2 T.f__law_word T.fd__law_word ["_law_values", "_law_head"] (FSp mg g__law_word) := by
  refine T.F__law_word.okG (k := 1) sc__law_word (fun _ _ _ _ h => fsp_len h) (fun cdv A out s G vs Q E hr hgd h => ?_)
  have tk : Takes (cxOf (L2.CX P w) P w K mg base N__law_word "_law_word" (defScope s__law_word) T.f__law_word cdv A out s G E) (fun cls d _ H => E cls d H) := takes_of rfl rfl rfl rfl
  refine ⟨_, (pss_one (ps_ret (pe_lc (own := [("_law_unit", 2)]) rfl sc__law_word.nd (pi_or (piLK (K := K) (pe_callG (ok__law_units T) (hr.mono (by decide)) hgd (by rfl) T.m__law_units T.F__law_units.kp (b__law_units T) tk (pa_cons (pv 0) pa_nil))) (piTK (K := K) (pe_callG (ok__law_units T) (hr.mono (by decide)) hgd (by rfl) T.m__law_units T.F__law_units.kp (b__law_units T) tk (pa_cons (pv 0) pa_nil)))) (blkOk_by (by kernel_rfl)) (fun _ _ _ _ _ => (pg_name (i := 2) sc__law_word.nd rfl (.inl rfl))) (fun _ _ _ _ _ => (pts_one (pt_cmpR (eqK (K := K) hr.units) (pe_ix (ixK (K := K)) (pv 2) pe_int (fun _ _ => rfl)) (pv 1) (nomark _)))) (fun _ _ _ _ _ => (pv 2))))), ?_⟩
  exact fn_end (N := N__law_word) (ar := 2) (body := body__law_word) (ss_ret (se_dat (sf_lc (vs := [2]) (si_or (si_list (se_def (sa_cons (se_var 0) sa_nil))) (si_tup (se_def (sa_cons (se_var 0) sa_nil)))) sg_name (kg_name (by decide)) (st_test (se_op os_eqG (se_op os_ix (se_var 2) (se_int 0)) (se_var 1))) (se_var 2)))) h
theorem ok__law_heads (T : Top K mg) : FnG P w K mg base 2 T.f__law_heads T.fd__law_heads ["_law_values"] (FSp mg g__law_heads) := by
  refine T.F__law_heads.okG (k := 1) sc__law_heads (fun _ _ _ _ h => fsp_len h) (fun cdv A out s G vs Q E hr hgd h => ?_)
  have tk : Takes (cxOf (L2.CX P w) P w K mg base N__law_heads "_law_heads" (defScope s__law_heads) T.f__law_heads cdv A out s G E) (fun cls d _ H => E cls d H) := takes_of rfl rfl rfl rfl
  refine ⟨_, (pss_one (ps_ret (pe_callB (sortSetK (w := w) rfl) (by rfl) T.m_sorted (by decide +kernel) (pa_cons (pe_callTy (setIK (K := K) (w := w) rfl) (by rfl) T.m_set (by decide +kernel) (pa_cons (pe_lc (own := [("_law_unit", 1)]) rfl sc__law_heads.nd (pi_or (piLK (K := K) (pe_callG (ok__law_units T) (hr.mono (by decide)) hgd (by rfl) T.m__law_units T.F__law_units.kp (b__law_units T) tk (pa_cons (pv 0) pa_nil))) (piTK (K := K) (pe_callG (ok__law_units T) (hr.mono (by decide)) hgd (by rfl) T.m__law_units T.F__law_units.kp (b__law_units T) tk (pa_cons (pv 0) pa_nil)))) (blkOk_by (by kernel_rfl)) (fun _ _ _ _ _ => (pg_name (i := 1) sc__law_heads.nd rfl (.inl rfl))) (fun _ _ _ _ _ => pts_nil) (fun _ _ _ _ _ => (pe_ix (ixK (K := K)) (pv 1) pe_int (fun _ _ => rfl)))) pa_nil)) pa_nil)))), ?_⟩
  exact fn_end (N := N__law_heads) (ar := 1) (body := body__law_heads) (ss_ret (se_dat (sf_srtS (se_dat (sf_lc (vs := [1]) (si_or (si_list (se_def (sa_cons (se_var 0) sa_nil))) (si_tup (se_def (sa_cons (se_var 0) sa_nil)))) sg_name (kg_name (by decide)) st_yes (se_op os_ix (se_var 1) (se_int 0))))))) h
theorem ok__law_of_words (T : Top K mg) : FnG P w K mg base 1 T.f__law_of_words T.fd__law_of_words ["_law_some"] (FSp mg g__law_of_words) := by
  refine T.F__law_of_words.okG (k := 0) sc__law_of_words (fun _ _ _ _ h => fsp_len h) (fun cdv A out s G vs Q E hr hgd h => ?_)
  have tk : Takes (cxOf (L2.CX P w) P w K mg base N__law_of_words "_law_of_words" (defScope s__law_of_words) T.f__law_of_words cdv A out s G E) (fun cls d _ H => E cls d H) := takes_of rfl rfl rfl rfl
  refine ⟨_, (pss_one (ps_ret (pe_callB (call_sumL rfl) (by rfl) T.m_sum (by decide +kernel) (pa_cons (pe_lc (own := [("_law_head", 1)]) rfl sc__law_of_words.nd (pi_or (piLK (K := K) (pe_callB (sortKK rfl) (by rfl) T.m_sorted (by decide +kernel) (pa_cons (pv 0) pa_nil))) (piTK (K := K) (pe_callB (sortKK rfl) (by rfl) T.m_sorted (by decide +kernel) (pa_cons (pv 0) pa_nil)))) (blkOk_by (by kernel_rfl)) (fun _ _ _ _ _ => (pg_name (i := 1) sc__law_of_words.nd rfl (.inl rfl))) (fun _ _ _ _ _ => pts_nil) (fun _ _ _ _ _ => (pe_callB (call_sumL rfl) (by rfl) T.m_sum (by decide +kernel) (pa_cons (pe_dget hr.units1 (pv 0) (pv 1) (fun _ _ => rfl)) (pa_cons (pe_lst pa_nil) pa_nil))))) (pa_cons (pe_lst pa_nil) pa_nil))))), ?_⟩
  exact fn_end (N := N__law_of_words) (ar := 1) (body := body__law_of_words) (ss_ret (se_call ca_sumL (sa_cons (se_dat (sf_lc (vs := [1]) (si_or (si_list (se_dat (sf_call ca_sortK (sa_cons (se_var 0) sa_nil)))) (si_tup (se_dat (sf_call ca_sortK (sa_cons (se_var 0) sa_nil))))) sg_name (kg_name (by decide)) st_yes (se_call ca_sumL (sa_cons (se_dsub (se_var 0) (se_var 1)) (sa_cons (se_dat (sf_lst sa_nil)) sa_nil))))) (sa_cons (se_dat (sf_lst sa_nil)) sa_nil)))) h
theorem ok__law_due (T : Top K mg) : FnG P w K mg base 3 T.f__law_due T.fd__law_due ["_law_a_whole", "_law_a_first"] (FSp mg g__law_due) := by
  refine T.F__law_due.okG (k := 2) sc__law_due (fun _ _ _ _ h => fsp_len h) (fun cdv A out s G vs Q E hr hgd h => ?_)
  have tk : Takes (cxOf (L2.CX P w) P w K mg base N__law_due "_law_due" (defScope s__law_due) T.f__law_due cdv A out s G E) (fun cls d _ H => E cls d H) := takes_of rfl rfl rfl rfl
  refine ⟨_, (pss_cons (ps_set (i := 2) sc__law_due.nd rfl (.inl rfl) pe_dnewK)
  (pss_cons (ps_for (passes_of rfl) rfl (pi_or (piLK (K := K) (pe_callB (sortSetK (w := w) rfl) (by rfl) T.m_sorted (by decide +kernel) (pa_cons (pe_callTy (setIK (K := K) (w := w) rfl) (by rfl) T.m_set (by decide +kernel) (pa_cons (pe_op op_addG (pe_callG (ok__law_heads T) (hr.mono (by decide)) hgd (by rfl) T.m__law_heads T.F__law_heads.kp (b__law_heads T) tk (pa_cons (pv 0) pa_nil)) (pe_callG (ok__law_heads T) (hr.mono (by decide)) hgd (by rfl) T.m__law_heads T.F__law_heads.kp (b__law_heads T) tk (pa_cons (pv 1) pa_nil))) pa_nil)) pa_nil))) (piTK (K := K) (pe_callB (sortSetK (w := w) rfl) (by rfl) T.m_sorted (by decide +kernel) (pa_cons (pe_callTy (setIK (K := K) (w := w) rfl) (by rfl) T.m_set (by decide +kernel) (pa_cons (pe_op op_addG (pe_callG (ok__law_heads T) (hr.mono (by decide)) hgd (by rfl) T.m__law_heads T.F__law_heads.kp (b__law_heads T) tk (pa_cons (pv 0) pa_nil)) (pe_callG (ok__law_heads T) (hr.mono (by decide)) hgd (by rfl) T.m__law_heads T.F__law_heads.kp (b__law_heads T) tk (pa_cons (pv 1) pa_nil))) pa_nil)) pa_nil)))) (pg_name (i := 3) sc__law_due.nd rfl (.inl rfl)) (pss_cons (ps_par (i := 4) (j := 5) rfl sc__law_due.nd rfl rfl (by decide) rfl rfl (pa_cons (pe_callG (ok__law_word T) (hr.mono (by decide)) hgd (by rfl) T.m__law_word T.F__law_word.kp (b__law_word T) tk (pa_cons (pv 0) (pa_cons (pv 3) pa_nil))) (pa_cons (pe_callG (ok__law_word T) (hr.mono (by decide)) hgd (by rfl) T.m__law_word T.F__law_word.kp (b__law_word T) tk (pa_cons (pv 1) (pa_cons (pv 3) pa_nil))) pa_nil)) (by rfl))
  (pss_cons (ps_for (passes_of rfl) rfl (piEK (K := K) (by rfl) T.m_enumerate (pa_cons (pv 5) pa_nil)) (pgTK (K := K) (n := 2) rfl (pgs_cons (pg_name (i := 6) sc__law_due.nd rfl (.inl rfl)) (pgs_cons (pg_name (i := 7) sc__law_due.nd rfl (.inl rfl)) pgs_nil))) (pss_one (ps_if (pt_cmpR (neK (K := K) hr.units) (pe_slice (slK (K := K)) (pv 4) (po_some (pv 6)) (po_some (pe_op op_addG (pv 6) pe_int))) (pe_lst (pa_cons (pv 7) pa_nil)) (nomark _)) (pss_one (ps_ret (pe_tup (pa_cons pe_str (pa_cons (pv 3) (pa_cons (pv 6) pa_nil)))))) pss_nil)))
  (pss_one (ps_dput hr.units1 (pv 2) (pv 3) (pe_slice (slK (K := K)) (pv 4) (po_some (pe_callB (lenK (K := K)) (by rfl) T.m_len (by decide +kernel) (pa_cons (pv 5) pa_nil))) po_none) (by rfl))))))
  (pss_one (ps_ret (pe_tup (pa_cons pe_str (pa_cons (pe_callG (ok__law_of_words T) (hr.mono (by decide)) hgd (by rfl) T.m__law_of_words T.F__law_of_words.kp (b__law_of_words T) tk (pa_cons (pe_lockR (pv 2)) pa_nil)) pa_nil))))))), ?_⟩
  exact fn_end (N := N__law_due) (ar := 2) (body := body__law_due) (ss_cons (ss_asg se_dnewM sg_name)
  (ss_cons (ss_for (si_or (si_list (se_dat (sf_srtS (se_op os_addG (se_def (sa_cons (se_var 0) sa_nil)) (se_def (sa_cons (se_var 1) sa_nil)))))) (si_tup (se_dat (sf_srtS (se_op os_addG (se_def (sa_cons (se_var 0) sa_nil)) (se_def (sa_cons (se_var 1) sa_nil))))))) sg_name (ss_cons (ss_par (i := 4) (j := 5) (sa_cons (se_def (sa_cons (se_var 0) (sa_cons (se_var 3) sa_nil))) (sa_cons (se_def (sa_cons (se_var 1) (sa_cons (se_var 3) sa_nil))) sa_nil)))
  (ss_cons (ss_for (si_enum (sa_cons (se_var 5) sa_nil)) (sg_tup (sgs_cons sg_name (sgs_cons sg_name sgs_nil))) (ss_if (st_test (se_op os_neG (se_sl ss_G (se_var 4) (so_some (se_var 6)) (so_some (se_op os_addG (se_var 6) (se_int 1)))) (se_dat (sf_lst (sa_cons (se_var 7) sa_nil))))) (ss_ret (se_tup (sa_cons (se_str "leader") (sa_cons (se_var 3) (sa_cons (se_var 6) sa_nil))))) ss_nil))
  (ss_dput (se_var 2) (se_var 3) (se_sl ss_G (se_var 4) (so_some (se_call ca_lenG (sa_cons (se_var 5) sa_nil))) so_none)))))
  (ss_ret (se_rst (se_tup (sa_cons (se_str "list") (sa_cons (se_def (sa_cons (se_frzL (se_var 2)) sa_nil)) sa_nil))))))) h
theorem ok__law_right (T : Top K mg) : FnG P w K mg base 4 T.f__law_right T.fd__law_right ["_law_draws_here"] (FSp mg g__law_right) := by
  refine T.F__law_right.okG (k := 3) sc__law_right (fun _ _ _ _ h => fsp_len h) (fun cdv A out s G vs Q E hr hgd h => ?_)
  have tk : Takes (cxOf (L2.CX P w) P w K mg base N__law_right "_law_right" (defScope s__law_right) T.f__law_right cdv A out s G E) (fun cls d _ H => E cls d H) := takes_of rfl rfl rfl rfl
  refine ⟨_, (pss_cons (ps_set (i := 1) sc__law_right.nd rfl (.inl rfl) (pe_ifExp (pt_cmpR (eqK (K := K) hr.units) (pe_op op_mod (pe_callTy call_int1 (by rfl) T.m_int (by decide +kernel) (pa_cons (pe_callG (ok__law_next T) (hr.mono (by decide)) hgd (by rfl) T.m__law_next T.F__law_next.kp (b__law_next T) tk (pa_cons (pv 0) pa_nil)) pa_nil)) pe_int) pe_int (nomark _)) (pe_callG (ok__law_drawn T) (hr.mono (by decide)) hgd (by rfl) T.m__law_drawn T.F__law_drawn.kp (b__law_drawn T) tk (pa_cons (pv 0) (pa_cons pe_int pa_nil))) (pe_callG (ok__law_row T) (hr.mono (by decide)) hgd (by rfl) T.m__law_row T.F__law_row.kp (b__law_row T) tk (pa_cons (pv 0) (pa_cons pe_int pa_nil)))))
  (pss_cons (ps_set (i := 2) sc__law_right.nd rfl (.inl rfl) (pe_callG (ok__law_row T) (hr.mono (by decide)) hgd (by rfl) T.m__law_row T.F__law_row.kp (b__law_row T) tk (pa_cons (pv 0) (pa_cons pe_int pa_nil))))
  (pss_cons (ps_set (i := 3) sc__law_right.nd rfl (.inl rfl) (pe_callG (ok__law_merged T) (hr.mono (by decide)) hgd (by rfl) T.m__law_merged T.F__law_merged.kp (b__law_merged T) tk (pa_cons (pv 1) (pa_cons (pv 2) pa_nil))))
  (pss_cons (ps_if (pt_cmpR (neK (K := K) hr.units) (pe_callG (ok_quotient T) (hr.mono (by decide)) hgd (by rfl) T.m_quotient T.F_quotient.kp (b_quotient T) tk (pa_cons (pv 3) (pa_cons (pv 1) pa_nil))) (pe_tup (pa_cons pe_str (pa_cons (pv 2) pa_nil))) (nomark _)) (pss_one (ps_ret pe_bl)) pss_nil)
  (pss_cons (ps_for (passes_of rfl) rfl (pi_or (piLK (K := K) (pe_lst (pa_cons (pv 1) (pa_cons (pe_callG (ok__law_row T) (hr.mono (by decide)) hgd (by rfl) T.m__law_row T.F__law_row.kp (b__law_row T) tk (pa_cons (pv 0) (pa_cons pe_int pa_nil))) (pa_cons (pv 2) (pa_cons (pe_slice (slK (K := K)) (pv 1) (po_some pe_int) po_none) (pa_cons (pe_slice (slK (K := K)) (pv 1) po_none (po_some (pe_un un_neg pe_int))) (pa_cons (pv 3) (pa_cons (pe_lst pa_nil) (pa_cons (pe_callG (ok__law_drawn T) (hr.mono (by decide)) hgd (by rfl) T.m__law_drawn T.F__law_drawn.kp (b__law_drawn T) tk (pa_cons (pv 0) (pa_cons pe_int pa_nil))) pa_nil)))))))))) (piTK (K := K) (pe_lst (pa_cons (pv 1) (pa_cons (pe_callG (ok__law_row T) (hr.mono (by decide)) hgd (by rfl) T.m__law_row T.F__law_row.kp (b__law_row T) tk (pa_cons (pv 0) (pa_cons pe_int pa_nil))) (pa_cons (pv 2) (pa_cons (pe_slice (slK (K := K)) (pv 1) (po_some pe_int) po_none) (pa_cons (pe_slice (slK (K := K)) (pv 1) po_none (po_some (pe_un un_neg pe_int))) (pa_cons (pv 3) (pa_cons (pe_lst pa_nil) (pa_cons (pe_callG (ok__law_drawn T) (hr.mono (by decide)) hgd (by rfl) T.m__law_drawn T.F__law_drawn.kp (b__law_drawn T) tk (pa_cons (pv 0) (pa_cons pe_int pa_nil))) pa_nil))))))))))) (pg_name (i := 4) sc__law_right.nd rfl (.inl rfl)) (pss_cons (ps_set (i := 5) sc__law_right.nd rfl (.inl rfl) (pe_callB (reprK (K := K) hr hgd) (by rfl) T.m_repr (by decide +kernel) (pa_cons (pe_lst (pa_cons (pv 3) (pa_cons (pv 4) pa_nil))) pa_nil)))
  (pss_cons (ps_set (i := 6) sc__law_right.nd rfl (.inl rfl) (pe_callG (ok__law_due T) (hr.mono (by decide)) hgd (by rfl) T.m__law_due T.F__law_due.kp (b__law_due T) tk (pa_cons (pv 3) (pa_cons (pv 4) pa_nil))))
  (pss_cons (ps_par (i := 7) (j := 8) rfl sc__law_right.nd rfl rfl (by decide) rfl rfl (pa_cons (pe_callG (ok_quotient T) (hr.mono (by decide)) hgd (by rfl) T.m_quotient T.F_quotient.kp (b_quotient T) tk (pa_cons (pv 3) (pa_cons (pv 4) pa_nil))) (pa_cons (pe_callGK (ok_quotient T) (hr.mono (by decide)) hgd (by rfl) T.m_quotient T.F_quotient.kp (T.F_quotient.bindsK (ks := ["first", "whole"]) (is := [1, 0]) fun _ _ _ _ _ _ us hl => match us, hl with | [], hl => by simp [DL.permL] at hl | [_], hl => by simp [DL.permL] at hl | _ :: _ :: _, _ => rfl) tk (pk_cons (pv 4) (pk_cons (pv 3) pk_nil))) pa_nil)) (by rfl))
  (pss_cons (ps_if (PW.pt (pw_or (pt_cmpR (neK (K := K) hr.units) (pe_callB (reprK (K := K) hr hgd) (by rfl) T.m_repr (by decide +kernel) (pa_cons (pe_lst (pa_cons (pv 7) (pa_cons (pv 8) pa_nil))) pa_nil)) (pe_callB (reprK (K := K) hr hgd) (by rfl) T.m_repr (by decide +kernel) (pa_cons (pe_lst (pa_cons (pv 6) (pa_cons (pv 6) pa_nil))) pa_nil)) (nomark _)) (pw_or1 (pt_cmpR (neK (K := K) hr.units) (pe_callB (reprK (K := K) hr hgd) (by rfl) T.m_repr (by decide +kernel) (pa_cons (pe_lst (pa_cons (pv 3) (pa_cons (pv 4) pa_nil))) pa_nil)) (pv 5) (nomark _))))) (pss_one (ps_ret pe_bl)) pss_nil)
  (pss_cons (ps_if (pt_cmpR (eqK (K := K) hr.units) (pe_ix (ixK (K := K)) (pv 7) pe_int (fun _ _ => rfl)) pe_str (nomark _)) (pss_cons (ps_set (i := 9) sc__law_right.nd rfl (.inl rfl) (pe_ix (ixK (K := K)) (pv 7) pe_int (fun _ _ => rfl)))
  (pss_one (ps_expr (pe_bm PySem.F.plainAttrs_list PySem.F.slot_list_append PySem.F.type_list_append mt_append (pv 9) (pa_cons pe_non pa_nil))))) pss_nil)
  (pss_one (ps_if (PW.pt (pw_or (pt_cmpR (neK (K := K) hr.units) (pv 8) (pv 6) (nomark _)) (pw_or1 (pt_cmpR (neK (K := K) hr.units) (pe_callB (reprK (K := K) hr hgd) (by rfl) T.m_repr (by decide +kernel) (pa_cons (pe_lst (pa_cons (pv 3) (pa_cons (pv 4) pa_nil))) pa_nil)) (pv 5) (nomark _))))) (pss_one (ps_ret pe_bl)) pss_nil))))))))
  (pss_one (ps_ret (pe_cmpR (eqK (K := K) hr.units) (pe_callG (ok_quotient T) (hr.mono (by decide)) hgd (by rfl) T.m_quotient T.F_quotient.kp (b_quotient T) tk (pa_cons (pv 3) (pa_cons (pv 3) pa_nil))) (pe_tup (pa_cons pe_str (pa_cons (pe_lst pa_nil) pa_nil))) (nomark _))))))))), ?_⟩
  exact fn_end (N := N__law_right) (ar := 1) (body := body__law_right) (ss_cons (ss_asg (se_if (st_test (se_op os_eqG (se_op os_mod (se_call ca_int (sa_cons (se_def (sa_cons (se_var 0) sa_nil)) sa_nil)) (se_int 3)) (se_int 0))) (se_def (sa_cons (se_var 0) (sa_cons (se_int 16) sa_nil))) (se_def (sa_cons (se_var 0) (sa_cons (se_int 6) sa_nil)))) sg_name)
  (ss_cons (ss_asg (se_def (sa_cons (se_var 0) (sa_cons (se_int 8) sa_nil))) sg_name)
  (ss_cons (ss_asg (se_def (sa_cons (se_var 1) (sa_cons (se_var 2) sa_nil))) sg_name)
  (ss_cons (ss_if (st_test (se_op os_neG (se_frz (se_def (sa_cons (se_var 3) (sa_cons (se_var 1) sa_nil)))) (se_tup (sa_cons (se_str "list") (sa_cons (se_var 2) sa_nil))))) (ss_ret (se_bl false)) ss_nil)
  (ss_cons (ss_for (si_or (si_list (se_dat (sf_lst (sa_cons (se_var 1) (sa_cons (se_def (sa_cons (se_var 0) (sa_cons (se_int 5) sa_nil))) (sa_cons (se_var 2) (sa_cons (se_sl ss_G (se_var 1) (so_some (se_int 1)) so_none) (sa_cons (se_sl ss_G (se_var 1) so_none (so_some (se_neg (se_int 1)))) (sa_cons (se_var 3) (sa_cons (se_dat (sf_lst sa_nil)) (sa_cons (se_def (sa_cons (se_var 0) (sa_cons (se_int 6) sa_nil))) sa_nil))))))))))) (si_tup (se_dat (sf_lst (sa_cons (se_var 1) (sa_cons (se_def (sa_cons (se_var 0) (sa_cons (se_int 5) sa_nil))) (sa_cons (se_var 2) (sa_cons (se_sl ss_G (se_var 1) (so_some (se_int 1)) so_none) (sa_cons (se_sl ss_G (se_var 1) so_none (so_some (se_neg (se_int 1)))) (sa_cons (se_var 3) (sa_cons (se_dat (sf_lst sa_nil)) (sa_cons (se_def (sa_cons (se_var 0) (sa_cons (se_int 6) sa_nil))) sa_nil)))))))))))) sg_name (ss_cons (ss_asg (se_call ca_repr (sa_cons (se_dat (sf_lst (sa_cons (se_var 3) (sa_cons (se_var 4) sa_nil)))) sa_nil)) sg_name)
  (ss_cons (ss_asg (se_def (sa_cons (se_var 3) (sa_cons (se_var 4) sa_nil))) sg_name)
  (ss_cons (ss_par (i := 7) (j := 8) (sa_cons (se_def (sa_cons (se_var 3) (sa_cons (se_var 4) sa_nil))) (sa_cons (se_frzN (se_defK (is := [1, 0]) (sa_cons (se_var 4) (sa_cons (se_var 3) sa_nil)))) sa_nil)))
  (ss_cons (ss_if (st_rst (st_or (st_test (se_op os_neG (se_call ca_repr (sa_cons (se_dat (sf_lst (sa_cons (se_frz (se_var 7)) (sa_cons (se_var 8) sa_nil)))) sa_nil)) (se_call ca_repr (sa_cons (se_dat (sf_lst (sa_cons (se_var 6) (sa_cons (se_var 6) sa_nil)))) sa_nil)))) (st_test (se_op os_neG (se_call ca_repr (sa_cons (se_dat (sf_lst (sa_cons (se_var 3) (sa_cons (se_var 4) sa_nil)))) sa_nil)) (se_var 5))))) (ss_ret (se_bl false)) ss_nil)
  (ss_cons (ss_if (st_test (se_op os_eqG (se_op os_ixT (se_var 7) (se_int 0)) (se_str "list"))) (ss_cons (ss_asg (se_op os_ixT (se_var 7) (se_int 1)) sg_name)
  (ss_expr (se_append (se_var 9) se_non))) ss_nil)
  (ss_if (st_or (st_test (se_op os_neG (se_var 8) (se_var 6))) (st_test (se_op os_neG (se_call ca_repr (sa_cons (se_dat (sf_lst (sa_cons (se_var 3) (sa_cons (se_var 4) sa_nil)))) sa_nil)) (se_var 5)))) (ss_ret (se_bl false)) ss_nil)))))))
  (ss_ret (se_op os_eqG (se_frz (se_def (sa_cons (se_var 3) (sa_cons (se_var 3) sa_nil)))) (se_tup (sa_cons (se_str "list") (sa_cons (se_dat (sf_lst sa_nil)) sa_nil)))))))))) h
end
noncomputable def fb_law : M Fl := (fIf (fOr (fNot (fTru (fDef g__law_right (fCons (fVar 1) fNil)))) (fNot (fTru (fDef g__law_right (fCons (fVar 1) fNil))))) (fRet (fC (.bool false))) fNext)
section
variable {P : Program} {w : World} {K : PySem.W.Frag} {mg : Str → Option Value} {base : Heap}
theorem ok_law (T : Top K mg) {init : Int → List D} {inv : List D → Prop} (hD : ∀ c : Int, g__law_draws [.d (.int c)] [] = .ok (.c 0) [.l (init c)]) (hf : ∀ c, (init c).all flat = true) (h0 : ∀ c, inv (init c)) (step : ∀ st, inv st → ∃ s', fb_law ⟨(List.replicate N_law.length none).set 1 (some (.c 0)), [.l st]⟩ = .ok .nx s' ∧ s'.sl.length = N_law.length) : FnG P w K mg base 5 T.f_law T.fd_law ["_law_script"] (spLaw K) := by
  refine T.F_law.okG (k := 4) sc_law (fun _ _ _ _ h => spLaw_len h) (fun cdv A out s G vs Q E hr hgd h => ?_)
  have tk : Takes (cxOf (L2.CX P w) P w K mg base N_law "law" (defScope s_law) T.f_law cdv A out s G E) (fun cls d _ H => E cls d H) := takes_of rfl rfl rfl rfl
  refine ⟨_, (pss_cons (ps_for (passes_of rfl) rfl (pi_or (piLK (K := K) (pe_lc (own := [("_law_cell", 2)]) rfl sc_law.nd (pi_or (piLK (K := K) (pe_op op_cat (pe_slice (slLK (K := K)) (pv 0) po_none (po_some pe_int)) (pe_lst (pa_cons pe_int pa_nil)))) (piTK (K := K) (pe_op op_cat (pe_slice (slLK (K := K)) (pv 0) po_none (po_some pe_int)) (pe_lst (pa_cons pe_int pa_nil))))) (blkOk_by (by kernel_rfl)) (fun _ _ _ _ _ => (pg_name (i := 2) sc_law.nd rfl (.inl rfl))) (fun _ _ _ _ _ => pts_nil) (fun _ _ _ _ _ => (pe_callG (ok__law_draws T) (hr.mono (by decide)) hgd (by rfl) T.m__law_draws T.F__law_draws.kp (b__law_draws T) tkF (pa_cons (pv 2) pa_nil))))) (piTK (K := K) (pe_lc (own := [("_law_cell", 2)]) rfl sc_law.nd (pi_or (piLK (K := K) (pe_op op_cat (pe_slice (slLK (K := K)) (pv 0) po_none (po_some pe_int)) (pe_lst (pa_cons pe_int pa_nil)))) (piTK (K := K) (pe_op op_cat (pe_slice (slLK (K := K)) (pv 0) po_none (po_some pe_int)) (pe_lst (pa_cons pe_int pa_nil))))) (blkOk_by (by kernel_rfl)) (fun _ _ _ _ _ => (pg_name (i := 2) sc_law.nd rfl (.inl rfl))) (fun _ _ _ _ _ => pts_nil) (fun _ _ _ _ _ => (pe_callG (ok__law_draws T) (hr.mono (by decide)) hgd (by rfl) T.m__law_draws T.F__law_draws.kp (b__law_draws T) tkF (pa_cons (pv 2) pa_nil)))))) (pg_name (i := 1) sc_law.nd rfl (.inl rfl)) (pss_one (ps_if (PW.pt (pw_or (pt_not (ptK (K := K) (pe_callG (ok__law_right T) (hr.mono (by decide)) hgd (by rfl) T.m__law_right T.F__law_right.kp (b__law_right T) tk (pa_cons (pv 1) pa_nil)) (by intro _; rfl))) (pw_or1 (pt_not (ptK (K := K) (pe_callG (ok__law_right T) (hr.mono (by decide)) hgd (by rfl) T.m__law_right T.F__law_right.kp (b__law_right T) tk (pa_cons (pv 1) pa_nil)) (by intro _; rfl)))))) (pss_one (ps_ret pe_bl)) pss_nil))) (pss_one (ps_ret pe_bl))), ?_⟩
  exact law_A (N := N_law) (ic := 2) (id := 1) (k := 6) (gD := g__law_draws) (fb := fb_law) (ss_if (st_or (st_not (st_tru (se_def (sa_cons (se_var 1) sa_nil)))) (st_not (st_tru (se_def (sa_cons (se_var 1) sa_nil))))) (ss_ret (se_bl false)) ss_nil) (by decide) (by decide) hD hf h0 step h
end

end R
end Rsec

section Fsec
set_option maxRecDepth 100000
set_option maxHeartbeats 1000000
open PySem PySem.Spec PyProof.Rows L2 DL
namespace R
/-! the draws -/
def Dr (n : Nat) (st : List D) : Prop := ∃ (x k : Int) (b : Bool), st = [.int x, .int k, .bool b] ∧ 0 ≤ k ∧ k + n ≤ 1000000000
theorem Dr.mono {n m : Nat} {st : List D} (h : Dr n st) (l : m ≤ n) : Dr m st := by
  obtain ⟨x, k, b, rfl, h1, h2⟩ := h
  exact ⟨x, k, b, rfl, h1, by omega⟩
theorem pw6 : cPowW 10 6 = true := by decide +kernel
theorem next_ok {n : Nat} {st : List D} (h : Dr (n + 1) st) : ∃ v st', g__law_next [.c 0] [.l st] = .ok (.d (.int v)) [.l st'] ∧ 0 ≤ v ∧ v ≤ 1000000000 ∧ Dr n st' := by
  obtain ⟨x, k, b, rfl, h1, h2⟩ := h
  cases b with
  | true =>
    refine ⟨x % 1000000, [.int (x / 1000000), .int (k + 1), .bool true], ?_, by omega, by omega, _, _, _, rfl, by omega, by omega⟩
    simp [g__law_next, mkF, body__law_next, x_bnd, x_ret, x_stuck, x_gets, x_fVar, x_fC, x_fOp, x_fNil, x_fCons, x_fCall, x_fDat, x_fCell, x_fLst, x_fTup, x_fTest, x_fTru, x_fAnd, x_fOr, x_fNot, x_fIf, x_asB, x_fAndV, x_fOrV, x_fNotV, x_fIsN, x_fNotN, x_frz, x_frzs0, x_frzs1, x_fFrz, x_fSeq, x_fNext, x_fExpr, x_fRet, x_fRetN, x_fAsg, x_kName, x_fPar, x_kNil, x_kCons, x_kTup, x_kSub, x_setIt, x_needL, x_upC, x_fApp, x_fPopAt, x_fPop, x_fSl, x_fNoP, x_fP, x_fDef, x_callD, x_fPerm, x_fIsi, x_fNeg, x_asL, x_asLt, x_asT, x_fItL, x_fItT, x_orI, x_fRng1, x_fRng2, x_fEnum, x_fZip, x_fFor, x_forL0, x_fAug, x_fYes, x_lcT, x_fRstT, x_fRstV, x_ite, oIx, cutC, kl, Ce.lone, x_fCellV, x_fAppV, x_needV, x_upV, oIxV, x_fDNew, x_fSetdL, x_needW, x_setdL, x_fSrtS, x_fToM, x_fItems, x_fGet2, x_fDSub, x_needD, oGet2, oDSub, dictOf, keyD, oSortG, oSortP, orF, oCatT, oStr, x_fCount, x_fIndex, x_fRev, x_fPar3, datL, dat, atI, ixN, oAdd, orO, oI, oInt, oPowW, oIC, oMod, cPos, oDiv, cDiv, endF, oAddI, oSub, oLt, oLe, oGt, oGe, oMul, oMulG, oRepD, oRep, oI2, oMin2, oMax2, oMinL, oMaxL, oAll, oAny, oBools, oIn, oNotIn, oInD, oInSg, x_fChain, intsA, cellsOf, picks, renum, putB, Ce.alive, oSl, slOr, oSlD, oSlL, oLenG, orA, oLen, tru, permL, oSumL, oCatD, datO, oCat, oList, oRepr, oTuple, DL.isNon, oSlT, oSlS, oAddS, oEqG, oNeG, oEqS, oNeS, oEq, oNe, x_fRaise, x_fFrzL, x_frzL, x_fItemsI, x_fValsI, x_fKeysI, x_fDNewM, x_fDPut, x_putC, x_fL6, dsOf, oSortK, intKeys, x_fDSub, x_fTupC, x_fFrzN, oIxT, callT, endT, pw6]
  | false =>
    have c1 : cMul (k + 1) (k + 1) = true := by simp only [cMul, decide_eq_true_eq]; omega
    have c2 : cMul ((k + 1) * (k + 1)) 7919 = true := by simp only [cMul, decide_eq_true_eq]; omega
    have c3 : cMul (x % 1000003 + (k + 1) * (k + 1) * 7919 + (k + 1)) 48271 = true := by simp only [cMul, decide_eq_true_eq]; omega
    generalize hu : (x % 1000003 + (k + 1) * (k + 1) * 7919 + (k + 1)) * 48271 % 2147483629 = u
    have u1 : 0 ≤ u := by rw [← hu]; exact Int.emod_nonneg _ (by decide)
    have u2 : u < 2147483629 := by rw [← hu]; exact Int.emod_lt_of_pos _ (by decide)
    have c4 : cMul u u = true := by simp only [cMul, decide_eq_true_eq]; omega
    generalize hv : u * u % 2147483587 = v
    have v1 : 0 ≤ v := by rw [← hv]; exact Int.emod_nonneg _ (by decide)
    have v2 : v < 2147483587 := by rw [← hv]; exact Int.emod_lt_of_pos _ (by decide)
    have c5 : cMul v (v + 2) = true := by simp only [cMul, decide_eq_true_eq]; omega
    refine ⟨v * (v + 2) % 2147483579 / 7, [.int x, .int (k + 1), .bool false], ?_, ?_, ?_, _, _, _, rfl, by omega, by omega⟩
    · simp [g__law_next, mkF, body__law_next, x_bnd, x_ret, x_stuck, x_gets, x_fVar, x_fC, x_fOp, x_fNil, x_fCons, x_fCall, x_fDat, x_fCell, x_fLst, x_fTup, x_fTest, x_fTru, x_fAnd, x_fOr, x_fNot, x_fIf, x_asB, x_fAndV, x_fOrV, x_fNotV, x_fIsN, x_fNotN, x_frz, x_frzs0, x_frzs1, x_fFrz, x_fSeq, x_fNext, x_fExpr, x_fRet, x_fRetN, x_fAsg, x_kName, x_fPar, x_kNil, x_kCons, x_kTup, x_kSub, x_setIt, x_needL, x_upC, x_fApp, x_fPopAt, x_fPop, x_fSl, x_fNoP, x_fP, x_fDef, x_callD, x_fPerm, x_fIsi, x_fNeg, x_asL, x_asLt, x_asT, x_fItL, x_fItT, x_orI, x_fRng1, x_fRng2, x_fEnum, x_fZip, x_fFor, x_forL0, x_fAug, x_fYes, x_lcT, x_fRstT, x_fRstV, x_ite, oIx, cutC, kl, Ce.lone, x_fCellV, x_fAppV, x_needV, x_upV, oIxV, x_fDNew, x_fSetdL, x_needW, x_setdL, x_fSrtS, x_fToM, x_fItems, x_fGet2, x_fDSub, x_needD, oGet2, oDSub, dictOf, keyD, oSortG, oSortP, orF, oCatT, oStr, x_fCount, x_fIndex, x_fRev, x_fPar3, datL, dat, atI, ixN, oAdd, orO, oI, oInt, oPowW, oIC, oMod, cPos, oDiv, cDiv, endF, oAddI, oSub, oLt, oLe, oGt, oGe, oMul, oMulG, oRepD, oRep, oI2, oMin2, oMax2, oMinL, oMaxL, oAll, oAny, oBools, oIn, oNotIn, oInD, oInSg, x_fChain, intsA, cellsOf, picks, renum, putB, Ce.alive, oSl, slOr, oSlD, oSlL, oLenG, orA, oLen, tru, permL, oSumL, oCatD, datO, oCat, oList, oRepr, oTuple, DL.isNon, oSlT, oSlS, oAddS, oEqG, oNeG, oEqS, oNeS, oEq, oNe, x_fRaise, x_fFrzL, x_frzL, x_fItemsI, x_fValsI, x_fKeysI, x_fDNewM, x_fDPut, x_putC, x_fL6, dsOf, oSortK, intKeys, x_fDSub, x_fTupC, x_fFrzN, oIxT, callT, endT, c1, c2, c3, hu, c4, hv, c5]
    · omega
    · omega
def big : Int := ((10 ^ 60) ^ 60) ^ 4
theorem big_pos : 0 < big := by decide +kernel
theorem pow_big (s : S) : (fOp oPowW (fOp oPowW (fOp oPowW (fC (.int 10)) (fC (.int 60))) (fC (.int 60))) (fC (.int 4))) s = .ok (.d (.int big)) s := by
  have h1 : oPowW (.d (.int 10)) (.d (.int 60)) s = some (.d (.int (10 ^ 60))) := by kernel_rfl
  have h2 : oPowW (.d (.int (10 ^ 60))) (.d (.int 60)) s = some (.d (.int ((10 ^ 60) ^ 60))) := by kernel_rfl
  have h3 : oPowW (.d (.int ((10 ^ 60) ^ 60))) (.d (.int 4)) s = some (.d (.int big)) := by kernel_rfl
  simp only [fOp, bnd, fC, DL.ret, gets, h1, h2, h3]
theorem pow18 (s : S) : (fOp oPowW (fC (.int 10)) (fC (.int 18))) s = .ok (.d (.int 1000000000000000000)) s := by
  have h1 : oPowW (.d (.int 10)) (.d (.int 18)) s = some (.d (.int 1000000000000000000)) := by kernel_rfl
  simp only [fOp, bnd, fC, DL.ret, gets, h1]
def drInit (c : Int) : List D := [.int (c % big), .int 0, .bool (decide (1000000000000000000 ≤ c))]
theorem draws_ok (c : Int) : g__law_draws [.d (.int c)] [] = .ok (.c 0) [.l (drInit c)] := by
  have hm : ∀ s, oMod (.d (.int c)) (.d (.int big)) s = some (.d (.int (c % big))) := fun s => by
    simp only [oMod, oIC, cPos, decide_eq_true big_pos, if_true]
  simp only [g__law_draws, mkF, body__law_draws, x_fRet, x_fCell, x_fLst, x_fCons, x_bnd, x_fNil, x_fOp oMod, x_fOp oGe, x_fCall, x_fVar, x_gets, pow_big, pow18, x_fC, x_ret, hm, oInt, oGe, oI, List.length_cons, List.length_nil, List.map_cons, List.map_nil, List.cons_append, List.nil_append, List.getElem?_cons_zero]
  simp [drInit, x_frzs1, x_frzs0, x_bnd, x_frz, x_ret, endF, cutC, x_ite, x_stuck]
theorem dr_init (c : Int) : Dr 999999999 (drInit c) := ⟨_, _, _, rfl, by omega, by omega⟩
theorem init_flat (c : Int) : (drInit c).all flat = true := rfl

/-! steps -/
theorem fSeq_ok {f g : M Fl} {s s' : S} (h : f s = .ok .nx s') : fSeq f g s = g s' := by simp only [fSeq, h]
theorem fLc_ok {fi : M (List D)} {k : Vl → M Unit} {t : M Bool} {e : M Vl} {vs : List Nat} {s s1 s2 : S} {xs ys : List D} (h1 : fi s = .ok xs s1) (hl : xs.length ≤ 1000000) (h2 : lcL k t e xs ⟨wipeD s1.sl vs, s1.ce⟩ = .ok ys s2) : fLc fi k t e vs s = .ok ys ⟨s1.sl, s2.ce⟩ := by
  simp only [fLc, bnd, h1, if_pos hl, h2]
theorem ints_of {Q : Int → Prop} : ∀ {ys : List D}, (∀ y ∈ ys, ∃ i : Int, y = .int i ∧ Q i) → ∃ ns : List Int, ys = ns.map .int ∧ ns.length = ys.length ∧ ∀ i ∈ ns, Q i
  | [], _ => ⟨[], rfl, rfl, by simp⟩
  | y :: ys, h => by
    obtain ⟨i, rfl, hi⟩ := h y List.mem_cons_self
    obtain ⟨ns, e1, e2, e3⟩ := ints_of (ys := ys) fun z hz => h z (List.mem_cons_of_mem _ hz)
    refine ⟨i :: ns, by simp [e1], by simp [e2], fun j hj => ?_⟩
    rcases List.mem_cons.mp hj with rfl | hj
    · exact hi
    · exact e3 j hj
/-- [f(x) for x in ints] -/
theorem lc_ints {k : Vl → M Unit} {e : M Vl} {sl : List (Option Vl)} {ce : List Ce} {f : Int → Int} {ns : List Int} (h : ∀ x ∈ ns, ∃ s', lcT k fYes e (.int x) ⟨sl, ce⟩ = .ok (some (.int (f x))) s' ∧ cutC ce.length s'.ce = ce) :
    lcL k fYes e (ns.map .int) ⟨sl, ce⟩ = .ok ((ns.map f).map .int) ⟨sl, ce⟩ := by
  have := lcL_fm (k := k) (t := fYes) (e := e) (sl := sl) (ce := ce) (f := fun d => match d with | .int x => some (.int (f x)) | _ => none) (xs := ns.map .int) (fun d hd => by
    obtain ⟨x, hx, rfl⟩ := List.mem_map.mp hd
    exact h x hx)
  rw [this]
  congr 1
  clear this h
  induction ns with
  | nil => rfl
  | cons x ns ih => simp [ih]
theorem rng_len (lo : Int) (n : Nat) : (rng lo n).length = n := by simp [rng]
theorem datL_il (s : S) (ns : List Int) : datL s (.d (il ns)) = some (ns.map .int) := rfl
theorem wipe1 (l : List (Option Vl)) (v : Nat) : wipeD l [v] = l.set v none := rfl
theorem while_ind {c : M Bool} {b : M Fl} (I : Nat → S → Prop) (J : S → Prop) (step : ∀ n s, I n s → (∃ s', c s = .ok false s' ∧ J s') ∨ ∃ s1 s2 m, c s = .ok true s1 ∧ b s1 = .ok .nx s2 ∧ m < n ∧ I m s2) :
    ∀ n s, I n s → ∃ s', fWhile c b s = .ok .nx s' ∧ J s' := by
  intro n
  induction n using Nat.strongRecOn with
  | _ n ih =>
    intro s hI
    rcases step n s hI with ⟨s', e, j⟩ | ⟨s1, s2, m, e1, e2, lt, i2⟩
    · exact ⟨s', fWhile_eq (by simp [bnd, e]; rfl) (by intro z; cases z), j⟩
    · obtain ⟨s', f1, f2⟩ := ih m lt s2 i2
      exact ⟨s', fWhile_eq (by simp [bnd, e1, e2, f1]) (by intro z; cases z), f2⟩
theorem cut1a (xs : List D) : DL.cutD xs none (some 1) = xs.take 1 := by
  unfold DL.cutD
  rw [HT.sIx_none, show HT.sIx xs.length xs.length (some 1) = min 1 xs.length from HT.sIx_nat _ _ 1, List.drop_zero, Nat.sub_zero]
  cases xs with
  | nil => rfl
  | cons x xs => simp
theorem cut1b (xs : List D) : DL.cutD xs (some 1) none = xs.drop 1 := by
  unfold DL.cutD
  rw [HT.sIx_none, show HT.sIx xs.length 0 (some 1) = min 1 xs.length from HT.sIx_nat _ _ 1]
  cases xs with
  | nil => rfl
  | cons x xs => simp
theorem kb_ll : kitB "list" "list" = some true := by decide +kernel
theorem kb_ii : kitB "int" "int" = some true := by decide +kernel
theorem kb_ib : kitB "int" "bool" = some false := by decide +kernel
theorem mkF_rt {ar n : Nat} {body : M Fl} {xs : List Vl} {cs : List Ce} {sl : List (Option Vl)} {v : Vl} {s : S} (hx : xs.length = ar) (hsl : xs.map some ++ List.replicate (n - ar) none = sl) (h : body ⟨sl, cs⟩ = .ok (.rt v) s) : mkF ar n body xs cs = endF cs.length v s.ce := by
  unfold mkF
  rw [if_pos hx, hsl, h]
theorem seq_ok {f g : M Fl} {s s' : S} {r : R Fl} (h : f s = .ok .nx s') (k : g s' = r) : fSeq f g s = r := by simp only [fSeq, h, k]
theorem body_rt {ar n : Nat} {body : M Fl} {xs : List Vl} {cs : List Ce} {v : Vl} {s : S} {r : FR} (hx : xs.length = ar) (h : body ⟨xs.map some ++ List.replicate (n - ar) none, cs⟩ = .ok (.rt v) s) (he : endF cs.length v s.ce = r) : mkF ar n body xs cs = r := by
  unfold mkF
  rw [if_pos hx, h]
  exact he
theorem fm_filter (p : D → Bool) : ∀ xs : List D, xs.filterMap (fun x => if p x = true then some x else none) = xs.filter p
  | [] => rfl
  | x :: xs => by cases h : p x <;> simp [h, fm_filter p xs]
/-- a run that returns v and leaves cells with P -/
def Rt (r : R Fl) (v : Vl) (P : List Ce → Prop) : Prop := match r with
  | .ok (.rt v') s => v' = v ∧ P s.ce
  | _ => False
theorem rt_seq {f g : M Fl} {s s' : S} {v : Vl} {P : List Ce → Prop} (h : f s = .ok .nx s') (k : Rt (g s') v P) : Rt (fSeq f g s) v P := by
  simp only [fSeq, h]
  exact k
theorem rt_body {ar n : Nat} {body : M Fl} {xs : List Vl} {cs : List Ce} {v : Vl} {r : FR} (hx : xs.length = ar) (h : Rt (body ⟨xs.map some ++ List.replicate (n - ar) none, cs⟩) v fun ce => endF cs.length v ce = r) : mkF ar n body xs cs = r := by
  unfold mkF
  rw [if_pos hx]
  unfold Rt at h
  cases e : body ⟨xs.map some ++ List.replicate (n - ar) none, cs⟩ with
  | ok fl s =>
    rw [e] at h
    cases fl with
    | rt v' => exact h.1 ▸ h.2
    | _ => exact h.elim
  | ex _ _ => rw [e] at h; exact h.elim
  | no => rw [e] at h; exact h.elim
theorem lcL_en {α : Type} {k : Vl → M Unit} {t : M Bool} {e : M Vl} {sl : List (Option Vl)} {ce : List Ce} (enc : α → D) (f : α → Option D) : ∀ {as : List α}, (∀ a ∈ as, ∃ s', lcT k t e (enc a) ⟨sl, ce⟩ = .ok (f a) s' ∧ cutC ce.length s'.ce = ce) → lcL k t e (as.map enc) ⟨sl, ce⟩ = .ok (as.filterMap f) ⟨sl, ce⟩
  | [], _ => rfl
  | a :: as, h => by
    obtain ⟨s', e1, e2⟩ := h a List.mem_cons_self
    have ih := lcL_en enc f (as := as) fun b hb => h b (List.mem_cons_of_mem _ hb)
    simp only [List.map_cons, lcL, e1, e2, ih, List.filterMap_cons]
    cases f a <;> simp
theorem lcL_mp {α : Type} {k : Vl → M Unit} {t : M Bool} {e : M Vl} {sl : List (Option Vl)} {ce : List Ce} (enc : α → D) (f : α → D) {as : List α} (h : ∀ a ∈ as, ∃ s', lcT k t e (enc a) ⟨sl, ce⟩ = .ok (some (f a)) s' ∧ cutC ce.length s'.ce = ce) : lcL k t e (as.map enc) ⟨sl, ce⟩ = .ok (as.map f) ⟨sl, ce⟩ := by
  rw [lcL_en enc (fun a => some (f a)) h, List.filterMap_eq_map']
theorem lcL_fl {α : Type} {k : Vl → M Unit} {t : M Bool} {e : M Vl} {sl : List (Option Vl)} {ce : List Ce} (enc : α → D) (q : α → Bool) (f : α → D) {as : List α} (h : ∀ a ∈ as, ∃ s', lcT k t e (enc a) ⟨sl, ce⟩ = .ok (if q a = true then some (f a) else none) s' ∧ cutC ce.length s'.ce = ce) : lcL k t e (as.map enc) ⟨sl, ce⟩ = .ok ((as.filter q).map f) ⟨sl, ce⟩ := by
  rw [lcL_en enc (fun a => if q a = true then some (f a) else none) h]
  congr 1
  clear h
  induction as with
  | nil => rfl
  | cons a as ih => cases hq : q a <;> simp [hq, ih]
theorem eqv_ii (x y : Int) : PyData.eqv (.int x) (.int y) = decide (x = y) := by
  simp only [PyData.eqv]
  by_cases h : x = y <;> simp [h]
theorem eqv_bb (x y : Bool) : PyData.eqv (.bool x) (.bool y) = (x == y) := by cases x <;> cases y <;> rfl
theorem okE_bool (x : Bool) : okE (.bool x) = true := rfl
theorem eqv_nn : PyData.eqv (.list []) (.list []) = true := rfl
theorem lcL_allM {k : Vl → M Unit} {e : M Vl} {sl : List (Option Vl)} {P : D → Prop} {I : Nat → List Ce → Prop} :
    ∀ (xs : List D) (n : Nat) (ce : List Ce), (∀ x ∈ xs, ∀ n ce, I (n + 1) ce → ∃ z s', lcT k fYes e x ⟨sl, ce⟩ = .ok (some z) s' ∧ P z ∧ I n (cutC ce.length s'.ce)) → I (n + xs.length) ce → ∃ ys ce', lcL k fYes e xs ⟨sl, ce⟩ = .ok ys ⟨sl, ce'⟩ ∧ ys.length = xs.length ∧ (∀ y ∈ ys, P y) ∧ I n ce'
  | [], n, ce, _, h => ⟨[], ce, rfl, rfl, by simp, h⟩
  | x :: xs, n, ce, step, h => by
    obtain ⟨z, s', e1, e2, e3⟩ := step x List.mem_cons_self (n + xs.length) ce (by simpa [Nat.add_assoc] using h)
    obtain ⟨ys, ce', f1, f2, f3, f4⟩ := lcL_allM xs n _ (fun y hy => step y (List.mem_cons_of_mem _ hy)) e3
    refine ⟨z :: ys, ce', ?_, by simp [f2], fun y hy => ?_, f4⟩
    · simp only [lcL, e1, f1]
      rfl
    · rcases List.mem_cons.mp hy with rfl | hy
      · exact e2
      · exact f3 y hy
theorem lists_of {Q : List Int → Prop} : ∀ {ys : List D}, (∀ y ∈ ys, ∃ l : List Int, y = il l ∧ Q l) → ∃ ls : List (List Int), ys = ls.map il ∧ ls.length = ys.length ∧ ∀ l ∈ ls, Q l
  | [], _ => ⟨[], rfl, rfl, by simp⟩
  | y :: ys, h => by
    obtain ⟨i, rfl, hi⟩ := h y List.mem_cons_self
    obtain ⟨ns, e1, e2, e3⟩ := lists_of (ys := ys) fun z hz => h z (List.mem_cons_of_mem _ hz)
    refine ⟨i :: ns, by simp [e1], by simp [e2], fun j hj => ?_⟩
    rcases List.mem_cons.mp hj with rfl | hj
    · exact hi
    · exact e3 j hj
theorem cutI (xs : List D) (i : Nat) : DL.cutD xs (some (i : Int)) none = xs.drop i := by
  unfold DL.cutD
  rw [HT.sIx_none, HT.sIx_nat]
  rcases Nat.le_total i xs.length with h | h
  · rw [Nat.min_eq_left h, List.take_of_length_le (by simp)]
  · rw [Nat.min_eq_right h, List.drop_length, List.drop_eq_nil_of_le h, List.take_nil]
theorem cutJ (xs : List D) (i : Nat) : DL.cutD xs none (some (i : Int)) = xs.take i := by
  unfold DL.cutD
  rw [HT.sIx_none, HT.sIx_nat, List.drop_zero, Nat.sub_zero]
  rcases Nat.le_total i xs.length with h | h
  · rw [Nat.min_eq_left h]
  · rw [Nat.min_eq_right h, List.take_length, List.take_of_length_le h]

theorem whole_ok (v : Int) : g_is_whole [.d (.int v)] [] = .ok (.d (.bool true)) [] := by
  simp [g_is_whole, mkF, body_is_whole, x_bnd, x_ret, x_stuck, x_gets, x_fVar, x_fC, x_fOp, x_fNil, x_fCons, x_fCall, x_fDat, x_fCell, x_fLst, x_fTup, x_fTest, x_fTru, x_fAnd, x_fOr, x_fNot, x_fIf, x_asB, x_fAndV, x_fOrV, x_fNotV, x_fIsN, x_fNotN, x_frz, x_frzs0, x_frzs1, x_fFrz, x_fSeq, x_fNext, x_fExpr, x_fRet, x_fRetN, x_fAsg, x_kName, x_fPar, x_kNil, x_kCons, x_kTup, x_kSub, x_setIt, x_needL, x_upC, x_fApp, x_fPopAt, x_fPop, x_fSl, x_fNoP, x_fP, x_fDef, x_callD, x_fPerm, x_fIsi, x_fNeg, x_asL, x_asLt, x_asT, x_fItL, x_fItT, x_orI, x_fRng1, x_fRng2, x_fEnum, x_fZip, x_fFor, x_forL0, x_fAug, x_fYes, x_lcT, x_fRstT, x_fRstV, x_ite, oIx, cutC, kl, Ce.lone, x_fCellV, x_fAppV, x_needV, x_upV, oIxV, x_fDNew, x_fSetdL, x_needW, x_setdL, x_fSrtS, x_fToM, x_fItems, x_fGet2, x_fDSub, x_needD, oGet2, oDSub, dictOf, keyD, oSortG, oSortP, orF, oCatT, oStr, x_fCount, x_fIndex, x_fRev, x_fPar3, datL, dat, atI, ixN, oAdd, orO, oI, oInt, oPowW, oIC, oMod, cPos, oDiv, cDiv, endF, oAddI, oSub, oLt, oLe, oGt, oGe, oMul, oMulG, oRepD, oRep, oI2, oMin2, oMax2, oMinL, oMaxL, oAll, oAny, oBools, oIn, oNotIn, oInD, oInSg, x_fChain, intsA, cellsOf, picks, renum, putB, Ce.alive, oSl, slOr, oSlD, oSlL, oLenG, orA, oLen, tru, permL, oSumL, oCatD, datO, oCat, oList, oRepr, oTuple, DL.isNon, oSlT, oSlS, oAddS, oEqG, oNeG, oEqS, oNeS, oEq, oNe, x_fRaise, x_fFrzL, x_frzL, x_fItemsI, x_fValsI, x_fKeysI, x_fDNewM, x_fDPut, x_putC, x_fL6, dsOf, oSortK, intKeys, x_fDSub, x_fTupC, x_fFrzN, oIxT, callT, endT, tyVl, tyN, kb_ii, kb_ib]
theorem check_ok (ns : List Int) : g_check_list [.d (il ns)] [] = .ok (.d .none) [] := by
  obtain ⟨s', e1, a, b, rfl⟩ := forL_inv (k := kTup 2 (kCons (kName 1) (kCons (kName 2) kNil))) (b := fIf (fNot (fTru (fDef g_is_whole (fCons (fVar 2) fNil)))) stuck fNext) (xs := enumD 0 (ns.map PyData.int))
    (I := fun _ s => ∃ a b, s = ⟨[some (.d (il ns)), a, b], []⟩) (fun i x s hx ⟨a, b, e⟩ => by
      subst e
      rw [enumD_get, List.getElem?_map] at hx
      cases hn : ns[i]? with
      | none => rw [hn] at hx; cases hx
      | some v =>
        rw [hn] at hx
        cases hx
        exact ⟨⟨[some (.d (il ns)), some (.d (.int ((0 + i : Nat) : Int))), some (.d (.int v))], []⟩, by simp [x_bnd, x_ret, x_stuck, x_gets, x_fVar, x_fC, x_fOp, x_fNil, x_fCons, x_fCall, x_fDat, x_fCell, x_fLst, x_fTup, x_fTest, x_fTru, x_fAnd, x_fOr, x_fNot, x_fIf, x_asB, x_fAndV, x_fOrV, x_fNotV, x_fIsN, x_fNotN, x_frz, x_frzs0, x_frzs1, x_fFrz, x_fSeq, x_fNext, x_fExpr, x_fRet, x_fRetN, x_fAsg, x_kName, x_fPar, x_kNil, x_kCons, x_kTup, x_kSub, x_setIt, x_needL, x_upC, x_fApp, x_fPopAt, x_fPop, x_fSl, x_fNoP, x_fP, x_fDef, x_callD, x_fPerm, x_fIsi, x_fNeg, x_asL, x_asLt, x_asT, x_fItL, x_fItT, x_orI, x_fRng1, x_fRng2, x_fEnum, x_fZip, x_fFor, x_forL0, x_fAug, x_fYes, x_lcT, x_fRstT, x_fRstV, x_ite, oIx, cutC, kl, Ce.lone, x_fCellV, x_fAppV, x_needV, x_upV, oIxV, x_fDNew, x_fSetdL, x_needW, x_setdL, x_fSrtS, x_fToM, x_fItems, x_fGet2, x_fDSub, x_needD, oGet2, oDSub, dictOf, keyD, oSortG, oSortP, orF, oCatT, oStr, x_fCount, x_fIndex, x_fRev, x_fPar3, datL, dat, atI, ixN, oAdd, orO, oI, oInt, oPowW, oIC, oMod, cPos, oDiv, cDiv, endF, oAddI, oSub, oLt, oLe, oGt, oGe, oMul, oMulG, oRepD, oRep, oI2, oMin2, oMax2, oMinL, oMaxL, oAll, oAny, oBools, oIn, oNotIn, oInD, oInSg, x_fChain, intsA, cellsOf, picks, renum, putB, Ce.alive, oSl, slOr, oSlD, oSlL, oLenG, orA, oLen, tru, permL, oSumL, oCatD, datO, oCat, oList, oRepr, oTuple, DL.isNon, oSlT, oSlS, oAddS, oEqG, oNeG, oEqS, oNeS, oEq, oNe, x_fRaise, x_fFrzL, x_frzL, x_fItemsI, x_fValsI, x_fKeysI, x_fDNewM, x_fDPut, x_putC, x_fL6, dsOf, oSortK, intKeys, x_fDSub, x_fTupC, x_fFrzN, oIxT, callT, endT, whole_ok v], _, _, rfl⟩)
    ⟨[some (.d (il ns)), none, none], []⟩ ⟨_, _, rfl⟩
  simp [g_check_list, mkF, body_check_list, x_bnd, x_ret, x_stuck, x_gets, x_fVar, x_fC, x_fOp, x_fNil, x_fCons, x_fCall, x_fDat, x_fCell, x_fLst, x_fTup, x_fTest, x_fTru, x_fAnd, x_fOr, x_fNot, x_fIf, x_asB, x_fAndV, x_fOrV, x_fNotV, x_fIsN, x_fNotN, x_frz, x_frzs0, x_frzs1, x_fFrz, x_fSeq, x_fNext, x_fExpr, x_fRet, x_fRetN, x_fAsg, x_kName, x_fPar, x_kNil, x_kCons, x_kTup, x_kSub, x_setIt, x_needL, x_upC, x_fApp, x_fPopAt, x_fPop, x_fSl, x_fNoP, x_fP, x_fDef, x_callD, x_fPerm, x_fIsi, x_fNeg, x_asL, x_asLt, x_asT, x_fItL, x_fItT, x_orI, x_fRng1, x_fRng2, x_fEnum, x_fZip, x_fFor, x_forL0, x_fAug, x_fYes, x_lcT, x_fRstT, x_fRstV, x_ite, oIx, cutC, kl, Ce.lone, x_fCellV, x_fAppV, x_needV, x_upV, oIxV, x_fDNew, x_fSetdL, x_needW, x_setdL, x_fSrtS, x_fToM, x_fItems, x_fGet2, x_fDSub, x_needD, oGet2, oDSub, dictOf, keyD, oSortG, oSortP, orF, oCatT, oStr, x_fCount, x_fIndex, x_fRev, x_fPar3, datL, dat, atI, ixN, oAdd, orO, oI, oInt, oPowW, oIC, oMod, cPos, oDiv, cDiv, endF, oAddI, oSub, oLt, oLe, oGt, oGe, oMul, oMulG, oRepD, oRep, oI2, oMin2, oMax2, oMinL, oMaxL, oAll, oAny, oBools, oIn, oNotIn, oInD, oInSg, x_fChain, intsA, cellsOf, picks, renum, putB, Ce.alive, oSl, slOr, oSlD, oSlL, oLenG, orA, oLen, tru, permL, oSumL, oCatD, datO, oCat, oList, oRepr, oTuple, DL.isNon, oSlT, oSlS, oAddS, oEqG, oNeG, oEqS, oNeS, oEq, oNe, x_fRaise, x_fFrzL, x_frzL, x_fItemsI, x_fValsI, x_fKeysI, x_fDNewM, x_fDPut, x_putC, x_fL6, dsOf, oSortK, intKeys, x_fDSub, x_fTupC, x_fFrzN, oIxT, callT, endT, tyVl, tyN, kb_ll, e1]

theorem pw14 : cPowW 10 14 = true := by decide +kernel
theorem drawn_ok {n : Nat} {m : Int} {st : List D} (m0 : 0 ≤ m) (m1 : m ≤ 100) (h : Dr (n + 101) st) : ∃ ns st', g__law_drawn [.c 0, .d (.int m)] [.l st] = .ok (.d (il ns)) [.l st'] ∧ (ns.length : Int) ≤ m ∧ Bdd (10 ^ 21) ns ∧ Dr n st' := by
  obtain ⟨v, st1, e1, v0, v1, d1⟩ := next_ok (n := n + 100) h
  unfold g__law_drawn mkF
  simp only [List.length_cons, List.length_nil, if_true, body__law_drawn, List.map_cons, List.map_nil, List.cons_append, List.nil_append]
  rw [fSeq_ok (s' := ⟨[some (.c 0), some (.d (.int m)), some (.d (.int v)), none, none, none, none], [.l st1]⟩) (by simp [x_bnd, x_ret, x_stuck, x_gets, x_fVar, x_fC, x_fOp, x_fNil, x_fCons, x_fCall, x_fDat, x_fCell, x_fLst, x_fTup, x_fTest, x_fTru, x_fAnd, x_fOr, x_fNot, x_fIf, x_asB, x_fAndV, x_fOrV, x_fNotV, x_fIsN, x_fNotN, x_frz, x_frzs0, x_frzs1, x_fFrz, x_fSeq, x_fNext, x_fExpr, x_fRet, x_fRetN, x_fAsg, x_kName, x_fPar, x_kNil, x_kCons, x_kTup, x_kSub, x_setIt, x_needL, x_upC, x_fApp, x_fPopAt, x_fPop, x_fSl, x_fNoP, x_fP, x_fDef, x_callD, x_fPerm, x_fIsi, x_fNeg, x_asL, x_asLt, x_asT, x_fItL, x_fItT, x_orI, x_fRng1, x_fRng2, x_fEnum, x_fZip, x_fFor, x_forL0, x_fAug, x_fYes, x_lcT, x_fRstT, x_fRstV, x_ite, oIx, cutC, kl, Ce.lone, x_fCellV, x_fAppV, x_needV, x_upV, oIxV, x_fDNew, x_fSetdL, x_needW, x_setdL, x_fSrtS, x_fToM, x_fItems, x_fGet2, x_fDSub, x_needD, oGet2, oDSub, dictOf, keyD, oSortG, oSortP, orF, oCatT, oStr, x_fCount, x_fIndex, x_fRev, x_fPar3, datL, dat, atI, ixN, oAdd, orO, oI, oInt, oPowW, oIC, oMod, cPos, oDiv, cDiv, endF, oAddI, oSub, oLt, oLe, oGt, oGe, oMul, oMulG, oRepD, oRep, oI2, oMin2, oMax2, oMinL, oMaxL, oAll, oAny, oBools, oIn, oNotIn, oInD, oInSg, x_fChain, intsA, cellsOf, picks, renum, putB, Ce.alive, oSl, slOr, oSlD, oSlL, oLenG, orA, oLen, tru, permL, oSumL, oCatD, datO, oCat, oList, oRepr, oTuple, DL.isNon, oSlT, oSlS, oAddS, oEqG, oNeG, oEqS, oNeS, oEq, oNe, x_fRaise, x_fFrzL, x_frzL, x_fItemsI, x_fValsI, x_fKeysI, x_fDNewM, x_fDPut, x_putC, x_fL6, dsOf, oSortK, intKeys, x_fDSub, x_fTupC, x_fFrzN, oIxT, callT, endT, e1])]
  obtain ⟨w, w0, w1, hw⟩ : ∃ w : Int, 2 ≤ w ∧ w ≤ 1000000 ∧ (fAsg (fOp oIx (fDat (fLst (fCons (fC (.int 2)) (fCons (fC (.int 4)) (fCons (fC (.int 9)) (fCons (fOp oPowW (fC (.int 10)) (fC (.int 6))) fNil)))))) (fOp oMod (fCall oInt (fCons (fVar 2) fNil)) (fC (.int 4)))) (kName 3)) ⟨[some (.c 0), some (.d (.int m)), some (.d (.int v)), none, none, none, none], [.l st1]⟩ = .ok .nx ⟨[some (.c 0), some (.d (.int m)), some (.d (.int v)), some (.d (.int w)), none, none, none], [.l st1]⟩ := by
    have h4 : v % 4 = 0 ∨ v % 4 = 1 ∨ v % 4 = 2 ∨ v % 4 = 3 := by omega
    rcases h4 with h4 | h4 | h4 | h4
    · exact ⟨2, by decide, by decide, by simp [x_bnd, x_ret, x_stuck, x_gets, x_fVar, x_fC, x_fOp, x_fNil, x_fCons, x_fCall, x_fDat, x_fCell, x_fLst, x_fTup, x_fTest, x_fTru, x_fAnd, x_fOr, x_fNot, x_fIf, x_asB, x_fAndV, x_fOrV, x_fNotV, x_fIsN, x_fNotN, x_frz, x_frzs0, x_frzs1, x_fFrz, x_fSeq, x_fNext, x_fExpr, x_fRet, x_fRetN, x_fAsg, x_kName, x_fPar, x_kNil, x_kCons, x_kTup, x_kSub, x_setIt, x_needL, x_upC, x_fApp, x_fPopAt, x_fPop, x_fSl, x_fNoP, x_fP, x_fDef, x_callD, x_fPerm, x_fIsi, x_fNeg, x_asL, x_asLt, x_asT, x_fItL, x_fItT, x_orI, x_fRng1, x_fRng2, x_fEnum, x_fZip, x_fFor, x_forL0, x_fAug, x_fYes, x_lcT, x_fRstT, x_fRstV, x_ite, oIx, cutC, kl, Ce.lone, x_fCellV, x_fAppV, x_needV, x_upV, oIxV, x_fDNew, x_fSetdL, x_needW, x_setdL, x_fSrtS, x_fToM, x_fItems, x_fGet2, x_fDSub, x_needD, oGet2, oDSub, dictOf, keyD, oSortG, oSortP, orF, oCatT, oStr, x_fCount, x_fIndex, x_fRev, x_fPar3, datL, dat, atI, ixN, oAdd, orO, oI, oInt, oPowW, oIC, oMod, cPos, oDiv, cDiv, endF, oAddI, oSub, oLt, oLe, oGt, oGe, oMul, oMulG, oRepD, oRep, oI2, oMin2, oMax2, oMinL, oMaxL, oAll, oAny, oBools, oIn, oNotIn, oInD, oInSg, x_fChain, intsA, cellsOf, picks, renum, putB, Ce.alive, oSl, slOr, oSlD, oSlL, oLenG, orA, oLen, tru, permL, oSumL, oCatD, datO, oCat, oList, oRepr, oTuple, DL.isNon, oSlT, oSlS, oAddS, oEqG, oNeG, oEqS, oNeS, oEq, oNe, x_fRaise, x_fFrzL, x_frzL, x_fItemsI, x_fValsI, x_fKeysI, x_fDNewM, x_fDPut, x_putC, x_fL6, dsOf, oSortK, intKeys, x_fDSub, x_fTupC, x_fFrzN, oIxT, callT, endT, pw6, h4]⟩
    · exact ⟨4, by decide, by decide, by simp [x_bnd, x_ret, x_stuck, x_gets, x_fVar, x_fC, x_fOp, x_fNil, x_fCons, x_fCall, x_fDat, x_fCell, x_fLst, x_fTup, x_fTest, x_fTru, x_fAnd, x_fOr, x_fNot, x_fIf, x_asB, x_fAndV, x_fOrV, x_fNotV, x_fIsN, x_fNotN, x_frz, x_frzs0, x_frzs1, x_fFrz, x_fSeq, x_fNext, x_fExpr, x_fRet, x_fRetN, x_fAsg, x_kName, x_fPar, x_kNil, x_kCons, x_kTup, x_kSub, x_setIt, x_needL, x_upC, x_fApp, x_fPopAt, x_fPop, x_fSl, x_fNoP, x_fP, x_fDef, x_callD, x_fPerm, x_fIsi, x_fNeg, x_asL, x_asLt, x_asT, x_fItL, x_fItT, x_orI, x_fRng1, x_fRng2, x_fEnum, x_fZip, x_fFor, x_forL0, x_fAug, x_fYes, x_lcT, x_fRstT, x_fRstV, x_ite, oIx, cutC, kl, Ce.lone, x_fCellV, x_fAppV, x_needV, x_upV, oIxV, x_fDNew, x_fSetdL, x_needW, x_setdL, x_fSrtS, x_fToM, x_fItems, x_fGet2, x_fDSub, x_needD, oGet2, oDSub, dictOf, keyD, oSortG, oSortP, orF, oCatT, oStr, x_fCount, x_fIndex, x_fRev, x_fPar3, datL, dat, atI, ixN, oAdd, orO, oI, oInt, oPowW, oIC, oMod, cPos, oDiv, cDiv, endF, oAddI, oSub, oLt, oLe, oGt, oGe, oMul, oMulG, oRepD, oRep, oI2, oMin2, oMax2, oMinL, oMaxL, oAll, oAny, oBools, oIn, oNotIn, oInD, oInSg, x_fChain, intsA, cellsOf, picks, renum, putB, Ce.alive, oSl, slOr, oSlD, oSlL, oLenG, orA, oLen, tru, permL, oSumL, oCatD, datO, oCat, oList, oRepr, oTuple, DL.isNon, oSlT, oSlS, oAddS, oEqG, oNeG, oEqS, oNeS, oEq, oNe, x_fRaise, x_fFrzL, x_frzL, x_fItemsI, x_fValsI, x_fKeysI, x_fDNewM, x_fDPut, x_putC, x_fL6, dsOf, oSortK, intKeys, x_fDSub, x_fTupC, x_fFrzN, oIxT, callT, endT, pw6, h4]⟩
    · exact ⟨9, by decide, by decide, by simp [x_bnd, x_ret, x_stuck, x_gets, x_fVar, x_fC, x_fOp, x_fNil, x_fCons, x_fCall, x_fDat, x_fCell, x_fLst, x_fTup, x_fTest, x_fTru, x_fAnd, x_fOr, x_fNot, x_fIf, x_asB, x_fAndV, x_fOrV, x_fNotV, x_fIsN, x_fNotN, x_frz, x_frzs0, x_frzs1, x_fFrz, x_fSeq, x_fNext, x_fExpr, x_fRet, x_fRetN, x_fAsg, x_kName, x_fPar, x_kNil, x_kCons, x_kTup, x_kSub, x_setIt, x_needL, x_upC, x_fApp, x_fPopAt, x_fPop, x_fSl, x_fNoP, x_fP, x_fDef, x_callD, x_fPerm, x_fIsi, x_fNeg, x_asL, x_asLt, x_asT, x_fItL, x_fItT, x_orI, x_fRng1, x_fRng2, x_fEnum, x_fZip, x_fFor, x_forL0, x_fAug, x_fYes, x_lcT, x_fRstT, x_fRstV, x_ite, oIx, cutC, kl, Ce.lone, x_fCellV, x_fAppV, x_needV, x_upV, oIxV, x_fDNew, x_fSetdL, x_needW, x_setdL, x_fSrtS, x_fToM, x_fItems, x_fGet2, x_fDSub, x_needD, oGet2, oDSub, dictOf, keyD, oSortG, oSortP, orF, oCatT, oStr, x_fCount, x_fIndex, x_fRev, x_fPar3, datL, dat, atI, ixN, oAdd, orO, oI, oInt, oPowW, oIC, oMod, cPos, oDiv, cDiv, endF, oAddI, oSub, oLt, oLe, oGt, oGe, oMul, oMulG, oRepD, oRep, oI2, oMin2, oMax2, oMinL, oMaxL, oAll, oAny, oBools, oIn, oNotIn, oInD, oInSg, x_fChain, intsA, cellsOf, picks, renum, putB, Ce.alive, oSl, slOr, oSlD, oSlL, oLenG, orA, oLen, tru, permL, oSumL, oCatD, datO, oCat, oList, oRepr, oTuple, DL.isNon, oSlT, oSlS, oAddS, oEqG, oNeG, oEqS, oNeS, oEq, oNe, x_fRaise, x_fFrzL, x_frzL, x_fItemsI, x_fValsI, x_fKeysI, x_fDNewM, x_fDPut, x_putC, x_fL6, dsOf, oSortK, intKeys, x_fDSub, x_fTupC, x_fFrzN, oIxT, callT, endT, pw6, h4]⟩
    · exact ⟨1000000, by decide, by decide, by simp [x_bnd, x_ret, x_stuck, x_gets, x_fVar, x_fC, x_fOp, x_fNil, x_fCons, x_fCall, x_fDat, x_fCell, x_fLst, x_fTup, x_fTest, x_fTru, x_fAnd, x_fOr, x_fNot, x_fIf, x_asB, x_fAndV, x_fOrV, x_fNotV, x_fIsN, x_fNotN, x_frz, x_frzs0, x_frzs1, x_fFrz, x_fSeq, x_fNext, x_fExpr, x_fRet, x_fRetN, x_fAsg, x_kName, x_fPar, x_kNil, x_kCons, x_kTup, x_kSub, x_setIt, x_needL, x_upC, x_fApp, x_fPopAt, x_fPop, x_fSl, x_fNoP, x_fP, x_fDef, x_callD, x_fPerm, x_fIsi, x_fNeg, x_asL, x_asLt, x_asT, x_fItL, x_fItT, x_orI, x_fRng1, x_fRng2, x_fEnum, x_fZip, x_fFor, x_forL0, x_fAug, x_fYes, x_lcT, x_fRstT, x_fRstV, x_ite, oIx, cutC, kl, Ce.lone, x_fCellV, x_fAppV, x_needV, x_upV, oIxV, x_fDNew, x_fSetdL, x_needW, x_setdL, x_fSrtS, x_fToM, x_fItems, x_fGet2, x_fDSub, x_needD, oGet2, oDSub, dictOf, keyD, oSortG, oSortP, orF, oCatT, oStr, x_fCount, x_fIndex, x_fRev, x_fPar3, datL, dat, atI, ixN, oAdd, orO, oI, oInt, oPowW, oIC, oMod, cPos, oDiv, cDiv, endF, oAddI, oSub, oLt, oLe, oGt, oGe, oMul, oMulG, oRepD, oRep, oI2, oMin2, oMax2, oMinL, oMaxL, oAll, oAny, oBools, oIn, oNotIn, oInD, oInSg, x_fChain, intsA, cellsOf, picks, renum, putB, Ce.alive, oSl, slOr, oSlD, oSlL, oLenG, orA, oLen, tru, permL, oSumL, oCatD, datO, oCat, oList, oRepr, oTuple, DL.isNon, oSlT, oSlS, oAddS, oEqG, oNeG, oEqS, oNeS, oEq, oNe, x_fRaise, x_fFrzL, x_frzL, x_fItemsI, x_fValsI, x_fKeysI, x_fDNewM, x_fDPut, x_putC, x_fL6, dsOf, oSortK, intKeys, x_fDSub, x_fTupC, x_fFrzN, oIxT, callT, endT, pw6, h4]⟩
  rw [fSeq_ok hw]
  -- the values
  have k0 : 0 ≤ v / 4 % (m + 1) := Int.emod_nonneg _ (by omega)
  have k1 : v / 4 % (m + 1) < m + 1 := Int.emod_lt_of_pos _ (by omega)
  generalize hk : v / 4 % (m + 1) = q at k0 k1
  obtain ⟨ys, ce', f1, f2, f3, st2, rfl, f4⟩ := lcL_all (k := kName 5) (e := fOp oSub (fOp oMod (fCall oInt (fCons (fDef g__law_next (fCons (fVar 0) fNil)) fNil)) (fVar 3)) (fOp oDiv (fVar 3) (fC (.int 2)))) (sl := [some (.c 0), some (.d (.int m)), some (.d (.int v)), some (.d (.int w)), none, none, none])
    (P := fun z => ∃ i : Int, z = .int i ∧ i.natAbs ≤ 1000000) (I := fun j ce => ∃ st, ce = [.l st] ∧ Dr (j + n) st) (fun x j ce ⟨st', e, hd⟩ => by
      subst e
      obtain ⟨u, st'', e2, u0, u1, d2⟩ := next_ok (n := j + n) (hd.mono (by omega))
      have wp : 0 < w := by omega
      have a0 : 0 ≤ u % w := Int.emod_nonneg _ (by omega)
      have a1 : u % w < w := Int.emod_lt_of_pos _ wp
      refine ⟨.int (u % w - w / 2), ⟨[some (.c 0), some (.d (.int m)), some (.d (.int v)), some (.d (.int w)), none, some (.d x), none], [.l st'']⟩, ?_, ⟨_, rfl, by omega⟩, st'', rfl, d2⟩
      simp [lcT, fYes, fFrz, x_bnd, x_ret, x_stuck, x_gets, x_fVar, x_fC, x_fOp, x_fNil, x_fCons, x_fCall, x_fDat, x_fCell, x_fLst, x_fTup, x_fTest, x_fTru, x_fAnd, x_fOr, x_fNot, x_fIf, x_asB, x_fAndV, x_fOrV, x_fNotV, x_fIsN, x_fNotN, x_frz, x_frzs0, x_frzs1, x_fFrz, x_fSeq, x_fNext, x_fExpr, x_fRet, x_fRetN, x_fAsg, x_kName, x_fPar, x_kNil, x_kCons, x_kTup, x_kSub, x_setIt, x_needL, x_upC, x_fApp, x_fPopAt, x_fPop, x_fSl, x_fNoP, x_fP, x_fDef, x_callD, x_fPerm, x_fIsi, x_fNeg, x_asL, x_asLt, x_asT, x_fItL, x_fItT, x_orI, x_fRng1, x_fRng2, x_fEnum, x_fZip, x_fFor, x_forL0, x_fAug, x_fYes, x_lcT, x_fRstT, x_fRstV, x_ite, oIx, cutC, kl, Ce.lone, x_fCellV, x_fAppV, x_needV, x_upV, oIxV, x_fDNew, x_fSetdL, x_needW, x_setdL, x_fSrtS, x_fToM, x_fItems, x_fGet2, x_fDSub, x_needD, oGet2, oDSub, dictOf, keyD, oSortG, oSortP, orF, oCatT, oStr, x_fCount, x_fIndex, x_fRev, x_fPar3, datL, dat, atI, ixN, oAdd, orO, oI, oInt, oPowW, oIC, oMod, cPos, oDiv, cDiv, endF, oAddI, oSub, oLt, oLe, oGt, oGe, oMul, oMulG, oRepD, oRep, oI2, oMin2, oMax2, oMinL, oMaxL, oAll, oAny, oBools, oIn, oNotIn, oInD, oInSg, x_fChain, intsA, cellsOf, picks, renum, putB, Ce.alive, oSl, slOr, oSlD, oSlL, oLenG, orA, oLen, tru, permL, oSumL, oCatD, datO, oCat, oList, oRepr, oTuple, DL.isNon, oSlT, oSlS, oAddS, oEqG, oNeG, oEqS, oNeS, oEq, oNe, x_fRaise, x_fFrzL, x_frzL, x_fItemsI, x_fValsI, x_fKeysI, x_fDNewM, x_fDPut, x_putC, x_fL6, dsOf, oSortK, intKeys, x_fDSub, x_fTupC, x_fFrzN, oIxT, callT, endT, e2, wp]) (rng 0 q.toNat) 0 [.l st1] ⟨st1, rfl, d1.mono (by rw [rng_len]; omega)⟩
  obtain ⟨ns, rfl, f5, f6⟩ := ints_of f3
  rw [rng_len] at f2
  have hl : ns.length = q.toNat := by rw [f5, f2]
  rw [fSeq_ok (s' := ⟨[some (.c 0), some (.d (.int m)), some (.d (.int v)), some (.d (.int w)), some (.d (il ns)), none, none], [.l st2]⟩) (by
    have hr : fRng1 (fCons (fOp oMod (fCall oInt (fCons (fOp oDiv (fVar 2) (fC (.int 4))) fNil)) (fOp oAdd (fVar 1) (fC (.int 1)))) fNil) ⟨[some (.c 0), some (.d (.int m)), some (.d (.int v)), some (.d (.int w)), none, none, none], [.l st1]⟩ = .ok (rng 0 q.toNat) ⟨[some (.c 0), some (.d (.int m)), some (.d (.int v)), some (.d (.int w)), none, none, none], [.l st1]⟩ := by
      have hm : (0 : Int) < m + 1 := by omega
      have hq1 : -1000000000 ≤ q ∧ q ≤ 1000000000 := by omega
      simp [fRng1, x_bnd, x_ret, x_stuck, x_gets, x_fVar, x_fC, x_fOp, x_fNil, x_fCons, x_fCall, x_fDat, x_fCell, x_fLst, x_fTup, x_fTest, x_fTru, x_fAnd, x_fOr, x_fNot, x_fIf, x_asB, x_fAndV, x_fOrV, x_fNotV, x_fIsN, x_fNotN, x_frz, x_frzs0, x_frzs1, x_fFrz, x_fSeq, x_fNext, x_fExpr, x_fRet, x_fRetN, x_fAsg, x_kName, x_fPar, x_kNil, x_kCons, x_kTup, x_kSub, x_setIt, x_needL, x_upC, x_fApp, x_fPopAt, x_fPop, x_fSl, x_fNoP, x_fP, x_fDef, x_callD, x_fPerm, x_fIsi, x_fNeg, x_asL, x_asLt, x_asT, x_fItL, x_fItT, x_orI, x_fRng1, x_fRng2, x_fEnum, x_fZip, x_fFor, x_forL0, x_fAug, x_fYes, x_lcT, x_fRstT, x_fRstV, x_ite, oIx, cutC, kl, Ce.lone, x_fCellV, x_fAppV, x_needV, x_upV, oIxV, x_fDNew, x_fSetdL, x_needW, x_setdL, x_fSrtS, x_fToM, x_fItems, x_fGet2, x_fDSub, x_needD, oGet2, oDSub, dictOf, keyD, oSortG, oSortP, orF, oCatT, oStr, x_fCount, x_fIndex, x_fRev, x_fPar3, datL, dat, atI, ixN, oAdd, orO, oI, oInt, oPowW, oIC, oMod, cPos, oDiv, cDiv, endF, oAddI, oSub, oLt, oLe, oGt, oGe, oMul, oMulG, oRepD, oRep, oI2, oMin2, oMax2, oMinL, oMaxL, oAll, oAny, oBools, oIn, oNotIn, oInD, oInSg, x_fChain, intsA, cellsOf, picks, renum, putB, Ce.alive, oSl, slOr, oSlD, oSlL, oLenG, orA, oLen, tru, permL, oSumL, oCatD, datO, oCat, oList, oRepr, oTuple, DL.isNon, oSlT, oSlS, oAddS, oEqG, oNeG, oEqS, oNeS, oEq, oNe, x_fRaise, x_fFrzL, x_frzL, x_fItemsI, x_fValsI, x_fKeysI, x_fDNewM, x_fDPut, x_putC, x_fL6, dsOf, oSortK, intKeys, x_fDSub, x_fTupC, x_fFrzN, oIxT, callT, endT, hm, hk, hq1]
    have hlc := fLc_ok (vs := [5]) hr (by rw [rng_len]; omega) f1
    simp [fAsg, fDat, bnd, hlc, DL.ret, kName])]
  -- times a great number, or not
  obtain ⟨ms, g1, g2, g3⟩ : ∃ ms : List Int, ms.length = ns.length ∧ Bdd (10 ^ 21) ms ∧ (fAsg (fIf (fTest (fOp oEqG (fOp oMod (fCall oInt (fCons (fOp oDiv (fVar 2) (fC (.int 4096))) fNil)) (fC (.int 8))) (fC (.int 0)))) (fDat (fLc (orI (fItL (fVar 4)) (fItT (fVar 4))) (kName 6) fYes (fOp oAdd (fOp oMulG (fOp oMulG (fVar 6) (fC (.int 2))) (fOp oPowW (fC (.int 10)) (fC (.int 14)))) (fC (.int 1))) [6])) (fVar 4)) (kName 4)) ⟨[some (.c 0), some (.d (.int m)), some (.d (.int v)), some (.d (.int w)), some (.d (il ns)), none, none], [.l st2]⟩ =
      .ok .nx ⟨[some (.c 0), some (.d (.int m)), some (.d (.int v)), some (.d (.int w)), some (.d (il ms)), none, none], [.l st2]⟩ := by
    by_cases h8 : v / 4096 % 8 = 0
    · refine ⟨ns.map fun x => x * 2 * 100000000000000 + 1, by simp, fun y hy => ?_, ?_⟩
      · obtain ⟨x, hx, rfl⟩ := List.mem_map.mp hy
        have := f6 x hx
        omega
      · have hlc := fLc_ok (fi := orI (fItL (fVar 4)) (fItT (fVar 4))) (vs := [6]) (s := ⟨[some (.c 0), some (.d (.int m)), some (.d (.int v)), some (.d (.int w)), some (.d (il ns)), none, none], [.l st2]⟩) (s1 := ⟨[some (.c 0), some (.d (.int m)), some (.d (.int v)), some (.d (.int w)), some (.d (il ns)), none, none], [.l st2]⟩) (xs := ns.map .int)
          (by simp [orI, fItL, asL, x_bnd, x_ret, x_stuck, x_gets, x_fVar, x_fC, x_fOp, x_fNil, x_fCons, x_fCall, x_fDat, x_fCell, x_fLst, x_fTup, x_fTest, x_fTru, x_fAnd, x_fOr, x_fNot, x_fIf, x_asB, x_fAndV, x_fOrV, x_fNotV, x_fIsN, x_fNotN, x_frz, x_frzs0, x_frzs1, x_fFrz, x_fSeq, x_fNext, x_fExpr, x_fRet, x_fRetN, x_fAsg, x_kName, x_fPar, x_kNil, x_kCons, x_kTup, x_kSub, x_setIt, x_needL, x_upC, x_fApp, x_fPopAt, x_fPop, x_fSl, x_fNoP, x_fP, x_fDef, x_callD, x_fPerm, x_fIsi, x_fNeg, x_asL, x_asLt, x_asT, x_fItL, x_fItT, x_orI, x_fRng1, x_fRng2, x_fEnum, x_fZip, x_fFor, x_forL0, x_fAug, x_fYes, x_lcT, x_fRstT, x_fRstV, x_ite, oIx, cutC, kl, Ce.lone, x_fCellV, x_fAppV, x_needV, x_upV, oIxV, x_fDNew, x_fSetdL, x_needW, x_setdL, x_fSrtS, x_fToM, x_fItems, x_fGet2, x_fDSub, x_needD, oGet2, oDSub, dictOf, keyD, oSortG, oSortP, orF, oCatT, oStr, x_fCount, x_fIndex, x_fRev, x_fPar3, datL, dat, atI, ixN, oAdd, orO, oI, oInt, oPowW, oIC, oMod, cPos, oDiv, cDiv, endF, oAddI, oSub, oLt, oLe, oGt, oGe, oMul, oMulG, oRepD, oRep, oI2, oMin2, oMax2, oMinL, oMaxL, oAll, oAny, oBools, oIn, oNotIn, oInD, oInSg, x_fChain, intsA, cellsOf, picks, renum, putB, Ce.alive, oSl, slOr, oSlD, oSlL, oLenG, orA, oLen, tru, permL, oSumL, oCatD, datO, oCat, oList, oRepr, oTuple, DL.isNon, oSlT, oSlS, oAddS, oEqG, oNeG, oEqS, oNeS, oEq, oNe, x_fRaise, x_fFrzL, x_frzL, x_fItemsI, x_fValsI, x_fKeysI, x_fDNewM, x_fDPut, x_putC, x_fL6, dsOf, oSortK, intKeys, x_fDSub, x_fTupC, x_fFrzN, oIxT, callT, endT]) (by simp; omega) (lc_ints (k := kName 6) (e := fOp oAdd (fOp oMulG (fOp oMulG (fVar 6) (fC (.int 2))) (fOp oPowW (fC (.int 10)) (fC (.int 14)))) (fC (.int 1))) (f := fun x => x * 2 * 100000000000000 + 1) (fun x hx => by
            have hb := f6 x hx
            have c1 : cMul x 2 = true := by simp only [cMul, decide_eq_true_eq]; omega
            have c2 : cMul (x * 2) 100000000000000 = true := by simp only [cMul, decide_eq_true_eq]; omega
            exact ⟨_, by simp [lcT, fYes, fFrz, x_bnd, x_ret, x_stuck, x_gets, x_fVar, x_fC, x_fOp, x_fNil, x_fCons, x_fCall, x_fDat, x_fCell, x_fLst, x_fTup, x_fTest, x_fTru, x_fAnd, x_fOr, x_fNot, x_fIf, x_asB, x_fAndV, x_fOrV, x_fNotV, x_fIsN, x_fNotN, x_frz, x_frzs0, x_frzs1, x_fFrz, x_fSeq, x_fNext, x_fExpr, x_fRet, x_fRetN, x_fAsg, x_kName, x_fPar, x_kNil, x_kCons, x_kTup, x_kSub, x_setIt, x_needL, x_upC, x_fApp, x_fPopAt, x_fPop, x_fSl, x_fNoP, x_fP, x_fDef, x_callD, x_fPerm, x_fIsi, x_fNeg, x_asL, x_asLt, x_asT, x_fItL, x_fItT, x_orI, x_fRng1, x_fRng2, x_fEnum, x_fZip, x_fFor, x_forL0, x_fAug, x_fYes, x_lcT, x_fRstT, x_fRstV, x_ite, oIx, cutC, kl, Ce.lone, x_fCellV, x_fAppV, x_needV, x_upV, oIxV, x_fDNew, x_fSetdL, x_needW, x_setdL, x_fSrtS, x_fToM, x_fItems, x_fGet2, x_fDSub, x_needD, oGet2, oDSub, dictOf, keyD, oSortG, oSortP, orF, oCatT, oStr, x_fCount, x_fIndex, x_fRev, x_fPar3, datL, dat, atI, ixN, oAdd, orO, oI, oInt, oPowW, oIC, oMod, cPos, oDiv, cDiv, endF, oAddI, oSub, oLt, oLe, oGt, oGe, oMul, oMulG, oRepD, oRep, oI2, oMin2, oMax2, oMinL, oMaxL, oAll, oAny, oBools, oIn, oNotIn, oInD, oInSg, x_fChain, intsA, cellsOf, picks, renum, putB, Ce.alive, oSl, slOr, oSlD, oSlL, oLenG, orA, oLen, tru, permL, oSumL, oCatD, datO, oCat, oList, oRepr, oTuple, DL.isNon, oSlT, oSlS, oAddS, oEqG, oNeG, oEqS, oNeS, oEq, oNe, x_fRaise, x_fFrzL, x_frzL, x_fItemsI, x_fValsI, x_fKeysI, x_fDNewM, x_fDPut, x_putC, x_fL6, dsOf, oSortK, intKeys, x_fDSub, x_fTupC, x_fFrzN, oIxT, callT, endT, pw14, c1, c2, wipe1]; rfl, rfl⟩))
        simp [fAsg, fIf, fTest, okE_int, PyData.eqv, h8, hlc, x_bnd, x_ret, x_stuck, x_gets, x_fVar, x_fC, x_fOp, x_fNil, x_fCons, x_fCall, x_fDat, x_fCell, x_fLst, x_fTup, x_fTest, x_fTru, x_fAnd, x_fOr, x_fNot, x_fIf, x_asB, x_fAndV, x_fOrV, x_fNotV, x_fIsN, x_fNotN, x_frz, x_frzs0, x_frzs1, x_fFrz, x_fSeq, x_fNext, x_fExpr, x_fRet, x_fRetN, x_fAsg, x_kName, x_fPar, x_kNil, x_kCons, x_kTup, x_kSub, x_setIt, x_needL, x_upC, x_fApp, x_fPopAt, x_fPop, x_fSl, x_fNoP, x_fP, x_fDef, x_callD, x_fPerm, x_fIsi, x_fNeg, x_asL, x_asLt, x_asT, x_fItL, x_fItT, x_orI, x_fRng1, x_fRng2, x_fEnum, x_fZip, x_fFor, x_forL0, x_fAug, x_fYes, x_lcT, x_fRstT, x_fRstV, x_ite, oIx, cutC, kl, Ce.lone, x_fCellV, x_fAppV, x_needV, x_upV, oIxV, x_fDNew, x_fSetdL, x_needW, x_setdL, x_fSrtS, x_fToM, x_fItems, x_fGet2, x_fDSub, x_needD, oGet2, oDSub, dictOf, keyD, oSortG, oSortP, orF, oCatT, oStr, x_fCount, x_fIndex, x_fRev, x_fPar3, datL, dat, atI, ixN, oAdd, orO, oI, oInt, oPowW, oIC, oMod, cPos, oDiv, cDiv, endF, oAddI, oSub, oLt, oLe, oGt, oGe, oMul, oMulG, oRepD, oRep, oI2, oMin2, oMax2, oMinL, oMaxL, oAll, oAny, oBools, oIn, oNotIn, oInD, oInSg, x_fChain, intsA, cellsOf, picks, renum, putB, Ce.alive, oSl, slOr, oSlD, oSlL, oLenG, orA, oLen, tru, permL, oSumL, oCatD, datO, oCat, oList, oRepr, oTuple, DL.isNon, oSlT, oSlS, oAddS, oEqG, oNeG, oEqS, oNeS, oEq, oNe, x_fRaise, x_fFrzL, x_frzL, x_fItemsI, x_fValsI, x_fKeysI, x_fDNewM, x_fDPut, x_putC, x_fL6, dsOf, oSortK, intKeys, x_fDSub, x_fTupC, x_fFrzN, oIxT, callT, endT]
    · refine ⟨ns, rfl, fun x hx => Nat.le_trans (f6 x hx) (by decide), ?_⟩
      simp [fAsg, fIf, fTest, okE_int, PyData.eqv, h8, x_bnd, x_ret, x_stuck, x_gets, x_fVar, x_fC, x_fOp, x_fNil, x_fCons, x_fCall, x_fDat, x_fCell, x_fLst, x_fTup, x_fTest, x_fTru, x_fAnd, x_fOr, x_fNot, x_fIf, x_asB, x_fAndV, x_fOrV, x_fNotV, x_fIsN, x_fNotN, x_frz, x_frzs0, x_frzs1, x_fFrz, x_fSeq, x_fNext, x_fExpr, x_fRet, x_fRetN, x_fAsg, x_kName, x_fPar, x_kNil, x_kCons, x_kTup, x_kSub, x_setIt, x_needL, x_upC, x_fApp, x_fPopAt, x_fPop, x_fSl, x_fNoP, x_fP, x_fDef, x_callD, x_fPerm, x_fIsi, x_fNeg, x_asL, x_asLt, x_asT, x_fItL, x_fItT, x_orI, x_fRng1, x_fRng2, x_fEnum, x_fZip, x_fFor, x_forL0, x_fAug, x_fYes, x_lcT, x_fRstT, x_fRstV, x_ite, oIx, cutC, kl, Ce.lone, x_fCellV, x_fAppV, x_needV, x_upV, oIxV, x_fDNew, x_fSetdL, x_needW, x_setdL, x_fSrtS, x_fToM, x_fItems, x_fGet2, x_fDSub, x_needD, oGet2, oDSub, dictOf, keyD, oSortG, oSortP, orF, oCatT, oStr, x_fCount, x_fIndex, x_fRev, x_fPar3, datL, dat, atI, ixN, oAdd, orO, oI, oInt, oPowW, oIC, oMod, cPos, oDiv, cDiv, endF, oAddI, oSub, oLt, oLe, oGt, oGe, oMul, oMulG, oRepD, oRep, oI2, oMin2, oMax2, oMinL, oMaxL, oAll, oAny, oBools, oIn, oNotIn, oInD, oInSg, x_fChain, intsA, cellsOf, picks, renum, putB, Ce.alive, oSl, slOr, oSlD, oSlL, oLenG, orA, oLen, tru, permL, oSumL, oCatD, datO, oCat, oList, oRepr, oTuple, DL.isNon, oSlT, oSlS, oAddS, oEqG, oNeG, oEqS, oNeS, oEq, oNe, x_fRaise, x_fFrzL, x_frzL, x_fItemsI, x_fValsI, x_fKeysI, x_fDNewM, x_fDPut, x_putC, x_fL6, dsOf, oSortK, intKeys, x_fDSub, x_fTupC, x_fFrzN, oIxT, callT, endT]
  rw [fSeq_ok g3]
  by_cases h6 : v / 512 % 6 = 0
  · refine ⟨srt ms, st2, ?_, ?_, fun x hx => g2 x ((srt_perm ms).mem_iff.mp hx), f4.mono (by omega)⟩
    · simp [okE_int, PyData.eqv, h6, oSortG, oSorted, intsOf_map, x_bnd, x_ret, x_stuck, x_gets, x_fVar, x_fC, x_fOp, x_fNil, x_fCons, x_fCall, x_fDat, x_fCell, x_fLst, x_fTup, x_fTest, x_fTru, x_fAnd, x_fOr, x_fNot, x_fIf, x_asB, x_fAndV, x_fOrV, x_fNotV, x_fIsN, x_fNotN, x_frz, x_frzs0, x_frzs1, x_fFrz, x_fSeq, x_fNext, x_fExpr, x_fRet, x_fRetN, x_fAsg, x_kName, x_fPar, x_kNil, x_kCons, x_kTup, x_kSub, x_setIt, x_needL, x_upC, x_fApp, x_fPopAt, x_fPop, x_fSl, x_fNoP, x_fP, x_fDef, x_callD, x_fPerm, x_fIsi, x_fNeg, x_asL, x_asLt, x_asT, x_fItL, x_fItT, x_orI, x_fRng1, x_fRng2, x_fEnum, x_fZip, x_fFor, x_forL0, x_fAug, x_fYes, x_lcT, x_fRstT, x_fRstV, x_ite, oIx, cutC, kl, Ce.lone, x_fCellV, x_fAppV, x_needV, x_upV, oIxV, x_fDNew, x_fSetdL, x_needW, x_setdL, x_fSrtS, x_fToM, x_fItems, x_fGet2, x_fDSub, x_needD, oGet2, oDSub, dictOf, keyD, oSortG, oSortP, orF, oCatT, oStr, x_fCount, x_fIndex, x_fRev, x_fPar3, datL, dat, atI, ixN, oAdd, orO, oI, oInt, oPowW, oIC, oMod, cPos, oDiv, cDiv, endF, oAddI, oSub, oLt, oLe, oGt, oGe, oMul, oMulG, oRepD, oRep, oI2, oMin2, oMax2, oMinL, oMaxL, oAll, oAny, oBools, oIn, oNotIn, oInD, oInSg, x_fChain, intsA, cellsOf, picks, renum, putB, Ce.alive, oSl, slOr, oSlD, oSlL, oLenG, orA, oLen, tru, permL, oSumL, oCatD, datO, oCat, oList, oRepr, oTuple, DL.isNon, oSlT, oSlS, oAddS, oEqG, oNeG, oEqS, oNeS, oEq, oNe, x_fRaise, x_fFrzL, x_frzL, x_fItemsI, x_fValsI, x_fKeysI, x_fDNewM, x_fDPut, x_putC, x_fL6, dsOf, oSortK, intKeys, x_fDSub, x_fTupC, x_fFrzN, oIxT, callT, endT]
    · rw [(srt_perm ms).length_eq, g1, hl]; omega
  · refine ⟨ms, st2, ?_, by rw [g1, hl]; omega, g2, f4.mono (by omega)⟩
    simp [okE_int, PyData.eqv, h6, x_bnd, x_ret, x_stuck, x_gets, x_fVar, x_fC, x_fOp, x_fNil, x_fCons, x_fCall, x_fDat, x_fCell, x_fLst, x_fTup, x_fTest, x_fTru, x_fAnd, x_fOr, x_fNot, x_fIf, x_asB, x_fAndV, x_fOrV, x_fNotV, x_fIsN, x_fNotN, x_frz, x_frzs0, x_frzs1, x_fFrz, x_fSeq, x_fNext, x_fExpr, x_fRet, x_fRetN, x_fAsg, x_kName, x_fPar, x_kNil, x_kCons, x_kTup, x_kSub, x_setIt, x_needL, x_upC, x_fApp, x_fPopAt, x_fPop, x_fSl, x_fNoP, x_fP, x_fDef, x_callD, x_fPerm, x_fIsi, x_fNeg, x_asL, x_asLt, x_asT, x_fItL, x_fItT, x_orI, x_fRng1, x_fRng2, x_fEnum, x_fZip, x_fFor, x_forL0, x_fAug, x_fYes, x_lcT, x_fRstT, x_fRstV, x_ite, oIx, cutC, kl, Ce.lone, x_fCellV, x_fAppV, x_needV, x_upV, oIxV, x_fDNew, x_fSetdL, x_needW, x_setdL, x_fSrtS, x_fToM, x_fItems, x_fGet2, x_fDSub, x_needD, oGet2, oDSub, dictOf, keyD, oSortG, oSortP, orF, oCatT, oStr, x_fCount, x_fIndex, x_fRev, x_fPar3, datL, dat, atI, ixN, oAdd, orO, oI, oInt, oPowW, oIC, oMod, cPos, oDiv, cDiv, endF, oAddI, oSub, oLt, oLe, oGt, oGe, oMul, oMulG, oRepD, oRep, oI2, oMin2, oMax2, oMinL, oMaxL, oAll, oAny, oBools, oIn, oNotIn, oInD, oInSg, x_fChain, intsA, cellsOf, picks, renum, putB, Ce.alive, oSl, slOr, oSlD, oSlL, oLenG, orA, oLen, tru, permL, oSumL, oCatD, datO, oCat, oList, oRepr, oTuple, DL.isNon, oSlT, oSlS, oAddS, oEqG, oNeG, oEqS, oNeS, oEq, oNe, x_fRaise, x_fFrzL, x_frzL, x_fItemsI, x_fValsI, x_fKeysI, x_fDNewM, x_fDPut, x_putC, x_fL6, dsOf, oSortK, intKeys, x_fDSub, x_fTupC, x_fFrzN, oIxT, callT, endT]

def Rg (l : List Int) : Prop := ∀ z ∈ l, 3 ≤ z ∧ z ≤ 15
def hdIs (h : Int) : D → Bool
  | .list (.int x :: _) => decide (x = h)
  | _ => false
theorem hdIs_il (h x : Int) (u : List Int) : hdIs h (il (x :: u)) = decide (x = h) := rfl
theorem row_sel {m : Int} {hd tl tx : Option Vl} {h : Int} {st : List D} {uss : List (List Int)} (c1 : Ce) (hc : c1 = .l (uss.map il) ∨ c1 = .f (uss.map il)) (hne : ∀ u ∈ uss, u ≠ []) (hl : uss.length ≤ 1000) {a7 a8 : Option Vl} :
    (fDat (fLc (orI (fItL (fFrz (fVar 2))) (fItT (fFrz (fVar 2)))) (kName 8) (fTest (fOp oEqG (fOp oIx (fVar 8) (fC (.int 0))) (fVar 5))) (fVar 8) [8])) ⟨[some (.c 0), some (.d (.int m)), some (.c 1), hd, tl, some (.d (.int h)), tx, a7, a8], [.l st, c1]⟩ =
      .ok (.d (.list ((uss.filter fun u => decide (u.head? = some h)).map il))) ⟨[some (.c 0), some (.d (.int m)), some (.c 1), hd, tl, some (.d (.int h)), tx, a7, a8], [.l st, .f (uss.map il)]⟩ := by
  have hr : (orI (fItL (fFrz (fVar 2))) (fItT (fFrz (fVar 2)))) ⟨[some (.c 0), some (.d (.int m)), some (.c 1), hd, tl, some (.d (.int h)), tx, a7, a8], [.l st, c1]⟩ = .ok (uss.map il) ⟨[some (.c 0), some (.d (.int m)), some (.c 1), hd, tl, some (.d (.int h)), tx, a7, a8], [.l st, .f (uss.map il)]⟩ := by
    rcases hc with rfl | rfl <;> simp [x_bnd, x_ret, x_stuck, x_gets, x_fVar, x_fC, x_fOp, x_fNil, x_fCons, x_fCall, x_fDat, x_fCell, x_fLst, x_fTup, x_fTest, x_fTru, x_fAnd, x_fOr, x_fNot, x_fIf, x_asB, x_fAndV, x_fOrV, x_fNotV, x_fIsN, x_fNotN, x_frz, x_frzs0, x_frzs1, x_fFrz, x_fSeq, x_fNext, x_fExpr, x_fRet, x_fRetN, x_fAsg, x_kName, x_fPar, x_kNil, x_kCons, x_kTup, x_kSub, x_setIt, x_needL, x_upC, x_fApp, x_fPopAt, x_fPop, x_fSl, x_fNoP, x_fP, x_fDef, x_callD, x_fPerm, x_fIsi, x_fNeg, x_asL, x_asLt, x_asT, x_fItL, x_fItT, x_orI, x_fRng1, x_fRng2, x_fEnum, x_fZip, x_fFor, x_forL0, x_fAug, x_fYes, x_lcT, x_fRstT, x_fRstV, x_ite, oIx, cutC, kl, Ce.lone, x_fCellV, x_fAppV, x_needV, x_upV, oIxV, x_fDNew, x_fSetdL, x_needW, x_setdL, x_fSrtS, x_fToM, x_fItems, x_fGet2, x_fDSub, x_needD, oGet2, oDSub, dictOf, keyD, oSortG, oSortP, orF, oCatT, oStr, x_fCount, x_fIndex, x_fRev, x_fPar3, datL, dat, atI, ixN, oAdd, orO, oI, oInt, oPowW, oIC, oMod, cPos, oDiv, cDiv, endF, oAddI, oSub, oLt, oLe, oGt, oGe, oMul, oMulG, oRepD, oRep, oI2, oMin2, oMax2, oMinL, oMaxL, oAll, oAny, oBools, oIn, oNotIn, oInD, oInSg, x_fChain, intsA, cellsOf, picks, renum, putB, Ce.alive, oSl, slOr, oSlD, oSlL, oLenG, orA, oLen, tru, permL, oSumL, oCatD, datO, oCat, oList, oRepr, oTuple, DL.isNon, oSlT, oSlS, oAddS, oEqG, oNeG, oEqS, oNeS, oEq, oNe, x_fRaise, x_fFrzL, x_frzL, x_fItemsI, x_fValsI, x_fKeysI, x_fDNewM, x_fDPut, x_putC, x_fL6, dsOf, oSortK, intKeys, x_fDSub, x_fTupC, x_fFrzN, oIxT, callT, endT]
  have hlc := fLc_ok (k := kName 8) (t := fTest (fOp oEqG (fOp oIx (fVar 8) (fC (.int 0))) (fVar 5))) (e := fVar 8) (vs := [8]) hr (by simp; omega) (lcL_fm (f := fun d => if hdIs h d = true then some d else none) (fun d hd' => by
    obtain ⟨u, hu, rfl⟩ := List.mem_map.mp hd'
    cases u with
    | nil => exact absurd rfl (hne _ hu)
    | cons x u =>
      by_cases hx : x = h
      · exact ⟨_, by simp [x_bnd, x_ret, x_stuck, x_gets, x_fVar, x_fC, x_fOp, x_fNil, x_fCons, x_fCall, x_fDat, x_fCell, x_fLst, x_fTup, x_fTest, x_fTru, x_fAnd, x_fOr, x_fNot, x_fIf, x_asB, x_fAndV, x_fOrV, x_fNotV, x_fIsN, x_fNotN, x_frz, x_frzs0, x_frzs1, x_fFrz, x_fSeq, x_fNext, x_fExpr, x_fRet, x_fRetN, x_fAsg, x_kName, x_fPar, x_kNil, x_kCons, x_kTup, x_kSub, x_setIt, x_needL, x_upC, x_fApp, x_fPopAt, x_fPop, x_fSl, x_fNoP, x_fP, x_fDef, x_callD, x_fPerm, x_fIsi, x_fNeg, x_asL, x_asLt, x_asT, x_fItL, x_fItT, x_orI, x_fRng1, x_fRng2, x_fEnum, x_fZip, x_fFor, x_forL0, x_fAug, x_fYes, x_lcT, x_fRstT, x_fRstV, x_ite, oIx, cutC, kl, Ce.lone, x_fCellV, x_fAppV, x_needV, x_upV, oIxV, x_fDNew, x_fSetdL, x_needW, x_setdL, x_fSrtS, x_fToM, x_fItems, x_fGet2, x_fDSub, x_needD, oGet2, oDSub, dictOf, keyD, oSortG, oSortP, orF, oCatT, oStr, x_fCount, x_fIndex, x_fRev, x_fPar3, datL, dat, atI, ixN, oAdd, orO, oI, oInt, oPowW, oIC, oMod, cPos, oDiv, cDiv, endF, oAddI, oSub, oLt, oLe, oGt, oGe, oMul, oMulG, oRepD, oRep, oI2, oMin2, oMax2, oMinL, oMaxL, oAll, oAny, oBools, oIn, oNotIn, oInD, oInSg, x_fChain, intsA, cellsOf, picks, renum, putB, Ce.alive, oSl, slOr, oSlD, oSlL, oLenG, orA, oLen, tru, permL, oSumL, oCatD, datO, oCat, oList, oRepr, oTuple, DL.isNon, oSlT, oSlS, oAddS, oEqG, oNeG, oEqS, oNeS, oEq, oNe, x_fRaise, x_fFrzL, x_frzL, x_fItemsI, x_fValsI, x_fKeysI, x_fDNewM, x_fDPut, x_putC, x_fL6, dsOf, oSortK, intKeys, x_fDSub, x_fTupC, x_fFrzN, oIxT, callT, endT, wipe1, okE_int, PyData.eqv, hx, hdIs_il]; rfl, rfl⟩
      · exact ⟨_, by simp [x_bnd, x_ret, x_stuck, x_gets, x_fVar, x_fC, x_fOp, x_fNil, x_fCons, x_fCall, x_fDat, x_fCell, x_fLst, x_fTup, x_fTest, x_fTru, x_fAnd, x_fOr, x_fNot, x_fIf, x_asB, x_fAndV, x_fOrV, x_fNotV, x_fIsN, x_fNotN, x_frz, x_frzs0, x_frzs1, x_fFrz, x_fSeq, x_fNext, x_fExpr, x_fRet, x_fRetN, x_fAsg, x_kName, x_fPar, x_kNil, x_kCons, x_kTup, x_kSub, x_setIt, x_needL, x_upC, x_fApp, x_fPopAt, x_fPop, x_fSl, x_fNoP, x_fP, x_fDef, x_callD, x_fPerm, x_fIsi, x_fNeg, x_asL, x_asLt, x_asT, x_fItL, x_fItT, x_orI, x_fRng1, x_fRng2, x_fEnum, x_fZip, x_fFor, x_forL0, x_fAug, x_fYes, x_lcT, x_fRstT, x_fRstV, x_ite, oIx, cutC, kl, Ce.lone, x_fCellV, x_fAppV, x_needV, x_upV, oIxV, x_fDNew, x_fSetdL, x_needW, x_setdL, x_fSrtS, x_fToM, x_fItems, x_fGet2, x_fDSub, x_needD, oGet2, oDSub, dictOf, keyD, oSortG, oSortP, orF, oCatT, oStr, x_fCount, x_fIndex, x_fRev, x_fPar3, datL, dat, atI, ixN, oAdd, orO, oI, oInt, oPowW, oIC, oMod, cPos, oDiv, cDiv, endF, oAddI, oSub, oLt, oLe, oGt, oGe, oMul, oMulG, oRepD, oRep, oI2, oMin2, oMax2, oMinL, oMaxL, oAll, oAny, oBools, oIn, oNotIn, oInD, oInSg, x_fChain, intsA, cellsOf, picks, renum, putB, Ce.alive, oSl, slOr, oSlD, oSlL, oLenG, orA, oLen, tru, permL, oSumL, oCatD, datO, oCat, oList, oRepr, oTuple, DL.isNon, oSlT, oSlS, oAddS, oEqG, oNeG, oEqS, oNeS, oEq, oNe, x_fRaise, x_fFrzL, x_frzL, x_fItemsI, x_fValsI, x_fKeysI, x_fDNewM, x_fDPut, x_putC, x_fL6, dsOf, oSortK, intKeys, x_fDSub, x_fTupC, x_fFrzN, oIxT, callT, endT, wipe1, okE_int, PyData.eqv, hx, hdIs_il]; rfl, rfl⟩))
  simp only [fDat, bnd, hlc, DL.ret]
  congr 3
  clear hlc hr hc hl
  induction uss with
  | nil => rfl
  | cons u uss ih =>
    have ih' := ih fun v hv => hne v (List.mem_cons_of_mem _ hv)
    cases u with
    | nil => exact absurd rfl (hne _ List.mem_cons_self)
    | cons x u =>
      by_cases hx : x = h <;> simp [hx, ih', hdIs_il]
theorem lists_il : ∀ (uss : List (List Int)), listsOf (uss.map il) = some (uss.map fun u => u.map PyData.int)
  | [] => rfl
  | u :: uss => by simp [listsOf, lists_il uss]
theorem sum_il (l : List (List Int)) (h : l.flatten.length ≤ 1000000) (s : S) : oSumL [.d (.list (l.map il)), .d (.list [])] s = some (.d (il l.flatten)) := by
  simp only [oSumL, datL, dat, lists_il]
  rw [if_pos (by
    have : (l.map fun u => u.map PyData.int).flatten = l.flatten.map PyData.int := by simp [List.map_flatten]
    rw [this, List.length_map, List.length_nil]
    omega)]
  simp [List.map_flatten]
theorem filt3 : ∀ l : List (List Int), (l.filter fun u => decide (u.head? = some 5)).length + (l.filter fun u => decide (u.head? = some 10)).length + (l.filter fun u => decide (u.head? = some 15)).length ≤ l.length
  | [] => by simp
  | u :: l => by
    have ih := filt3 l
    by_cases h5 : u.head? = some 5
    · simp [h5]; omega
    · by_cases h10 : u.head? = some 10
      · simp [h10]; omega
      · by_cases h15 : u.head? = some 15
        · simp [h15]; omega
        · simp [h5, h10, h15]; omega
theorem row_ok {n : Nat} {m : Int} {st : List D} (m0 : 0 ≤ m) (m1 : m ≤ 20) (h : Dr (n + 130) st) : ∃ ns st', g__law_row [.c 0, .d (.int m)] [.l st] = .ok (.d (il ns)) [.l st'] ∧ (ns.length : Int) ≤ 3 * m ∧ Rg ns ∧ Dr n st' := by
  obtain ⟨v, st1, e1, v0, v1, d1⟩ := next_ok (n := n + 129) h
  obtain ⟨v', st2, e2, v0', v1', d2⟩ := next_ok (n := n + 128) d1
  have p0 : 0 ≤ v % 3 ∧ v % 3 < 3 := by omega
  have p1 : 0 ≤ v' % 2 ∧ v' % 2 < 2 := by omega
  generalize hP : v % 3 = p at p0
  generalize hQ : v' % 2 = q at p1
  unfold g__law_row mkF
  simp only [List.length_cons, List.length_nil, if_true, body__law_row, List.map_cons, List.map_nil, List.cons_append, List.nil_append]
  rw [fSeq_ok (s' := ⟨[some (.c 0), some (.d (.int m)), some (.c 1), none, none, none, none, none, none], [.l st, .l []]⟩) (by simp [x_bnd, x_ret, x_stuck, x_gets, x_fVar, x_fC, x_fOp, x_fNil, x_fCons, x_fCall, x_fDat, x_fCell, x_fLst, x_fTup, x_fTest, x_fTru, x_fAnd, x_fOr, x_fNot, x_fIf, x_asB, x_fAndV, x_fOrV, x_fNotV, x_fIsN, x_fNotN, x_frz, x_frzs0, x_frzs1, x_fFrz, x_fSeq, x_fNext, x_fExpr, x_fRet, x_fRetN, x_fAsg, x_kName, x_fPar, x_kNil, x_kCons, x_kTup, x_kSub, x_setIt, x_needL, x_upC, x_fApp, x_fPopAt, x_fPop, x_fSl, x_fNoP, x_fP, x_fDef, x_callD, x_fPerm, x_fIsi, x_fNeg, x_asL, x_asLt, x_asT, x_fItL, x_fItT, x_orI, x_fRng1, x_fRng2, x_fEnum, x_fZip, x_fFor, x_forL0, x_fAug, x_fYes, x_lcT, x_fRstT, x_fRstV, x_ite, oIx, cutC, kl, Ce.lone, x_fCellV, x_fAppV, x_needV, x_upV, oIxV, x_fDNew, x_fSetdL, x_needW, x_setdL, x_fSrtS, x_fToM, x_fItems, x_fGet2, x_fDSub, x_needD, oGet2, oDSub, dictOf, keyD, oSortG, oSortP, orF, oCatT, oStr, x_fCount, x_fIndex, x_fRev, x_fPar3, datL, dat, atI, ixN, oAdd, orO, oI, oInt, oPowW, oIC, oMod, cPos, oDiv, cDiv, endF, oAddI, oSub, oLt, oLe, oGt, oGe, oMul, oMulG, oRepD, oRep, oI2, oMin2, oMax2, oMinL, oMaxL, oAll, oAny, oBools, oIn, oNotIn, oInD, oInSg, x_fChain, intsA, cellsOf, picks, renum, putB, Ce.alive, oSl, slOr, oSlD, oSlL, oLenG, orA, oLen, tru, permL, oSumL, oCatD, datO, oCat, oList, oRepr, oTuple, DL.isNon, oSlT, oSlS, oAddS, oEqG, oNeG, oEqS, oNeS, oEq, oNe, x_fRaise, x_fFrzL, x_frzL, x_fItemsI, x_fValsI, x_fKeysI, x_fDNewM, x_fDPut, x_putC, x_fL6, dsOf, oSortK, intKeys, x_fDSub, x_fTupC, x_fFrzN, oIxT, callT, endT])]
  rw [fSeq_ok (s' := ⟨[some (.c 0), some (.d (.int m)), some (.c 1), some (.d (.int (1 + p))), none, none, none, none, none], [.l st1, .l []]⟩) (by simp [x_bnd, x_ret, x_stuck, x_gets, x_fVar, x_fC, x_fOp, x_fNil, x_fCons, x_fCall, x_fDat, x_fCell, x_fLst, x_fTup, x_fTest, x_fTru, x_fAnd, x_fOr, x_fNot, x_fIf, x_asB, x_fAndV, x_fOrV, x_fNotV, x_fIsN, x_fNotN, x_frz, x_frzs0, x_frzs1, x_fFrz, x_fSeq, x_fNext, x_fExpr, x_fRet, x_fRetN, x_fAsg, x_kName, x_fPar, x_kNil, x_kCons, x_kTup, x_kSub, x_setIt, x_needL, x_upC, x_fApp, x_fPopAt, x_fPop, x_fSl, x_fNoP, x_fP, x_fDef, x_callD, x_fPerm, x_fIsi, x_fNeg, x_asL, x_asLt, x_asT, x_fItL, x_fItT, x_orI, x_fRng1, x_fRng2, x_fEnum, x_fZip, x_fFor, x_forL0, x_fAug, x_fYes, x_lcT, x_fRstT, x_fRstV, x_ite, oIx, cutC, kl, Ce.lone, x_fCellV, x_fAppV, x_needV, x_upV, oIxV, x_fDNew, x_fSetdL, x_needW, x_setdL, x_fSrtS, x_fToM, x_fItems, x_fGet2, x_fDSub, x_needD, oGet2, oDSub, dictOf, keyD, oSortG, oSortP, orF, oCatT, oStr, x_fCount, x_fIndex, x_fRev, x_fPar3, datL, dat, atI, ixN, oAdd, orO, oI, oInt, oPowW, oIC, oMod, cPos, oDiv, cDiv, endF, oAddI, oSub, oLt, oLe, oGt, oGe, oMul, oMulG, oRepD, oRep, oI2, oMin2, oMax2, oMinL, oMaxL, oAll, oAny, oBools, oIn, oNotIn, oInD, oInSg, x_fChain, intsA, cellsOf, picks, renum, putB, Ce.alive, oSl, slOr, oSlD, oSlL, oLenG, orA, oLen, tru, permL, oSumL, oCatD, datO, oCat, oList, oRepr, oTuple, DL.isNon, oSlT, oSlS, oAddS, oEqG, oNeG, oEqS, oNeS, oEq, oNe, x_fRaise, x_fFrzL, x_frzL, x_fItemsI, x_fValsI, x_fKeysI, x_fDNewM, x_fDPut, x_putC, x_fL6, dsOf, oSortK, intKeys, x_fDSub, x_fTupC, x_fFrzN, oIxT, callT, endT, e1, hP])]
  rw [fSeq_ok (s' := ⟨[some (.c 0), some (.d (.int m)), some (.c 1), some (.d (.int (1 + p))), some (.d (.int (1 + q))), none, none, none, none], [.l st2, .l []]⟩) (by simp [x_bnd, x_ret, x_stuck, x_gets, x_fVar, x_fC, x_fOp, x_fNil, x_fCons, x_fCall, x_fDat, x_fCell, x_fLst, x_fTup, x_fTest, x_fTru, x_fAnd, x_fOr, x_fNot, x_fIf, x_asB, x_fAndV, x_fOrV, x_fNotV, x_fIsN, x_fNotN, x_frz, x_frzs0, x_frzs1, x_fFrz, x_fSeq, x_fNext, x_fExpr, x_fRet, x_fRetN, x_fAsg, x_kName, x_fPar, x_kNil, x_kCons, x_kTup, x_kSub, x_setIt, x_needL, x_upC, x_fApp, x_fPopAt, x_fPop, x_fSl, x_fNoP, x_fP, x_fDef, x_callD, x_fPerm, x_fIsi, x_fNeg, x_asL, x_asLt, x_asT, x_fItL, x_fItT, x_orI, x_fRng1, x_fRng2, x_fEnum, x_fZip, x_fFor, x_forL0, x_fAug, x_fYes, x_lcT, x_fRstT, x_fRstV, x_ite, oIx, cutC, kl, Ce.lone, x_fCellV, x_fAppV, x_needV, x_upV, oIxV, x_fDNew, x_fSetdL, x_needW, x_setdL, x_fSrtS, x_fToM, x_fItems, x_fGet2, x_fDSub, x_needD, oGet2, oDSub, dictOf, keyD, oSortG, oSortP, orF, oCatT, oStr, x_fCount, x_fIndex, x_fRev, x_fPar3, datL, dat, atI, ixN, oAdd, orO, oI, oInt, oPowW, oIC, oMod, cPos, oDiv, cDiv, endF, oAddI, oSub, oLt, oLe, oGt, oGe, oMul, oMulG, oRepD, oRep, oI2, oMin2, oMax2, oMinL, oMaxL, oAll, oAny, oBools, oIn, oNotIn, oInD, oInSg, x_fChain, intsA, cellsOf, picks, renum, putB, Ce.alive, oSl, slOr, oSlD, oSlL, oLenG, orA, oLen, tru, permL, oSumL, oCatD, datO, oCat, oList, oRepr, oTuple, DL.isNon, oSlT, oSlS, oAddS, oEqG, oNeG, oEqS, oNeS, oEq, oNe, x_fRaise, x_fFrzL, x_frzL, x_fItemsI, x_fValsI, x_fKeysI, x_fDNewM, x_fDPut, x_putC, x_fL6, dsOf, oSortK, intKeys, x_fDSub, x_fTupC, x_fFrzN, oIxT, callT, endT, e2, hQ])]
  obtain ⟨s', w1, a5, a6, a7, a8, st3, uss, rfl, w2, w3, w4⟩ := while_ind
    (c := fAnd (fTest (fOp oLt (fCall oLenG (fCons (fVar 2) fNil)) (fVar 1))) (fTest (fOp oGt (fOp oMod (fCall oInt (fCons (fDef g__law_next (fCons (fVar 0) fNil)) fNil)) (fC (.int 7))) (fC (.int 0)))))
    (b := fSeq (fAsg (fOp oAdd (fC (.int 5)) (fOp oMulG (fC (.int 5)) (fOp oMod (fCall oInt (fCons (fDef g__law_next (fCons (fVar 0) fNil)) fNil)) (fVar 3)))) (kName 5))
  (fSeq (fAsg (fDat (fLc (fRng1 (fCons (fOp oMod (fCall oInt (fCons (fDef g__law_next (fCons (fVar 0) fNil)) fNil)) (fC (.int 3))) fNil)) (kName 7) fYes (fOp oSub (fOp oSub (fVar 5) (fC (.int 1))) (fOp oMod (fCall oInt (fCons (fDef g__law_next (fCons (fVar 0) fNil)) fNil)) (fVar 4))) [7])) (kName 6))
  (fExpr (fApp (fVar 2) (fOp oAdd (fDat (fLst (fCons (fVar 5) fNil))) (fVar 6))))))
    (I := fun k s => ∃ (a5 a6 a7 a8 : Option Vl) (st : List D) (uss : List (List Int)), s = ⟨[some (.c 0), some (.d (.int m)), some (.c 1), some (.d (.int (1 + p))), some (.d (.int (1 + q))), a5, a6, a7, a8], [.l st, .l (uss.map il)]⟩ ∧ (uss.length : Int) + k = m ∧ (∀ u ∈ uss, u ≠ [] ∧ u.length ≤ 3 ∧ Rg u) ∧ Dr (n + 1 + 6 * k) st)
    (J := fun s => ∃ (a5 a6 a7 a8 : Option Vl) (st : List D) (uss : List (List Int)), s = ⟨[some (.c 0), some (.d (.int m)), some (.c 1), some (.d (.int (1 + p))), some (.d (.int (1 + q))), a5, a6, a7, a8], [.l st, .l (uss.map il)]⟩ ∧ (uss.length : Int) ≤ m ∧ (∀ u ∈ uss, u ≠ [] ∧ u.length ≤ 3 ∧ Rg u) ∧ Dr n st)
    (fun k s ⟨a5, a6, a7, a8, st, uss, e, h1, h2, h3⟩ => by
      subst e
      by_cases hk : (uss.length : Int) < m
      case neg => exact .inl ⟨_, by simp [x_bnd, x_ret, x_stuck, x_gets, x_fVar, x_fC, x_fOp, x_fNil, x_fCons, x_fCall, x_fDat, x_fCell, x_fLst, x_fTup, x_fTest, x_fTru, x_fAnd, x_fOr, x_fNot, x_fIf, x_asB, x_fAndV, x_fOrV, x_fNotV, x_fIsN, x_fNotN, x_frz, x_frzs0, x_frzs1, x_fFrz, x_fSeq, x_fNext, x_fExpr, x_fRet, x_fRetN, x_fAsg, x_kName, x_fPar, x_kNil, x_kCons, x_kTup, x_kSub, x_setIt, x_needL, x_upC, x_fApp, x_fPopAt, x_fPop, x_fSl, x_fNoP, x_fP, x_fDef, x_callD, x_fPerm, x_fIsi, x_fNeg, x_asL, x_asLt, x_asT, x_fItL, x_fItT, x_orI, x_fRng1, x_fRng2, x_fEnum, x_fZip, x_fFor, x_forL0, x_fAug, x_fYes, x_lcT, x_fRstT, x_fRstV, x_ite, oIx, cutC, kl, Ce.lone, x_fCellV, x_fAppV, x_needV, x_upV, oIxV, x_fDNew, x_fSetdL, x_needW, x_setdL, x_fSrtS, x_fToM, x_fItems, x_fGet2, x_fDSub, x_needD, oGet2, oDSub, dictOf, keyD, oSortG, oSortP, orF, oCatT, oStr, x_fCount, x_fIndex, x_fRev, x_fPar3, datL, dat, atI, ixN, oAdd, orO, oI, oInt, oPowW, oIC, oMod, cPos, oDiv, cDiv, endF, oAddI, oSub, oLt, oLe, oGt, oGe, oMul, oMulG, oRepD, oRep, oI2, oMin2, oMax2, oMinL, oMaxL, oAll, oAny, oBools, oIn, oNotIn, oInD, oInSg, x_fChain, intsA, cellsOf, picks, renum, putB, Ce.alive, oSl, slOr, oSlD, oSlL, oLenG, orA, oLen, tru, permL, oSumL, oCatD, datO, oCat, oList, oRepr, oTuple, DL.isNon, oSlT, oSlS, oAddS, oEqG, oNeG, oEqS, oNeS, oEq, oNe, x_fRaise, x_fFrzL, x_frzL, x_fItemsI, x_fValsI, x_fKeysI, x_fDNewM, x_fDPut, x_putC, x_fL6, dsOf, oSortK, intKeys, x_fDSub, x_fTupC, x_fFrzN, oIxT, callT, endT, hk], a5, a6, a7, a8, st, uss, rfl, by omega, h2, h3.mono (by omega)⟩
      obtain ⟨k, rfl⟩ : ∃ k', k = k' + 1 := ⟨k - 1, by omega⟩
      obtain ⟨t, sa, ea, t0, t1, da⟩ := next_ok (n := n + 6 * k + 6) (h3.mono (by omega))
      by_cases ht : 0 < t % 7
      case neg => exact .inl ⟨⟨[some (.c 0), some (.d (.int m)), some (.c 1), some (.d (.int (1 + p))), some (.d (.int (1 + q))), a5, a6, a7, a8], [.l sa, .l (uss.map il)]⟩, by simp [x_bnd, x_ret, x_stuck, x_gets, x_fVar, x_fC, x_fOp, x_fNil, x_fCons, x_fCall, x_fDat, x_fCell, x_fLst, x_fTup, x_fTest, x_fTru, x_fAnd, x_fOr, x_fNot, x_fIf, x_asB, x_fAndV, x_fOrV, x_fNotV, x_fIsN, x_fNotN, x_frz, x_frzs0, x_frzs1, x_fFrz, x_fSeq, x_fNext, x_fExpr, x_fRet, x_fRetN, x_fAsg, x_kName, x_fPar, x_kNil, x_kCons, x_kTup, x_kSub, x_setIt, x_needL, x_upC, x_fApp, x_fPopAt, x_fPop, x_fSl, x_fNoP, x_fP, x_fDef, x_callD, x_fPerm, x_fIsi, x_fNeg, x_asL, x_asLt, x_asT, x_fItL, x_fItT, x_orI, x_fRng1, x_fRng2, x_fEnum, x_fZip, x_fFor, x_forL0, x_fAug, x_fYes, x_lcT, x_fRstT, x_fRstV, x_ite, oIx, cutC, kl, Ce.lone, x_fCellV, x_fAppV, x_needV, x_upV, oIxV, x_fDNew, x_fSetdL, x_needW, x_setdL, x_fSrtS, x_fToM, x_fItems, x_fGet2, x_fDSub, x_needD, oGet2, oDSub, dictOf, keyD, oSortG, oSortP, orF, oCatT, oStr, x_fCount, x_fIndex, x_fRev, x_fPar3, datL, dat, atI, ixN, oAdd, orO, oI, oInt, oPowW, oIC, oMod, cPos, oDiv, cDiv, endF, oAddI, oSub, oLt, oLe, oGt, oGe, oMul, oMulG, oRepD, oRep, oI2, oMin2, oMax2, oMinL, oMaxL, oAll, oAny, oBools, oIn, oNotIn, oInD, oInSg, x_fChain, intsA, cellsOf, picks, renum, putB, Ce.alive, oSl, slOr, oSlD, oSlL, oLenG, orA, oLen, tru, permL, oSumL, oCatD, datO, oCat, oList, oRepr, oTuple, DL.isNon, oSlT, oSlS, oAddS, oEqG, oNeG, oEqS, oNeS, oEq, oNe, x_fRaise, x_fFrzL, x_frzL, x_fItemsI, x_fValsI, x_fKeysI, x_fDNewM, x_fDPut, x_putC, x_fL6, dsOf, oSortK, intKeys, x_fDSub, x_fTupC, x_fFrzN, oIxT, callT, endT, hk, ea, ht], a5, a6, a7, a8, sa, uss, rfl, by omega, h2, da.mono (by omega)⟩
      obtain ⟨x, sb, eb, x0, x1, db⟩ := next_ok (n := n + 6 * k + 5) da
      obtain ⟨y, sc, ec, y0, y1, dc⟩ := next_ok (n := n + 6 * k + 4) db
      have hp1 : (0 : Int) < 1 + p := by omega
      have hq1 : (0 : Int) < 1 + q := by omega
      have g0 : 0 ≤ x % (1 + p) := Int.emod_nonneg _ (by omega)
      have g1 : x % (1 + p) < 1 + p := Int.emod_lt_of_pos _ hp1
      generalize hX : x % (1 + p) = hx at g0 g1
      have z0 : 0 ≤ y % 3 ∧ y % 3 < 3 := by omega
      generalize hY : y % 3 = hy at z0
      have cm : cMul 5 hx = true := by simp only [cMul, decide_eq_true_eq]; omega
      obtain ⟨ys, ce', f1, f2, f3, sd, rfl, f4⟩ := lcL_all (k := kName 7) (e := fOp oSub (fOp oSub (fVar 5) (fC (.int 1))) (fOp oMod (fCall oInt (fCons (fDef g__law_next (fCons (fVar 0) fNil)) fNil)) (fVar 4))) (sl := [some (.c 0), some (.d (.int m)), some (.c 1), some (.d (.int (1 + p))), some (.d (.int (1 + q))), some (.d (.int (5 + 5 * hx))), a6, none, a8])
        (P := fun z => ∃ i : Int, z = .int i ∧ 3 ≤ i ∧ i ≤ 15) (I := fun j ce => ∃ st, ce = [.l st, .l (uss.map il)] ∧ Dr (j + (n + 6 * k + 1)) st) (fun w j ce ⟨st', e, hd⟩ => by
          subst e
          obtain ⟨u, st'', e2, u0, u1, d2⟩ := next_ok (n := j + (n + 6 * k + 1)) (hd.mono (by omega))
          have a0 : 0 ≤ u % (1 + q) := Int.emod_nonneg _ (by omega)
          have a1 : u % (1 + q) < 1 + q := Int.emod_lt_of_pos _ hq1
          refine ⟨.int (5 + 5 * hx - 1 - u % (1 + q)), ⟨[some (.c 0), some (.d (.int m)), some (.c 1), some (.d (.int (1 + p))), some (.d (.int (1 + q))), some (.d (.int (5 + 5 * hx))), a6, some (.d w), a8], [.l st'', .l (uss.map il)]⟩, ?_, ⟨_, rfl, by omega⟩, st'', rfl, d2⟩
          simp [x_bnd, x_ret, x_stuck, x_gets, x_fVar, x_fC, x_fOp, x_fNil, x_fCons, x_fCall, x_fDat, x_fCell, x_fLst, x_fTup, x_fTest, x_fTru, x_fAnd, x_fOr, x_fNot, x_fIf, x_asB, x_fAndV, x_fOrV, x_fNotV, x_fIsN, x_fNotN, x_frz, x_frzs0, x_frzs1, x_fFrz, x_fSeq, x_fNext, x_fExpr, x_fRet, x_fRetN, x_fAsg, x_kName, x_fPar, x_kNil, x_kCons, x_kTup, x_kSub, x_setIt, x_needL, x_upC, x_fApp, x_fPopAt, x_fPop, x_fSl, x_fNoP, x_fP, x_fDef, x_callD, x_fPerm, x_fIsi, x_fNeg, x_asL, x_asLt, x_asT, x_fItL, x_fItT, x_orI, x_fRng1, x_fRng2, x_fEnum, x_fZip, x_fFor, x_forL0, x_fAug, x_fYes, x_lcT, x_fRstT, x_fRstV, x_ite, oIx, cutC, kl, Ce.lone, x_fCellV, x_fAppV, x_needV, x_upV, oIxV, x_fDNew, x_fSetdL, x_needW, x_setdL, x_fSrtS, x_fToM, x_fItems, x_fGet2, x_fDSub, x_needD, oGet2, oDSub, dictOf, keyD, oSortG, oSortP, orF, oCatT, oStr, x_fCount, x_fIndex, x_fRev, x_fPar3, datL, dat, atI, ixN, oAdd, orO, oI, oInt, oPowW, oIC, oMod, cPos, oDiv, cDiv, endF, oAddI, oSub, oLt, oLe, oGt, oGe, oMul, oMulG, oRepD, oRep, oI2, oMin2, oMax2, oMinL, oMaxL, oAll, oAny, oBools, oIn, oNotIn, oInD, oInSg, x_fChain, intsA, cellsOf, picks, renum, putB, Ce.alive, oSl, slOr, oSlD, oSlL, oLenG, orA, oLen, tru, permL, oSumL, oCatD, datO, oCat, oList, oRepr, oTuple, DL.isNon, oSlT, oSlS, oAddS, oEqG, oNeG, oEqS, oNeS, oEq, oNe, x_fRaise, x_fFrzL, x_frzL, x_fItemsI, x_fValsI, x_fKeysI, x_fDNewM, x_fDPut, x_putC, x_fL6, dsOf, oSortK, intKeys, x_fDSub, x_fTupC, x_fFrzN, oIxT, callT, endT, e2, hq1]) (rng 0 hy.toNat) 0 [.l sc, .l (uss.map il)] ⟨sc, rfl, dc.mono (by rw [rng_len]; omega)⟩
      obtain ⟨ns, rfl, f5, f6⟩ := ints_of f3
      rw [rng_len] at f2
      have hlen : ns.length = hy.toNat := by rw [f5, f2]
      refine .inr ⟨⟨[some (.c 0), some (.d (.int m)), some (.c 1), some (.d (.int (1 + p))), some (.d (.int (1 + q))), a5, a6, a7, a8], [.l sa, .l (uss.map il)]⟩, ⟨[some (.c 0), some (.d (.int m)), some (.c 1), some (.d (.int (1 + p))), some (.d (.int (1 + q))), some (.d (.int (5 + 5 * hx))), some (.d (il ns)), a7, a8], [.l sd, .l ((uss ++ [(5 + 5 * hx) :: ns]).map il)]⟩, k, by simp [x_bnd, x_ret, x_stuck, x_gets, x_fVar, x_fC, x_fOp, x_fNil, x_fCons, x_fCall, x_fDat, x_fCell, x_fLst, x_fTup, x_fTest, x_fTru, x_fAnd, x_fOr, x_fNot, x_fIf, x_asB, x_fAndV, x_fOrV, x_fNotV, x_fIsN, x_fNotN, x_frz, x_frzs0, x_frzs1, x_fFrz, x_fSeq, x_fNext, x_fExpr, x_fRet, x_fRetN, x_fAsg, x_kName, x_fPar, x_kNil, x_kCons, x_kTup, x_kSub, x_setIt, x_needL, x_upC, x_fApp, x_fPopAt, x_fPop, x_fSl, x_fNoP, x_fP, x_fDef, x_callD, x_fPerm, x_fIsi, x_fNeg, x_asL, x_asLt, x_asT, x_fItL, x_fItT, x_orI, x_fRng1, x_fRng2, x_fEnum, x_fZip, x_fFor, x_forL0, x_fAug, x_fYes, x_lcT, x_fRstT, x_fRstV, x_ite, oIx, cutC, kl, Ce.lone, x_fCellV, x_fAppV, x_needV, x_upV, oIxV, x_fDNew, x_fSetdL, x_needW, x_setdL, x_fSrtS, x_fToM, x_fItems, x_fGet2, x_fDSub, x_needD, oGet2, oDSub, dictOf, keyD, oSortG, oSortP, orF, oCatT, oStr, x_fCount, x_fIndex, x_fRev, x_fPar3, datL, dat, atI, ixN, oAdd, orO, oI, oInt, oPowW, oIC, oMod, cPos, oDiv, cDiv, endF, oAddI, oSub, oLt, oLe, oGt, oGe, oMul, oMulG, oRepD, oRep, oI2, oMin2, oMax2, oMinL, oMaxL, oAll, oAny, oBools, oIn, oNotIn, oInD, oInSg, x_fChain, intsA, cellsOf, picks, renum, putB, Ce.alive, oSl, slOr, oSlD, oSlL, oLenG, orA, oLen, tru, permL, oSumL, oCatD, datO, oCat, oList, oRepr, oTuple, DL.isNon, oSlT, oSlS, oAddS, oEqG, oNeG, oEqS, oNeS, oEq, oNe, x_fRaise, x_fFrzL, x_frzL, x_fItemsI, x_fValsI, x_fKeysI, x_fDNewM, x_fDPut, x_putC, x_fL6, dsOf, oSortK, intKeys, x_fDSub, x_fTupC, x_fFrzN, oIxT, callT, endT, hk, ea, ht], ?_, by omega, _, _, _, _, sd, uss ++ [(5 + 5 * hx) :: ns], rfl, by simp only [List.length_append, List.length_cons, List.length_nil]; omega, ?_, f4.mono (by omega)⟩
      · rw [fSeq_ok (s' := ⟨[some (.c 0), some (.d (.int m)), some (.c 1), some (.d (.int (1 + p))), some (.d (.int (1 + q))), some (.d (.int (5 + 5 * hx))), a6, a7, a8], [.l sb, .l (uss.map il)]⟩) (by simp [x_bnd, x_ret, x_stuck, x_gets, x_fVar, x_fC, x_fOp, x_fNil, x_fCons, x_fCall, x_fDat, x_fCell, x_fLst, x_fTup, x_fTest, x_fTru, x_fAnd, x_fOr, x_fNot, x_fIf, x_asB, x_fAndV, x_fOrV, x_fNotV, x_fIsN, x_fNotN, x_frz, x_frzs0, x_frzs1, x_fFrz, x_fSeq, x_fNext, x_fExpr, x_fRet, x_fRetN, x_fAsg, x_kName, x_fPar, x_kNil, x_kCons, x_kTup, x_kSub, x_setIt, x_needL, x_upC, x_fApp, x_fPopAt, x_fPop, x_fSl, x_fNoP, x_fP, x_fDef, x_callD, x_fPerm, x_fIsi, x_fNeg, x_asL, x_asLt, x_asT, x_fItL, x_fItT, x_orI, x_fRng1, x_fRng2, x_fEnum, x_fZip, x_fFor, x_forL0, x_fAug, x_fYes, x_lcT, x_fRstT, x_fRstV, x_ite, oIx, cutC, kl, Ce.lone, x_fCellV, x_fAppV, x_needV, x_upV, oIxV, x_fDNew, x_fSetdL, x_needW, x_setdL, x_fSrtS, x_fToM, x_fItems, x_fGet2, x_fDSub, x_needD, oGet2, oDSub, dictOf, keyD, oSortG, oSortP, orF, oCatT, oStr, x_fCount, x_fIndex, x_fRev, x_fPar3, datL, dat, atI, ixN, oAdd, orO, oI, oInt, oPowW, oIC, oMod, cPos, oDiv, cDiv, endF, oAddI, oSub, oLt, oLe, oGt, oGe, oMul, oMulG, oRepD, oRep, oI2, oMin2, oMax2, oMinL, oMaxL, oAll, oAny, oBools, oIn, oNotIn, oInD, oInSg, x_fChain, intsA, cellsOf, picks, renum, putB, Ce.alive, oSl, slOr, oSlD, oSlL, oLenG, orA, oLen, tru, permL, oSumL, oCatD, datO, oCat, oList, oRepr, oTuple, DL.isNon, oSlT, oSlS, oAddS, oEqG, oNeG, oEqS, oNeS, oEq, oNe, x_fRaise, x_fFrzL, x_frzL, x_fItemsI, x_fValsI, x_fKeysI, x_fDNewM, x_fDPut, x_putC, x_fL6, dsOf, oSortK, intKeys, x_fDSub, x_fTupC, x_fFrzN, oIxT, callT, endT, eb, hp1, hX, cm])]
        have hr : fRng1 (fCons (fOp oMod (fCall oInt (fCons (fDef g__law_next (fCons (fVar 0) fNil)) fNil)) (fC (.int 3))) fNil) ⟨[some (.c 0), some (.d (.int m)), some (.c 1), some (.d (.int (1 + p))), some (.d (.int (1 + q))), some (.d (.int (5 + 5 * hx))), a6, a7, a8], [.l sb, .l (uss.map il)]⟩ = .ok (rng 0 hy.toNat) ⟨[some (.c 0), some (.d (.int m)), some (.c 1), some (.d (.int (1 + p))), some (.d (.int (1 + q))), some (.d (.int (5 + 5 * hx))), a6, a7, a8], [.l sc, .l (uss.map il)]⟩ := by
          have hb : -1000000000 ≤ hy ∧ hy ≤ 1000000000 := by omega
          simp [x_bnd, x_ret, x_stuck, x_gets, x_fVar, x_fC, x_fOp, x_fNil, x_fCons, x_fCall, x_fDat, x_fCell, x_fLst, x_fTup, x_fTest, x_fTru, x_fAnd, x_fOr, x_fNot, x_fIf, x_asB, x_fAndV, x_fOrV, x_fNotV, x_fIsN, x_fNotN, x_frz, x_frzs0, x_frzs1, x_fFrz, x_fSeq, x_fNext, x_fExpr, x_fRet, x_fRetN, x_fAsg, x_kName, x_fPar, x_kNil, x_kCons, x_kTup, x_kSub, x_setIt, x_needL, x_upC, x_fApp, x_fPopAt, x_fPop, x_fSl, x_fNoP, x_fP, x_fDef, x_callD, x_fPerm, x_fIsi, x_fNeg, x_asL, x_asLt, x_asT, x_fItL, x_fItT, x_orI, x_fRng1, x_fRng2, x_fEnum, x_fZip, x_fFor, x_forL0, x_fAug, x_fYes, x_lcT, x_fRstT, x_fRstV, x_ite, oIx, cutC, kl, Ce.lone, x_fCellV, x_fAppV, x_needV, x_upV, oIxV, x_fDNew, x_fSetdL, x_needW, x_setdL, x_fSrtS, x_fToM, x_fItems, x_fGet2, x_fDSub, x_needD, oGet2, oDSub, dictOf, keyD, oSortG, oSortP, orF, oCatT, oStr, x_fCount, x_fIndex, x_fRev, x_fPar3, datL, dat, atI, ixN, oAdd, orO, oI, oInt, oPowW, oIC, oMod, cPos, oDiv, cDiv, endF, oAddI, oSub, oLt, oLe, oGt, oGe, oMul, oMulG, oRepD, oRep, oI2, oMin2, oMax2, oMinL, oMaxL, oAll, oAny, oBools, oIn, oNotIn, oInD, oInSg, x_fChain, intsA, cellsOf, picks, renum, putB, Ce.alive, oSl, slOr, oSlD, oSlL, oLenG, orA, oLen, tru, permL, oSumL, oCatD, datO, oCat, oList, oRepr, oTuple, DL.isNon, oSlT, oSlS, oAddS, oEqG, oNeG, oEqS, oNeS, oEq, oNe, x_fRaise, x_fFrzL, x_frzL, x_fItemsI, x_fValsI, x_fKeysI, x_fDNewM, x_fDPut, x_putC, x_fL6, dsOf, oSortK, intKeys, x_fDSub, x_fTupC, x_fFrzN, oIxT, callT, endT, ec, hY, hb]
        have hlc := fLc_ok (vs := [7]) hr (by rw [rng_len]; omega) f1
        rw [fSeq_ok (s' := ⟨[some (.c 0), some (.d (.int m)), some (.c 1), some (.d (.int (1 + p))), some (.d (.int (1 + q))), some (.d (.int (5 + 5 * hx))), some (.d (il ns)), a7, a8], [.l sd, .l (uss.map il)]⟩) (by simp [x_fAsg, x_fDat, x_bnd, hlc, x_ret, x_kName])]
        have hns : 1 + ns.length ≤ 1000000 := by omega
        have hus : uss.length < 1000000 := by omega
        simp [x_bnd, x_ret, x_stuck, x_gets, x_fVar, x_fC, x_fOp, x_fNil, x_fCons, x_fCall, x_fDat, x_fCell, x_fLst, x_fTup, x_fTest, x_fTru, x_fAnd, x_fOr, x_fNot, x_fIf, x_asB, x_fAndV, x_fOrV, x_fNotV, x_fIsN, x_fNotN, x_frz, x_frzs0, x_frzs1, x_fFrz, x_fSeq, x_fNext, x_fExpr, x_fRet, x_fRetN, x_fAsg, x_kName, x_fPar, x_kNil, x_kCons, x_kTup, x_kSub, x_setIt, x_needL, x_upC, x_fApp, x_fPopAt, x_fPop, x_fSl, x_fNoP, x_fP, x_fDef, x_callD, x_fPerm, x_fIsi, x_fNeg, x_asL, x_asLt, x_asT, x_fItL, x_fItT, x_orI, x_fRng1, x_fRng2, x_fEnum, x_fZip, x_fFor, x_forL0, x_fAug, x_fYes, x_lcT, x_fRstT, x_fRstV, x_ite, oIx, cutC, kl, Ce.lone, x_fCellV, x_fAppV, x_needV, x_upV, oIxV, x_fDNew, x_fSetdL, x_needW, x_setdL, x_fSrtS, x_fToM, x_fItems, x_fGet2, x_fDSub, x_needD, oGet2, oDSub, dictOf, keyD, oSortG, oSortP, orF, oCatT, oStr, x_fCount, x_fIndex, x_fRev, x_fPar3, datL, dat, atI, ixN, oAdd, orO, oI, oInt, oPowW, oIC, oMod, cPos, oDiv, cDiv, endF, oAddI, oSub, oLt, oLe, oGt, oGe, oMul, oMulG, oRepD, oRep, oI2, oMin2, oMax2, oMinL, oMaxL, oAll, oAny, oBools, oIn, oNotIn, oInD, oInSg, x_fChain, intsA, cellsOf, picks, renum, putB, Ce.alive, oSl, slOr, oSlD, oSlL, oLenG, orA, oLen, tru, permL, oSumL, oCatD, datO, oCat, oList, oRepr, oTuple, DL.isNon, oSlT, oSlS, oAddS, oEqG, oNeG, oEqS, oNeS, oEq, oNe, x_fRaise, x_fFrzL, x_frzL, x_fItemsI, x_fValsI, x_fKeysI, x_fDNewM, x_fDPut, x_putC, x_fL6, dsOf, oSortK, intKeys, x_fDSub, x_fTupC, x_fFrzN, oIxT, callT, endT, hns, hus]
      · intro u hu
        rcases List.mem_append.mp hu with hu | hu
        · exact h2 u hu
        · simp at hu
          subst hu
          refine ⟨by simp, by simp only [List.length_cons]; omega, fun i hi => ?_⟩
          rcases List.mem_cons.mp hi with rfl | hi
          · omega
          · exact f6 i hi)
    m.toNat ⟨[some (.c 0), some (.d (.int m)), some (.c 1), some (.d (.int (1 + p))), some (.d (.int (1 + q))), none, none, none, none], [.l st2, .l []]⟩ ⟨none, none, none, none, st2, [], rfl, by simp; omega, by simp, d2.mono (by omega)⟩
  rw [fSeq_ok w1]
  have hne : ∀ u ∈ uss, u ≠ [] := fun u hu => (w3 u hu).1
  have hul : uss.length ≤ 1000 := by omega
  have s5 := row_sel (m := m) (hd := some (.d (.int (1 + p)))) (tl := some (.d (.int (1 + q)))) (tx := a6) (h := 5) (st := st3) (.l (uss.map il)) (.inl rfl) hne hul (a7 := a7) (a8 := a8)
  have s10 := row_sel (m := m) (hd := some (.d (.int (1 + p)))) (tl := some (.d (.int (1 + q)))) (tx := a6) (h := 10) (st := st3) (.f (uss.map il)) (.inr rfl) hne hul (a7 := a7) (a8 := a8)
  have s15 := row_sel (m := m) (hd := some (.d (.int (1 + p)))) (tl := some (.d (.int (1 + q)))) (tx := a6) (h := 15) (st := st3) (.f (uss.map il)) (.inr rfl) hne hul (a7 := a7) (a8 := a8)
  generalize hA : uss.filter (fun u => decide (u.head? = some 5)) = A5 at s5
  generalize hB : uss.filter (fun u => decide (u.head? = some 10)) = A10 at s10
  generalize hC : uss.filter (fun u => decide (u.head? = some 15)) = A15 at s15
  have lA : A5.length ≤ uss.length := by rw [← hA]; exact List.length_filter_le _ _
  have lB : A10.length ≤ uss.length := by rw [← hB]; exact List.length_filter_le _ _
  have lC : A15.length ≤ uss.length := by rw [← hC]; exact List.length_filter_le _ _
  have lS : A5.length + A10.length + A15.length ≤ uss.length := by rw [← hA, ← hB, ← hC]; exact filt3 uss
  have mA : ∀ u ∈ A5 ++ A10 ++ A15, u.length ≤ 3 ∧ Rg u := fun u hu => by
    have : u ∈ uss := by
      rcases List.mem_append.mp hu with hu | hu
      · rcases List.mem_append.mp hu with hu | hu
        · rw [← hA] at hu; exact (List.mem_filter.mp hu).1
        · rw [← hB] at hu; exact (List.mem_filter.mp hu).1
      · rw [← hC] at hu; exact (List.mem_filter.mp hu).1
    exact ⟨(w3 u this).2.1, (w3 u this).2.2⟩
  have fl : ∀ (l : List (List Int)), (∀ u ∈ l, u.length ≤ 3 ∧ Rg u) → l.flatten.length ≤ 3 * l.length ∧ Rg l.flatten := fun l => by
    induction l with
    | nil => intro _; exact ⟨by simp, fun x hx => by simp at hx⟩
    | cons u l ih =>
      intro hl
      obtain ⟨q1, q2⟩ := ih fun v hv => hl v (List.mem_cons_of_mem _ hv)
      obtain ⟨q3, q4⟩ := hl u List.mem_cons_self
      refine ⟨by simp only [List.flatten_cons, List.length_append, List.length_cons]; omega, fun x hx => ?_⟩
      rw [List.flatten_cons] at hx
      rcases List.mem_append.mp hx with hx | hx
      · exact q4 x hx
      · exact q2 x hx
  obtain ⟨q1, q2⟩ := fl _ mA
  simp only [List.length_append] at q1
  refine ⟨(A5 ++ A10 ++ A15).flatten, st3, ?_, by omega, q2, w4⟩
  have hsum : A5.length + (A10.length + A15.length) ≤ 1000000 := by omega
  have hlc : (fLc (orI (fItL (fDat (fLst (fCons (fC (.int 5)) (fCons (fC (.int 10)) (fCons (fC (.int 15)) fNil)))))) (fItT (fDat (fLst (fCons (fC (.int 5)) (fCons (fC (.int 10)) (fCons (fC (.int 15)) fNil))))))) (kName 5) fYes (fDat (fLc (orI (fItL (fFrz (fVar 2))) (fItT (fFrz (fVar 2)))) (kName 8) (fTest (fOp oEqG (fOp oIx (fVar 8) (fC (.int 0))) (fVar 5))) (fVar 8) [8])) [5])
      ⟨[some (.c 0), some (.d (.int m)), some (.c 1), some (.d (.int (1 + p))), some (.d (.int (1 + q))), a5, a6, a7, a8], [.l st3, .l (uss.map il)]⟩ = .ok [.list (A5.map il), .list (A10.map il), .list (A15.map il)] ⟨[some (.c 0), some (.d (.int m)), some (.c 1), some (.d (.int (1 + p))), some (.d (.int (1 + q))), a5, a6, a7, a8], [.l st3, .f (uss.map il)]⟩ := by
    refine fLc_ok (s1 := ⟨[some (.c 0), some (.d (.int m)), some (.c 1), some (.d (.int (1 + p))), some (.d (.int (1 + q))), a5, a6, a7, a8], [.l st3, .l (uss.map il)]⟩) (xs := [.int 5, .int 10, .int 15]) (s2 := ⟨[some (.c 0), some (.d (.int m)), some (.c 1), some (.d (.int (1 + p))), some (.d (.int (1 + q))), none, a6, a7, a8], [.l st3, .f (uss.map il)]⟩) (by simp [x_bnd, x_ret, x_stuck, x_gets, x_fVar, x_fC, x_fOp, x_fNil, x_fCons, x_fCall, x_fDat, x_fCell, x_fLst, x_fTup, x_fTest, x_fTru, x_fAnd, x_fOr, x_fNot, x_fIf, x_asB, x_fAndV, x_fOrV, x_fNotV, x_fIsN, x_fNotN, x_frz, x_frzs0, x_frzs1, x_fFrz, x_fSeq, x_fNext, x_fExpr, x_fRet, x_fRetN, x_fAsg, x_kName, x_fPar, x_kNil, x_kCons, x_kTup, x_kSub, x_setIt, x_needL, x_upC, x_fApp, x_fPopAt, x_fPop, x_fSl, x_fNoP, x_fP, x_fDef, x_callD, x_fPerm, x_fIsi, x_fNeg, x_asL, x_asLt, x_asT, x_fItL, x_fItT, x_orI, x_fRng1, x_fRng2, x_fEnum, x_fZip, x_fFor, x_forL0, x_fAug, x_fYes, x_lcT, x_fRstT, x_fRstV, x_ite, oIx, cutC, kl, Ce.lone, x_fCellV, x_fAppV, x_needV, x_upV, oIxV, x_fDNew, x_fSetdL, x_needW, x_setdL, x_fSrtS, x_fToM, x_fItems, x_fGet2, x_fDSub, x_needD, oGet2, oDSub, dictOf, keyD, oSortG, oSortP, orF, oCatT, oStr, x_fCount, x_fIndex, x_fRev, x_fPar3, datL, dat, atI, ixN, oAdd, orO, oI, oInt, oPowW, oIC, oMod, cPos, oDiv, cDiv, endF, oAddI, oSub, oLt, oLe, oGt, oGe, oMul, oMulG, oRepD, oRep, oI2, oMin2, oMax2, oMinL, oMaxL, oAll, oAny, oBools, oIn, oNotIn, oInD, oInSg, x_fChain, intsA, cellsOf, picks, renum, putB, Ce.alive, oSl, slOr, oSlD, oSlL, oLenG, orA, oLen, tru, permL, oSumL, oCatD, datO, oCat, oList, oRepr, oTuple, DL.isNon, oSlT, oSlS, oAddS, oEqG, oNeG, oEqS, oNeS, oEq, oNe, x_fRaise, x_fFrzL, x_frzL, x_fItemsI, x_fValsI, x_fKeysI, x_fDNewM, x_fDPut, x_putC, x_fL6, dsOf, oSortK, intKeys, x_fDSub, x_fTupC, x_fFrzN, oIxT, callT, endT]) (by simp) ?_
    simp only [lcL, x_lcT, x_bnd, x_kName, x_fYes, x_fFrz, wipe1, List.set_cons_succ, List.set_cons_zero, s5, s10, s15, x_frz, x_ret, if_true, List.length_cons, List.length_nil, List.take, cutC, List.map_cons, List.map_nil, kl]
    rfl
  have sA : ∀ s, oSumL [.d (.list [.list (A5.map il), .list (A10.map il), .list (A15.map il)]), .d (.list [])] s = some (.d (.list ((A5 ++ A10 ++ A15).map il))) := fun s => by
    simp only [oSumL, datL, dat, listsOf, Option.map_some]
    rw [if_pos (by simp; omega)]
    simp
  have sB := sum_il (A5 ++ A10 ++ A15) (by omega)
  generalize A5 ++ A10 ++ A15 = AA at sA sB
  simp [x_fRet, x_fCall, x_fCons, x_bnd, x_fDat, hlc, x_ret, x_gets, x_fLst, x_fNil, x_frzs0, sA, sB, endF]
  rfl

/-- merging -/
def mrg : List Int → List Int → List Int
  | [], ys => ys
  | x :: xs, [] => x :: xs
  | x :: xs, y :: ys => if y < x then y :: mrg (x :: xs) ys else x :: mrg xs (y :: ys)
termination_by xs ys => xs.length + ys.length
theorem mrg_nl (ys : List Int) : mrg [] ys = ys := by simp [mrg]
theorem mrg_nr (xs : List Int) : mrg xs [] = xs := by cases xs <;> simp [mrg]
theorem mrg_lt {x y : Int} (xs ys : List Int) (h : y < x) : mrg (x :: xs) (y :: ys) = y :: mrg (x :: xs) ys := by rw [mrg, if_pos h]
theorem mrg_ge {x y : Int} (xs ys : List Int) (h : ¬ y < x) : mrg (x :: xs) (y :: ys) = x :: mrg xs (y :: ys) := by rw [mrg, if_neg h]
theorem mrg_perm : ∀ (n : Nat) (xs ys : List Int), xs.length + ys.length = n → (mrg xs ys).Perm (xs ++ ys) := fun n => by
  induction n using Nat.strongRecOn with
  | _ n ih =>
    intro xs ys hn
    cases xs with
    | nil => rw [mrg_nl]; exact List.Perm.refl _
    | cons x xs =>
      cases ys with
      | nil => rw [mrg_nr, List.append_nil]
      | cons y ys =>
        simp only [List.length_cons] at hn
        by_cases h : y < x
        · rw [mrg_lt _ _ h]
          have := ih (n - 1) (by omega) (x :: xs) ys (by simp only [List.length_cons]; omega)
          exact (this.cons y).trans List.perm_middle.symm
        · rw [mrg_ge _ _ h]
          exact (ih (n - 1) (by omega) xs (y :: ys) (by simp only [List.length_cons]; omega)).cons x
theorem mrg_len (xs ys : List Int) : (mrg xs ys).length = xs.length + ys.length := by
  rw [(mrg_perm _ xs ys rfl).length_eq, List.length_append]
theorem mrg_bdd {b : Nat} {xs ys : List Int} (h1 : Bdd b xs) (h2 : Bdd b ys) : Bdd b (mrg xs ys) := fun x hx => by
  rcases List.mem_append.mp ((mrg_perm _ xs ys rfl).mem_iff.mp hx) with h | h
  · exact h1 x h
  · exact h2 x h

theorem flat_ints (ns : List Int) : (ns.map PyData.int).all flat = true := by
  rw [List.all_eq_true]
  intro x hx
  obtain ⟨i, _, rfl⟩ := List.mem_map.mp hx
  rfl
theorem sq0 (n : Nat) : seqIndex? 0 (n + 1) = some 0 := by simp [seqIndex?]
theorem lmerged_ok {xs ys : List Int} (hl : xs.length + ys.length ≤ 100000) : g__law_merged [.d (il xs), .d (il ys)] [] = .ok (.d (il (mrg xs ys))) [] := by
  unfold g__law_merged mkF
  simp only [List.length_cons, List.length_nil, if_true, body__law_merged, List.map_cons, List.map_nil, List.cons_append, List.nil_append]
  by_cases h0 : xs = [] ∨ ys = []
  · have e : xs ++ ys = mrg xs ys := by
      rcases h0 with rfl | rfl
      · rw [mrg_nl]; rfl
      · rw [mrg_nr, List.append_nil]
    have hb : xs.length + ys.length ≤ 1000000 := by omega
    rcases h0 with rfl | rfl
    · simp at hb
      simp [x_bnd, x_ret, x_stuck, x_gets, x_fVar, x_fC, x_fOp, x_fNil, x_fCons, x_fCall, x_fDat, x_fCell, x_fLst, x_fTup, x_fTest, x_fTru, x_fAnd, x_fOr, x_fNot, x_fIf, x_asB, x_fAndV, x_fOrV, x_fNotV, x_fIsN, x_fNotN, x_frz, x_frzs0, x_frzs1, x_fFrz, x_fSeq, x_fNext, x_fExpr, x_fRet, x_fRetN, x_fAsg, x_kName, x_fPar, x_kNil, x_kCons, x_kTup, x_kSub, x_setIt, x_needL, x_upC, x_fApp, x_fPopAt, x_fPop, x_fSl, x_fNoP, x_fP, x_fDef, x_callD, x_fPerm, x_fIsi, x_fNeg, x_asL, x_asLt, x_asT, x_fItL, x_fItT, x_orI, x_fRng1, x_fRng2, x_fEnum, x_fZip, x_fFor, x_forL0, x_fAug, x_fYes, x_lcT, x_fRstT, x_fRstV, x_ite, oIx, cutC, kl, Ce.lone, x_fCellV, x_fAppV, x_needV, x_upV, oIxV, x_fDNew, x_fSetdL, x_needW, x_setdL, x_fSrtS, x_fToM, x_fItems, x_fGet2, x_fDSub, x_needD, oGet2, oDSub, dictOf, keyD, oSortG, oSortP, orF, oCatT, oStr, x_fCount, x_fIndex, x_fRev, x_fPar3, datL, dat, atI, ixN, oAdd, orO, oI, oInt, oPowW, oIC, oMod, cPos, oDiv, cDiv, endF, oAddI, oSub, oLt, oLe, oGt, oGe, oMul, oMulG, oRepD, oRep, oI2, oMin2, oMax2, oMinL, oMaxL, oAll, oAny, oBools, oIn, oNotIn, oInD, oInSg, x_fChain, intsA, cellsOf, picks, renum, putB, Ce.alive, oSl, slOr, oSlD, oSlL, oLenG, orA, oLen, tru, permL, oSumL, oCatD, datO, oCat, oList, oRepr, oTuple, DL.isNon, oSlT, oSlS, oAddS, oEqG, oNeG, oEqS, oNeS, oEq, oNe, x_fRaise, x_fFrzL, x_frzL, x_fItemsI, x_fValsI, x_fKeysI, x_fDNewM, x_fDPut, x_putC, x_fL6, dsOf, oSortK, intKeys, x_fDSub, x_fTupC, x_fFrzN, oIxT, callT, endT, okE_il, okE_nil, eqv_il_nil, hb, ← e, PyData.eqv, PyData.eqvAll]
    · simp at hb
      by_cases hx : xs = []
      · subst hx
        simp [x_bnd, x_ret, x_stuck, x_gets, x_fVar, x_fC, x_fOp, x_fNil, x_fCons, x_fCall, x_fDat, x_fCell, x_fLst, x_fTup, x_fTest, x_fTru, x_fAnd, x_fOr, x_fNot, x_fIf, x_asB, x_fAndV, x_fOrV, x_fNotV, x_fIsN, x_fNotN, x_frz, x_frzs0, x_frzs1, x_fFrz, x_fSeq, x_fNext, x_fExpr, x_fRet, x_fRetN, x_fAsg, x_kName, x_fPar, x_kNil, x_kCons, x_kTup, x_kSub, x_setIt, x_needL, x_upC, x_fApp, x_fPopAt, x_fPop, x_fSl, x_fNoP, x_fP, x_fDef, x_callD, x_fPerm, x_fIsi, x_fNeg, x_asL, x_asLt, x_asT, x_fItL, x_fItT, x_orI, x_fRng1, x_fRng2, x_fEnum, x_fZip, x_fFor, x_forL0, x_fAug, x_fYes, x_lcT, x_fRstT, x_fRstV, x_ite, oIx, cutC, kl, Ce.lone, x_fCellV, x_fAppV, x_needV, x_upV, oIxV, x_fDNew, x_fSetdL, x_needW, x_setdL, x_fSrtS, x_fToM, x_fItems, x_fGet2, x_fDSub, x_needD, oGet2, oDSub, dictOf, keyD, oSortG, oSortP, orF, oCatT, oStr, x_fCount, x_fIndex, x_fRev, x_fPar3, datL, dat, atI, ixN, oAdd, orO, oI, oInt, oPowW, oIC, oMod, cPos, oDiv, cDiv, endF, oAddI, oSub, oLt, oLe, oGt, oGe, oMul, oMulG, oRepD, oRep, oI2, oMin2, oMax2, oMinL, oMaxL, oAll, oAny, oBools, oIn, oNotIn, oInD, oInSg, x_fChain, intsA, cellsOf, picks, renum, putB, Ce.alive, oSl, slOr, oSlD, oSlL, oLenG, orA, oLen, tru, permL, oSumL, oCatD, datO, oCat, oList, oRepr, oTuple, DL.isNon, oSlT, oSlS, oAddS, oEqG, oNeG, oEqS, oNeS, oEq, oNe, x_fRaise, x_fFrzL, x_frzL, x_fItemsI, x_fValsI, x_fKeysI, x_fDNewM, x_fDPut, x_putC, x_fL6, dsOf, oSortK, intKeys, x_fDSub, x_fTupC, x_fFrzN, oIxT, callT, endT, okE_il, okE_nil, eqv_il_nil, ← e, PyData.eqv, PyData.eqvAll]
      · simp [x_bnd, x_ret, x_stuck, x_gets, x_fVar, x_fC, x_fOp, x_fNil, x_fCons, x_fCall, x_fDat, x_fCell, x_fLst, x_fTup, x_fTest, x_fTru, x_fAnd, x_fOr, x_fNot, x_fIf, x_asB, x_fAndV, x_fOrV, x_fNotV, x_fIsN, x_fNotN, x_frz, x_frzs0, x_frzs1, x_fFrz, x_fSeq, x_fNext, x_fExpr, x_fRet, x_fRetN, x_fAsg, x_kName, x_fPar, x_kNil, x_kCons, x_kTup, x_kSub, x_setIt, x_needL, x_upC, x_fApp, x_fPopAt, x_fPop, x_fSl, x_fNoP, x_fP, x_fDef, x_callD, x_fPerm, x_fIsi, x_fNeg, x_asL, x_asLt, x_asT, x_fItL, x_fItT, x_orI, x_fRng1, x_fRng2, x_fEnum, x_fZip, x_fFor, x_forL0, x_fAug, x_fYes, x_lcT, x_fRstT, x_fRstV, x_ite, oIx, cutC, kl, Ce.lone, x_fCellV, x_fAppV, x_needV, x_upV, oIxV, x_fDNew, x_fSetdL, x_needW, x_setdL, x_fSrtS, x_fToM, x_fItems, x_fGet2, x_fDSub, x_needD, oGet2, oDSub, dictOf, keyD, oSortG, oSortP, orF, oCatT, oStr, x_fCount, x_fIndex, x_fRev, x_fPar3, datL, dat, atI, ixN, oAdd, orO, oI, oInt, oPowW, oIC, oMod, cPos, oDiv, cDiv, endF, oAddI, oSub, oLt, oLe, oGt, oGe, oMul, oMulG, oRepD, oRep, oI2, oMin2, oMax2, oMinL, oMaxL, oAll, oAny, oBools, oIn, oNotIn, oInD, oInSg, x_fChain, intsA, cellsOf, picks, renum, putB, Ce.alive, oSl, slOr, oSlD, oSlL, oLenG, orA, oLen, tru, permL, oSumL, oCatD, datO, oCat, oList, oRepr, oTuple, DL.isNon, oSlT, oSlS, oAddS, oEqG, oNeG, oEqS, oNeS, oEq, oNe, x_fRaise, x_fFrzL, x_frzL, x_fItemsI, x_fValsI, x_fKeysI, x_fDNewM, x_fDPut, x_putC, x_fL6, dsOf, oSortK, intKeys, x_fDSub, x_fTupC, x_fFrzN, oIxT, callT, endT, okE_il, okE_nil, eqv_il_nil, hb, hx, ← e, PyData.eqv, PyData.eqvAll]
  · have hx : xs ≠ [] := fun z => h0 (.inl z)
    have hy : ys ≠ [] := fun z => h0 (.inr z)
    rw [fSeq_ok (s' := ⟨[some (.d (il xs)), some (.d (il ys)), none, none, none], []⟩) (by simp [x_bnd, x_ret, x_stuck, x_gets, x_fVar, x_fC, x_fOp, x_fNil, x_fCons, x_fCall, x_fDat, x_fCell, x_fLst, x_fTup, x_fTest, x_fTru, x_fAnd, x_fOr, x_fNot, x_fIf, x_asB, x_fAndV, x_fOrV, x_fNotV, x_fIsN, x_fNotN, x_frz, x_frzs0, x_frzs1, x_fFrz, x_fSeq, x_fNext, x_fExpr, x_fRet, x_fRetN, x_fAsg, x_kName, x_fPar, x_kNil, x_kCons, x_kTup, x_kSub, x_setIt, x_needL, x_upC, x_fApp, x_fPopAt, x_fPop, x_fSl, x_fNoP, x_fP, x_fDef, x_callD, x_fPerm, x_fIsi, x_fNeg, x_asL, x_asLt, x_asT, x_fItL, x_fItT, x_orI, x_fRng1, x_fRng2, x_fEnum, x_fZip, x_fFor, x_forL0, x_fAug, x_fYes, x_lcT, x_fRstT, x_fRstV, x_ite, oIx, cutC, kl, Ce.lone, x_fCellV, x_fAppV, x_needV, x_upV, oIxV, x_fDNew, x_fSetdL, x_needW, x_setdL, x_fSrtS, x_fToM, x_fItems, x_fGet2, x_fDSub, x_needD, oGet2, oDSub, dictOf, keyD, oSortG, oSortP, orF, oCatT, oStr, x_fCount, x_fIndex, x_fRev, x_fPar3, datL, dat, atI, ixN, oAdd, orO, oI, oInt, oPowW, oIC, oMod, cPos, oDiv, cDiv, endF, oAddI, oSub, oLt, oLe, oGt, oGe, oMul, oMulG, oRepD, oRep, oI2, oMin2, oMax2, oMinL, oMaxL, oAll, oAny, oBools, oIn, oNotIn, oInD, oInSg, x_fChain, intsA, cellsOf, picks, renum, putB, Ce.alive, oSl, slOr, oSlD, oSlL, oLenG, orA, oLen, tru, permL, oSumL, oCatD, datO, oCat, oList, oRepr, oTuple, DL.isNon, oSlT, oSlS, oAddS, oEqG, oNeG, oEqS, oNeS, oEq, oNe, x_fRaise, x_fFrzL, x_frzL, x_fItemsI, x_fValsI, x_fKeysI, x_fDNewM, x_fDPut, x_putC, x_fL6, dsOf, oSortK, intKeys, x_fDSub, x_fTupC, x_fFrzN, oIxT, callT, endT, okE_il, okE_nil, eqv_il_nil, hx, hy])]
    rw [fSeq_ok (s' := ⟨[some (.d (il xs)), some (.d (il ys)), some (.c 0), none, none], [.l []]⟩) (by simp [x_bnd, x_ret, x_stuck, x_gets, x_fVar, x_fC, x_fOp, x_fNil, x_fCons, x_fCall, x_fDat, x_fCell, x_fLst, x_fTup, x_fTest, x_fTru, x_fAnd, x_fOr, x_fNot, x_fIf, x_asB, x_fAndV, x_fOrV, x_fNotV, x_fIsN, x_fNotN, x_frz, x_frzs0, x_frzs1, x_fFrz, x_fSeq, x_fNext, x_fExpr, x_fRet, x_fRetN, x_fAsg, x_kName, x_fPar, x_kNil, x_kCons, x_kTup, x_kSub, x_setIt, x_needL, x_upC, x_fApp, x_fPopAt, x_fPop, x_fSl, x_fNoP, x_fP, x_fDef, x_callD, x_fPerm, x_fIsi, x_fNeg, x_asL, x_asLt, x_asT, x_fItL, x_fItT, x_orI, x_fRng1, x_fRng2, x_fEnum, x_fZip, x_fFor, x_forL0, x_fAug, x_fYes, x_lcT, x_fRstT, x_fRstV, x_ite, oIx, cutC, kl, Ce.lone, x_fCellV, x_fAppV, x_needV, x_upV, oIxV, x_fDNew, x_fSetdL, x_needW, x_setdL, x_fSrtS, x_fToM, x_fItems, x_fGet2, x_fDSub, x_needD, oGet2, oDSub, dictOf, keyD, oSortG, oSortP, orF, oCatT, oStr, x_fCount, x_fIndex, x_fRev, x_fPar3, datL, dat, atI, ixN, oAdd, orO, oI, oInt, oPowW, oIC, oMod, cPos, oDiv, cDiv, endF, oAddI, oSub, oLt, oLe, oGt, oGe, oMul, oMulG, oRepD, oRep, oI2, oMin2, oMax2, oMinL, oMaxL, oAll, oAny, oBools, oIn, oNotIn, oInD, oInSg, x_fChain, intsA, cellsOf, picks, renum, putB, Ce.alive, oSl, slOr, oSlD, oSlL, oLenG, orA, oLen, tru, permL, oSumL, oCatD, datO, oCat, oList, oRepr, oTuple, DL.isNon, oSlT, oSlS, oAddS, oEqG, oNeG, oEqS, oNeS, oEq, oNe, x_fRaise, x_fFrzL, x_frzL, x_fItemsI, x_fValsI, x_fKeysI, x_fDNewM, x_fDPut, x_putC, x_fL6, dsOf, oSortK, intKeys, x_fDSub, x_fTupC, x_fFrzN, oIxT, callT, endT])]
    rw [fSeq_ok (s' := ⟨[some (.d (il xs)), some (.d (il ys)), some (.c 0), some (.c 1), some (.c 2)], [.l [], .l (xs.map .int), .l (ys.map .int)]⟩) (by simp [x_bnd, x_ret, x_stuck, x_gets, x_fVar, x_fC, x_fOp, x_fNil, x_fCons, x_fCall, x_fDat, x_fCell, x_fLst, x_fTup, x_fTest, x_fTru, x_fAnd, x_fOr, x_fNot, x_fIf, x_asB, x_fAndV, x_fOrV, x_fNotV, x_fIsN, x_fNotN, x_frz, x_frzs0, x_frzs1, x_fFrz, x_fSeq, x_fNext, x_fExpr, x_fRet, x_fRetN, x_fAsg, x_kName, x_fPar, x_kNil, x_kCons, x_kTup, x_kSub, x_setIt, x_needL, x_upC, x_fApp, x_fPopAt, x_fPop, x_fSl, x_fNoP, x_fP, x_fDef, x_callD, x_fPerm, x_fIsi, x_fNeg, x_asL, x_asLt, x_asT, x_fItL, x_fItT, x_orI, x_fRng1, x_fRng2, x_fEnum, x_fZip, x_fFor, x_forL0, x_fAug, x_fYes, x_lcT, x_fRstT, x_fRstV, x_ite, oIx, cutC, kl, Ce.lone, x_fCellV, x_fAppV, x_needV, x_upV, oIxV, x_fDNew, x_fSetdL, x_needW, x_setdL, x_fSrtS, x_fToM, x_fItems, x_fGet2, x_fDSub, x_needD, oGet2, oDSub, dictOf, keyD, oSortG, oSortP, orF, oCatT, oStr, x_fCount, x_fIndex, x_fRev, x_fPar3, datL, dat, atI, ixN, oAdd, orO, oI, oInt, oPowW, oIC, oMod, cPos, oDiv, cDiv, endF, oAddI, oSub, oLt, oLe, oGt, oGe, oMul, oMulG, oRepD, oRep, oI2, oMin2, oMax2, oMinL, oMaxL, oAll, oAny, oBools, oIn, oNotIn, oInD, oInSg, x_fChain, intsA, cellsOf, picks, renum, putB, Ce.alive, oSl, slOr, oSlD, oSlL, oLenG, orA, oLen, tru, permL, oSumL, oCatD, datO, oCat, oList, oRepr, oTuple, DL.isNon, oSlT, oSlS, oAddS, oEqG, oNeG, oEqS, oNeS, oEq, oNe, x_fRaise, x_fFrzL, x_frzL, x_fItemsI, x_fValsI, x_fKeysI, x_fDNewM, x_fDPut, x_putC, x_fL6, dsOf, oSortK, intKeys, x_fDSub, x_fTupC, x_fFrzN, oIxT, callT, endT])]
    obtain ⟨s', e1, t, f, u, rfl, e2, e3, e4⟩ := while_ind (c := fAnd (fTest (fOp oNeG (fVar 3) (fDat (fLst fNil)))) (fTest (fOp oNeG (fVar 4) (fDat (fLst fNil)))))
      (b := fExpr (fApp (fVar 2) (fIf (fTest (fOp oLt (fOp oIx (fVar 4) (fC (.int 0))) (fOp oIx (fVar 3) (fC (.int 0))))) (fPopAt (fVar 4) (fC (.int 0))) (fPopAt (fVar 3) (fC (.int 0))))))
      (I := fun n s => ∃ t f u : List Int, s = ⟨[some (.d (il xs)), some (.d (il ys)), some (.c 0), some (.c 1), some (.c 2)], [.l (t.map .int), .l (f.map .int), .l (u.map .int)]⟩ ∧ t ++ mrg f u = mrg xs ys ∧ t.length + f.length + u.length = xs.length + ys.length ∧ n = f.length + u.length)
      (J := fun s => ∃ t f u : List Int, s = ⟨[some (.d (il xs)), some (.d (il ys)), some (.c 0), some (.c 1), some (.c 2)], [.l (t.map .int), .l (f.map .int), .l (u.map .int)]⟩ ∧ t ++ mrg f u = mrg xs ys ∧ t.length + f.length + u.length = xs.length + ys.length ∧ (f = [] ∨ u = []))
      (fun n s ⟨t, f, u, e, h1, h2, h3⟩ => by
        subst e
        cases f with
        | nil => exact .inl ⟨_, by simp [x_bnd, x_ret, x_stuck, x_gets, x_fVar, x_fC, x_fOp, x_fNil, x_fCons, x_fCall, x_fDat, x_fCell, x_fLst, x_fTup, x_fTest, x_fTru, x_fAnd, x_fOr, x_fNot, x_fIf, x_asB, x_fAndV, x_fOrV, x_fNotV, x_fIsN, x_fNotN, x_frz, x_frzs0, x_frzs1, x_fFrz, x_fSeq, x_fNext, x_fExpr, x_fRet, x_fRetN, x_fAsg, x_kName, x_fPar, x_kNil, x_kCons, x_kTup, x_kSub, x_setIt, x_needL, x_upC, x_fApp, x_fPopAt, x_fPop, x_fSl, x_fNoP, x_fP, x_fDef, x_callD, x_fPerm, x_fIsi, x_fNeg, x_asL, x_asLt, x_asT, x_fItL, x_fItT, x_orI, x_fRng1, x_fRng2, x_fEnum, x_fZip, x_fFor, x_forL0, x_fAug, x_fYes, x_lcT, x_fRstT, x_fRstV, x_ite, oIx, cutC, kl, Ce.lone, x_fCellV, x_fAppV, x_needV, x_upV, oIxV, x_fDNew, x_fSetdL, x_needW, x_setdL, x_fSrtS, x_fToM, x_fItems, x_fGet2, x_fDSub, x_needD, oGet2, oDSub, dictOf, keyD, oSortG, oSortP, orF, oCatT, oStr, x_fCount, x_fIndex, x_fRev, x_fPar3, datL, dat, atI, ixN, oAdd, orO, oI, oInt, oPowW, oIC, oMod, cPos, oDiv, cDiv, endF, oAddI, oSub, oLt, oLe, oGt, oGe, oMul, oMulG, oRepD, oRep, oI2, oMin2, oMax2, oMinL, oMaxL, oAll, oAny, oBools, oIn, oNotIn, oInD, oInSg, x_fChain, intsA, cellsOf, picks, renum, putB, Ce.alive, oSl, slOr, oSlD, oSlL, oLenG, orA, oLen, tru, permL, oSumL, oCatD, datO, oCat, oList, oRepr, oTuple, DL.isNon, oSlT, oSlS, oAddS, oEqG, oNeG, oEqS, oNeS, oEq, oNe, x_fRaise, x_fFrzL, x_frzL, x_fItemsI, x_fValsI, x_fKeysI, x_fDNewM, x_fDPut, x_putC, x_fL6, dsOf, oSortK, intKeys, x_fDSub, x_fTupC, x_fFrzN, oIxT, callT, endT, okE_nil, okE_il, PyData.eqv, PyData.eqvAll], t, [], u, rfl, h1, h2, .inl rfl⟩
        | cons x f =>
          have kx : okE (.list (PyData.int x :: f.map .int)) = true := okE_il (x :: f)
          cases u with
          | nil => exact .inl ⟨_, by simp [x_bnd, x_ret, x_stuck, x_gets, x_fVar, x_fC, x_fOp, x_fNil, x_fCons, x_fCall, x_fDat, x_fCell, x_fLst, x_fTup, x_fTest, x_fTru, x_fAnd, x_fOr, x_fNot, x_fIf, x_asB, x_fAndV, x_fOrV, x_fNotV, x_fIsN, x_fNotN, x_frz, x_frzs0, x_frzs1, x_fFrz, x_fSeq, x_fNext, x_fExpr, x_fRet, x_fRetN, x_fAsg, x_kName, x_fPar, x_kNil, x_kCons, x_kTup, x_kSub, x_setIt, x_needL, x_upC, x_fApp, x_fPopAt, x_fPop, x_fSl, x_fNoP, x_fP, x_fDef, x_callD, x_fPerm, x_fIsi, x_fNeg, x_asL, x_asLt, x_asT, x_fItL, x_fItT, x_orI, x_fRng1, x_fRng2, x_fEnum, x_fZip, x_fFor, x_forL0, x_fAug, x_fYes, x_lcT, x_fRstT, x_fRstV, x_ite, oIx, cutC, kl, Ce.lone, x_fCellV, x_fAppV, x_needV, x_upV, oIxV, x_fDNew, x_fSetdL, x_needW, x_setdL, x_fSrtS, x_fToM, x_fItems, x_fGet2, x_fDSub, x_needD, oGet2, oDSub, dictOf, keyD, oSortG, oSortP, orF, oCatT, oStr, x_fCount, x_fIndex, x_fRev, x_fPar3, datL, dat, atI, ixN, oAdd, orO, oI, oInt, oPowW, oIC, oMod, cPos, oDiv, cDiv, endF, oAddI, oSub, oLt, oLe, oGt, oGe, oMul, oMulG, oRepD, oRep, oI2, oMin2, oMax2, oMinL, oMaxL, oAll, oAny, oBools, oIn, oNotIn, oInD, oInSg, x_fChain, intsA, cellsOf, picks, renum, putB, Ce.alive, oSl, slOr, oSlD, oSlL, oLenG, orA, oLen, tru, permL, oSumL, oCatD, datO, oCat, oList, oRepr, oTuple, DL.isNon, oSlT, oSlS, oAddS, oEqG, oNeG, oEqS, oNeS, oEq, oNe, x_fRaise, x_fFrzL, x_frzL, x_fItemsI, x_fValsI, x_fKeysI, x_fDNewM, x_fDPut, x_putC, x_fL6, dsOf, oSortK, intKeys, x_fDSub, x_fTupC, x_fFrzN, oIxT, callT, endT, okE_nil, kx, PyData.eqv, PyData.eqvAll], t, x :: f, [], rfl, h1, h2, .inr rfl⟩
          | cons y u =>
            have ky : okE (.list (PyData.int y :: u.map .int)) = true := okE_il (y :: u)
            simp only [List.length_cons] at h2 h3
            have hb : t.length < 1000000 := by omega
            by_cases h : y < x
            · refine .inr ⟨⟨[some (.d (il xs)), some (.d (il ys)), some (.c 0), some (.c 1), some (.c 2)], [.l (t.map .int), .l ((x :: f).map .int), .l ((y :: u).map .int)]⟩, ⟨[some (.d (il xs)), some (.d (il ys)), some (.c 0), some (.c 1), some (.c 2)], [.l ((t ++ [y]).map .int), .l ((x :: f).map .int), .l (u.map .int)]⟩, f.length + 1 + u.length, ?_, ?_, by omega, t ++ [y], x :: f, u, rfl, ?_, by simp only [List.length_append, List.length_cons, List.length_nil]; omega, by simp⟩
              · simp [x_bnd, x_ret, x_stuck, x_gets, x_fVar, x_fC, x_fOp, x_fNil, x_fCons, x_fCall, x_fDat, x_fCell, x_fLst, x_fTup, x_fTest, x_fTru, x_fAnd, x_fOr, x_fNot, x_fIf, x_asB, x_fAndV, x_fOrV, x_fNotV, x_fIsN, x_fNotN, x_frz, x_frzs0, x_frzs1, x_fFrz, x_fSeq, x_fNext, x_fExpr, x_fRet, x_fRetN, x_fAsg, x_kName, x_fPar, x_kNil, x_kCons, x_kTup, x_kSub, x_setIt, x_needL, x_upC, x_fApp, x_fPopAt, x_fPop, x_fSl, x_fNoP, x_fP, x_fDef, x_callD, x_fPerm, x_fIsi, x_fNeg, x_asL, x_asLt, x_asT, x_fItL, x_fItT, x_orI, x_fRng1, x_fRng2, x_fEnum, x_fZip, x_fFor, x_forL0, x_fAug, x_fYes, x_lcT, x_fRstT, x_fRstV, x_ite, oIx, cutC, kl, Ce.lone, x_fCellV, x_fAppV, x_needV, x_upV, oIxV, x_fDNew, x_fSetdL, x_needW, x_setdL, x_fSrtS, x_fToM, x_fItems, x_fGet2, x_fDSub, x_needD, oGet2, oDSub, dictOf, keyD, oSortG, oSortP, orF, oCatT, oStr, x_fCount, x_fIndex, x_fRev, x_fPar3, datL, dat, atI, ixN, oAdd, orO, oI, oInt, oPowW, oIC, oMod, cPos, oDiv, cDiv, endF, oAddI, oSub, oLt, oLe, oGt, oGe, oMul, oMulG, oRepD, oRep, oI2, oMin2, oMax2, oMinL, oMaxL, oAll, oAny, oBools, oIn, oNotIn, oInD, oInSg, x_fChain, intsA, cellsOf, picks, renum, putB, Ce.alive, oSl, slOr, oSlD, oSlL, oLenG, orA, oLen, tru, permL, oSumL, oCatD, datO, oCat, oList, oRepr, oTuple, DL.isNon, oSlT, oSlS, oAddS, oEqG, oNeG, oEqS, oNeS, oEq, oNe, x_fRaise, x_fFrzL, x_frzL, x_fItemsI, x_fValsI, x_fKeysI, x_fDNewM, x_fDPut, x_putC, x_fL6, dsOf, oSortK, intKeys, x_fDSub, x_fTupC, x_fFrzN, oIxT, callT, endT, okE_nil, PyData.eqv, PyData.eqvAll, kx, ky]
              · simp [x_bnd, x_ret, x_stuck, x_gets, x_fVar, x_fC, x_fOp, x_fNil, x_fCons, x_fCall, x_fDat, x_fCell, x_fLst, x_fTup, x_fTest, x_fTru, x_fAnd, x_fOr, x_fNot, x_fIf, x_asB, x_fAndV, x_fOrV, x_fNotV, x_fIsN, x_fNotN, x_frz, x_frzs0, x_frzs1, x_fFrz, x_fSeq, x_fNext, x_fExpr, x_fRet, x_fRetN, x_fAsg, x_kName, x_fPar, x_kNil, x_kCons, x_kTup, x_kSub, x_setIt, x_needL, x_upC, x_fApp, x_fPopAt, x_fPop, x_fSl, x_fNoP, x_fP, x_fDef, x_callD, x_fPerm, x_fIsi, x_fNeg, x_asL, x_asLt, x_asT, x_fItL, x_fItT, x_orI, x_fRng1, x_fRng2, x_fEnum, x_fZip, x_fFor, x_forL0, x_fAug, x_fYes, x_lcT, x_fRstT, x_fRstV, x_ite, oIx, cutC, kl, Ce.lone, x_fCellV, x_fAppV, x_needV, x_upV, oIxV, x_fDNew, x_fSetdL, x_needW, x_setdL, x_fSrtS, x_fToM, x_fItems, x_fGet2, x_fDSub, x_needD, oGet2, oDSub, dictOf, keyD, oSortG, oSortP, orF, oCatT, oStr, x_fCount, x_fIndex, x_fRev, x_fPar3, datL, dat, atI, ixN, oAdd, orO, oI, oInt, oPowW, oIC, oMod, cPos, oDiv, cDiv, endF, oAddI, oSub, oLt, oLe, oGt, oGe, oMul, oMulG, oRepD, oRep, oI2, oMin2, oMax2, oMinL, oMaxL, oAll, oAny, oBools, oIn, oNotIn, oInD, oInSg, x_fChain, intsA, cellsOf, picks, renum, putB, Ce.alive, oSl, slOr, oSlD, oSlL, oLenG, orA, oLen, tru, permL, oSumL, oCatD, datO, oCat, oList, oRepr, oTuple, DL.isNon, oSlT, oSlS, oAddS, oEqG, oNeG, oEqS, oNeS, oEq, oNe, x_fRaise, x_fFrzL, x_frzL, x_fItemsI, x_fValsI, x_fKeysI, x_fDNewM, x_fDPut, x_putC, x_fL6, dsOf, oSortK, intKeys, x_fDSub, x_fTupC, x_fFrzN, oIxT, callT, endT, h, hb, sq0]
              · rw [← h1, mrg_lt _ _ h]; simp
            · refine .inr ⟨⟨[some (.d (il xs)), some (.d (il ys)), some (.c 0), some (.c 1), some (.c 2)], [.l (t.map .int), .l ((x :: f).map .int), .l ((y :: u).map .int)]⟩, ⟨[some (.d (il xs)), some (.d (il ys)), some (.c 0), some (.c 1), some (.c 2)], [.l ((t ++ [x]).map .int), .l (f.map .int), .l ((y :: u).map .int)]⟩, f.length + (u.length + 1), ?_, ?_, by omega, t ++ [x], f, y :: u, rfl, ?_, by simp only [List.length_append, List.length_cons, List.length_nil]; omega, by simp⟩
              · simp [x_bnd, x_ret, x_stuck, x_gets, x_fVar, x_fC, x_fOp, x_fNil, x_fCons, x_fCall, x_fDat, x_fCell, x_fLst, x_fTup, x_fTest, x_fTru, x_fAnd, x_fOr, x_fNot, x_fIf, x_asB, x_fAndV, x_fOrV, x_fNotV, x_fIsN, x_fNotN, x_frz, x_frzs0, x_frzs1, x_fFrz, x_fSeq, x_fNext, x_fExpr, x_fRet, x_fRetN, x_fAsg, x_kName, x_fPar, x_kNil, x_kCons, x_kTup, x_kSub, x_setIt, x_needL, x_upC, x_fApp, x_fPopAt, x_fPop, x_fSl, x_fNoP, x_fP, x_fDef, x_callD, x_fPerm, x_fIsi, x_fNeg, x_asL, x_asLt, x_asT, x_fItL, x_fItT, x_orI, x_fRng1, x_fRng2, x_fEnum, x_fZip, x_fFor, x_forL0, x_fAug, x_fYes, x_lcT, x_fRstT, x_fRstV, x_ite, oIx, cutC, kl, Ce.lone, x_fCellV, x_fAppV, x_needV, x_upV, oIxV, x_fDNew, x_fSetdL, x_needW, x_setdL, x_fSrtS, x_fToM, x_fItems, x_fGet2, x_fDSub, x_needD, oGet2, oDSub, dictOf, keyD, oSortG, oSortP, orF, oCatT, oStr, x_fCount, x_fIndex, x_fRev, x_fPar3, datL, dat, atI, ixN, oAdd, orO, oI, oInt, oPowW, oIC, oMod, cPos, oDiv, cDiv, endF, oAddI, oSub, oLt, oLe, oGt, oGe, oMul, oMulG, oRepD, oRep, oI2, oMin2, oMax2, oMinL, oMaxL, oAll, oAny, oBools, oIn, oNotIn, oInD, oInSg, x_fChain, intsA, cellsOf, picks, renum, putB, Ce.alive, oSl, slOr, oSlD, oSlL, oLenG, orA, oLen, tru, permL, oSumL, oCatD, datO, oCat, oList, oRepr, oTuple, DL.isNon, oSlT, oSlS, oAddS, oEqG, oNeG, oEqS, oNeS, oEq, oNe, x_fRaise, x_fFrzL, x_frzL, x_fItemsI, x_fValsI, x_fKeysI, x_fDNewM, x_fDPut, x_putC, x_fL6, dsOf, oSortK, intKeys, x_fDSub, x_fTupC, x_fFrzN, oIxT, callT, endT, okE_nil, PyData.eqv, PyData.eqvAll, kx, ky]
              · simp [x_bnd, x_ret, x_stuck, x_gets, x_fVar, x_fC, x_fOp, x_fNil, x_fCons, x_fCall, x_fDat, x_fCell, x_fLst, x_fTup, x_fTest, x_fTru, x_fAnd, x_fOr, x_fNot, x_fIf, x_asB, x_fAndV, x_fOrV, x_fNotV, x_fIsN, x_fNotN, x_frz, x_frzs0, x_frzs1, x_fFrz, x_fSeq, x_fNext, x_fExpr, x_fRet, x_fRetN, x_fAsg, x_kName, x_fPar, x_kNil, x_kCons, x_kTup, x_kSub, x_setIt, x_needL, x_upC, x_fApp, x_fPopAt, x_fPop, x_fSl, x_fNoP, x_fP, x_fDef, x_callD, x_fPerm, x_fIsi, x_fNeg, x_asL, x_asLt, x_asT, x_fItL, x_fItT, x_orI, x_fRng1, x_fRng2, x_fEnum, x_fZip, x_fFor, x_forL0, x_fAug, x_fYes, x_lcT, x_fRstT, x_fRstV, x_ite, oIx, cutC, kl, Ce.lone, x_fCellV, x_fAppV, x_needV, x_upV, oIxV, x_fDNew, x_fSetdL, x_needW, x_setdL, x_fSrtS, x_fToM, x_fItems, x_fGet2, x_fDSub, x_needD, oGet2, oDSub, dictOf, keyD, oSortG, oSortP, orF, oCatT, oStr, x_fCount, x_fIndex, x_fRev, x_fPar3, datL, dat, atI, ixN, oAdd, orO, oI, oInt, oPowW, oIC, oMod, cPos, oDiv, cDiv, endF, oAddI, oSub, oLt, oLe, oGt, oGe, oMul, oMulG, oRepD, oRep, oI2, oMin2, oMax2, oMinL, oMaxL, oAll, oAny, oBools, oIn, oNotIn, oInD, oInSg, x_fChain, intsA, cellsOf, picks, renum, putB, Ce.alive, oSl, slOr, oSlD, oSlL, oLenG, orA, oLen, tru, permL, oSumL, oCatD, datO, oCat, oList, oRepr, oTuple, DL.isNon, oSlT, oSlS, oAddS, oEqG, oNeG, oEqS, oNeS, oEq, oNe, x_fRaise, x_fFrzL, x_frzL, x_fItemsI, x_fValsI, x_fKeysI, x_fDNewM, x_fDPut, x_putC, x_fL6, dsOf, oSortK, intKeys, x_fDSub, x_fTupC, x_fFrzN, oIxT, callT, endT, h, hb, sq0]
              · rw [← h1, mrg_ge _ _ h]; simp)
      _ ⟨[some (.d (il xs)), some (.d (il ys)), some (.c 0), some (.c 1), some (.c 2)], [.l [], .l (xs.map .int), .l (ys.map .int)]⟩ ⟨[], xs, ys, rfl, by simp, by simp, rfl⟩
    rw [fSeq_ok e1]
    have e5 : t ++ f ++ u = mrg xs ys := by
      rw [← e2]
      rcases e4 with rfl | rfl
      · rw [mrg_nl]; simp
      · rw [mrg_nr]; simp
    have b1 : t.length + f.length ≤ 1000000 := by omega
    have b2 : t.length + f.length + u.length ≤ 1000000 := by omega
    rw [← e5]
    simp [x_bnd, x_ret, x_stuck, x_gets, x_fVar, x_fC, x_fOp, x_fNil, x_fCons, x_fCall, x_fDat, x_fCell, x_fLst, x_fTup, x_fTest, x_fTru, x_fAnd, x_fOr, x_fNot, x_fIf, x_asB, x_fAndV, x_fOrV, x_fNotV, x_fIsN, x_fNotN, x_frz, x_frzs0, x_frzs1, x_fFrz, x_fSeq, x_fNext, x_fExpr, x_fRet, x_fRetN, x_fAsg, x_kName, x_fPar, x_kNil, x_kCons, x_kTup, x_kSub, x_setIt, x_needL, x_upC, x_fApp, x_fPopAt, x_fPop, x_fSl, x_fNoP, x_fP, x_fDef, x_callD, x_fPerm, x_fIsi, x_fNeg, x_asL, x_asLt, x_asT, x_fItL, x_fItT, x_orI, x_fRng1, x_fRng2, x_fEnum, x_fZip, x_fFor, x_forL0, x_fAug, x_fYes, x_lcT, x_fRstT, x_fRstV, x_ite, oIx, cutC, kl, Ce.lone, x_fCellV, x_fAppV, x_needV, x_upV, oIxV, x_fDNew, x_fSetdL, x_needW, x_setdL, x_fSrtS, x_fToM, x_fItems, x_fGet2, x_fDSub, x_needD, oGet2, oDSub, dictOf, keyD, oSortG, oSortP, orF, oCatT, oStr, x_fCount, x_fIndex, x_fRev, x_fPar3, datL, dat, atI, ixN, oAdd, orO, oI, oInt, oPowW, oIC, oMod, cPos, oDiv, cDiv, endF, oAddI, oSub, oLt, oLe, oGt, oGe, oMul, oMulG, oRepD, oRep, oI2, oMin2, oMax2, oMinL, oMaxL, oAll, oAny, oBools, oIn, oNotIn, oInD, oInSg, x_fChain, intsA, cellsOf, picks, renum, putB, Ce.alive, oSl, slOr, oSlD, oSlL, oLenG, orA, oLen, tru, permL, oSumL, oCatD, datO, oCat, oList, oRepr, oTuple, DL.isNon, oSlT, oSlS, oAddS, oEqG, oNeG, oEqS, oNeS, oEq, oNe, x_fRaise, x_fFrzL, x_frzL, x_fItemsI, x_fValsI, x_fKeysI, x_fDNewM, x_fDPut, x_putC, x_fL6, dsOf, oSortK, intKeys, x_fDSub, x_fTupC, x_fFrzN, oIxT, callT, endT, b1, b2]

/-! union, intersection, difference, inclusion by two pointers -/
def uni : List Int → List Int → List Int
  | [], ys => ys
  | x :: xs, [] => x :: xs
  | x :: xs, y :: ys => if x < y then x :: uni xs (y :: ys) else if y < x then y :: uni (x :: xs) ys else x :: uni xs ys
termination_by xs ys => xs.length + ys.length
def itr : List Int → List Int → List Int
  | [], _ => []
  | _ :: _, [] => []
  | x :: xs, y :: ys => if x < y then itr xs (y :: ys) else if y < x then itr (x :: xs) ys else x :: itr xs ys
termination_by xs ys => xs.length + ys.length
def dif : List Int → List Int → List Int
  | [], _ => []
  | x :: xs, [] => x :: xs
  | x :: xs, y :: ys => if x < y then x :: dif xs (y :: ys) else if y < x then dif (x :: xs) ys else dif xs ys
termination_by xs ys => xs.length + ys.length
def inc : List Int → List Int → Bool
  | [], ys => ys.isEmpty
  | _ :: _, [] => true
  | x :: xs, y :: ys => if x < y then inc xs (y :: ys) else if y < x then false else inc xs ys
termination_by xs ys => xs.length + ys.length
theorem uni_nl (ys : List Int) : uni [] ys = ys := by simp [uni]
theorem uni_nr (xs : List Int) : uni xs [] = xs := by cases xs <;> simp [uni]
theorem itr_nl (ys : List Int) : itr [] ys = [] := by simp [itr]
theorem itr_nr (xs : List Int) : itr xs [] = [] := by cases xs <;> simp [itr]
theorem dif_nl (ys : List Int) : dif [] ys = [] := by simp [dif]
theorem dif_nr (xs : List Int) : dif xs [] = xs := by cases xs <;> simp [dif]
theorem inc_nr (xs : List Int) : inc xs [] = true := by cases xs <;> simp [inc]
theorem uni_lt {x y : Int} (xs ys : List Int) (h : x < y) : uni (x :: xs) (y :: ys) = x :: uni xs (y :: ys) := by rw [uni, if_pos h]
theorem uni_gt {x y : Int} (xs ys : List Int) (h : y < x) : uni (x :: xs) (y :: ys) = y :: uni (x :: xs) ys := by rw [uni, if_neg (by omega), if_pos h]
theorem uni_eq (x : Int) (xs ys : List Int) : uni (x :: xs) (x :: ys) = x :: uni xs ys := by rw [uni, if_neg (by omega), if_neg (by omega)]
theorem itr_lt {x y : Int} (xs ys : List Int) (h : x < y) : itr (x :: xs) (y :: ys) = itr xs (y :: ys) := by rw [itr, if_pos h]
theorem itr_gt {x y : Int} (xs ys : List Int) (h : y < x) : itr (x :: xs) (y :: ys) = itr (x :: xs) ys := by rw [itr, if_neg (by omega), if_pos h]
theorem itr_eq (x : Int) (xs ys : List Int) : itr (x :: xs) (x :: ys) = x :: itr xs ys := by rw [itr, if_neg (by omega), if_neg (by omega)]
theorem dif_lt {x y : Int} (xs ys : List Int) (h : x < y) : dif (x :: xs) (y :: ys) = x :: dif xs (y :: ys) := by rw [dif, if_pos h]
theorem dif_gt {x y : Int} (xs ys : List Int) (h : y < x) : dif (x :: xs) (y :: ys) = dif (x :: xs) ys := by rw [dif, if_neg (by omega), if_pos h]
theorem dif_eq (x : Int) (xs ys : List Int) : dif (x :: xs) (x :: ys) = dif xs ys := by rw [dif, if_neg (by omega), if_neg (by omega)]
theorem inc_lt {x y : Int} (xs ys : List Int) (h : x < y) : inc (x :: xs) (y :: ys) = inc xs (y :: ys) := by rw [inc, if_pos h]
theorem inc_gt {x y : Int} (xs ys : List Int) (h : y < x) : inc (x :: xs) (y :: ys) = false := by rw [inc, if_neg (by omega), if_pos h]
theorem inc_eq (x : Int) (xs ys : List Int) : inc (x :: xs) (x :: ys) = inc xs ys := by rw [inc, if_neg (by omega), if_neg (by omega)]
/-- going through both lists -/
theorem both_ind {P : List Int → List Int → Prop} (nl : ∀ ys, P [] ys) (nr : ∀ x xs, P (x :: xs) []) (lt : ∀ x xs y ys, x < y → P xs (y :: ys) → P (x :: xs) (y :: ys)) (gt : ∀ x xs y ys, y < x → P (x :: xs) ys → P (x :: xs) (y :: ys))
    (eq : ∀ x xs ys, P xs ys → P (x :: xs) (x :: ys)) : ∀ xs ys, P xs ys := by
  have key : ∀ (n : Nat) (xs ys : List Int), xs.length + ys.length = n → P xs ys := fun n => by
    induction n using Nat.strongRecOn with
    | _ n ih =>
      intro xs ys hn
      cases xs with
      | nil => exact nl ys
      | cons x xs =>
        cases ys with
        | nil => exact nr x xs
        | cons y ys =>
          simp only [List.length_cons] at hn
          rcases Int.lt_trichotomy x y with h | h | h
          · exact lt x xs y ys h (ih (xs.length + (ys.length + 1)) (by omega) xs (y :: ys) (by simp))
          · subst h; exact eq x xs ys (ih (xs.length + ys.length) (by omega) xs ys rfl)
          · exact gt x xs y ys h (ih (xs.length + 1 + ys.length) (by omega) (x :: xs) ys (by simp))
  exact fun xs ys => key _ xs ys rfl
theorem len_sum : ∀ a b : List Int, (uni a b).length + (itr a b).length = a.length + b.length :=
  both_ind (fun ys => by simp [uni_nl, itr_nl]) (fun x xs => by simp [uni_nr, itr_nr]) (fun x xs y ys h ih => by simp [uni_lt _ _ h, itr_lt _ _ h] at ih ⊢; omega) (fun x xs y ys h ih => by simp [uni_gt _ _ h, itr_gt _ _ h] at ih ⊢; omega)
    fun x xs ys ih => by simp [uni_eq, itr_eq] at ih ⊢; omega
theorem itr_len : ∀ a b : List Int, (itr a b).length ≤ a.length ∧ (itr a b).length ≤ b.length :=
  both_ind (fun ys => by simp [itr_nl]) (fun x xs => by simp [itr_nr]) (fun x xs y ys h ih => by simp [itr_lt _ _ h] at ih ⊢; omega) (fun x xs y ys h ih => by simp [itr_gt _ _ h] at ih ⊢; omega)
    fun x xs ys ih => by simp [itr_eq] at ih ⊢; omega
theorem uni_len (a b : List Int) : a.length ≤ (uni a b).length ∧ b.length ≤ (uni a b).length ∧ (uni a b).length ≤ a.length + b.length := by
  have h1 := len_sum a b
  have h2 := itr_len a b
  omega
theorem dif_perm : ∀ a b : List Int, (dif a b ++ itr a b).Perm a :=
  both_ind (fun ys => by simp [dif_nl, itr_nl]) (fun x xs => by simp [dif_nr, itr_nr]) (fun x xs y ys h ih => by rw [dif_lt _ _ h, itr_lt _ _ h]; exact ih.cons x) (fun x xs y ys h ih => by rw [dif_gt _ _ h, itr_gt _ _ h]; exact ih)
    fun x xs ys ih => by rw [dif_eq, itr_eq]; exact List.perm_middle.trans (ih.cons x)
theorem inc_itr : ∀ a b : List Int, inc a b = decide (itr a b = b) :=
  both_ind (fun ys => by cases ys <;> simp [inc, itr_nl]) (fun x xs => by simp [inc_nr, itr_nr]) (fun x xs y ys h ih => by rw [inc_lt _ _ h, itr_lt _ _ h, ih])
    (fun x xs y ys h ih => by
      rw [inc_gt _ _ h, itr_gt _ _ h]
      symm
      rw [decide_eq_false_iff_not]
      intro e
      have := congrArg List.length e
      have := (itr_len (x :: xs) ys).2
      simp only [List.length_cons] at *
      omega)
    fun x xs ys ih => by rw [inc_eq, itr_eq, ih]; simp
theorem inc_uni : ∀ a b : List Int, inc a b = decide (uni a b = a) :=
  both_ind (fun ys => by cases ys <;> simp [inc, uni_nl]) (fun x xs => by simp [inc_nr, uni_nr]) (fun x xs y ys h ih => by rw [inc_lt _ _ h, uni_lt _ _ h, ih]; simp)
    (fun x xs y ys h ih => by
      rw [inc_gt _ _ h, uni_gt _ _ h]
      symm
      rw [decide_eq_false_iff_not]
      intro e
      have := congrArg List.length e
      have := (uni_len (x :: xs) ys).1
      simp only [List.length_cons] at *
      omega)
    fun x xs ys ih => by rw [inc_eq, uni_eq, ih]; simp
theorem dif_inc : ∀ a b : List Int, decide (dif a b = []) = inc b a :=
  both_ind (fun ys => by simp [dif_nl, inc_nr]) (fun x xs => by simp [dif_nr, inc]) (fun x xs y ys h ih => by rw [dif_lt _ _ h, inc_gt _ _ h]; simp)
    (fun x xs y ys h ih => by rw [dif_gt _ _ h, inc_lt _ _ h, ih]) fun x xs ys ih => by rw [dif_eq, inc_eq, ih]
/-! ### the parts of a list: a leader and what stands below it -/
def tk (x : Int) (l : List Int) : List Int := l.takeWhile fun z => decide (z < x)
def dp (x : Int) (l : List Int) : List Int := l.dropWhile fun z => decide (z < x)
theorem dp_len (x : Int) (l : List Int) : (dp x l).length ≤ l.length := (List.dropWhile_suffix _).length_le
theorem tk_dp (x : Int) (l : List Int) : tk x l ++ dp x l = l := List.takeWhile_append_dropWhile
theorem tk_lt {x z : Int} {l : List Int} (h : z ∈ tk x l) : z < x := by
  unfold tk at h
  induction l with
  | nil => simp at h
  | cons a l ih =>
    by_cases e : a < x
    · simp [e] at h
      rcases h with rfl | h
      · exact e
      · exact ih h
    · simp [e] at h
def prt : List Int → List (Int × List Int)
  | [] => []
  | x :: xs => (x, tk x xs) :: prt (dp x xs)
termination_by l => l.length
decreasing_by simp only [List.length_cons]; have := dp_len x xs; omega
theorem prt_nil : prt [] = [] := by simp [prt]
theorem prt_cons (x : Int) (xs : List Int) : prt (x :: xs) = (x, tk x xs) :: prt (dp x xs) := by rw [prt]
/-- a list by its length -/
theorem len_ind {P : List Int → Prop} (nil : P []) (cons : ∀ x xs, (∀ ys : List Int, ys.length ≤ xs.length → P ys) → P (x :: xs)) : ∀ l, P l := by
  have key : ∀ (n : Nat) (l : List Int), l.length = n → P l := fun n => by
    induction n using Nat.strongRecOn with
    | _ n ih =>
      intro l hn
      cases l with
      | nil => exact nil
      | cons x xs => exact cons x xs fun ys hy => ih ys.length (by simp at hn; omega) ys rfl
  exact fun l => key _ l rfl
def unprt (P : List (Int × List Int)) : List Int := (P.map fun p => p.1 :: p.2).flatten
theorem unprt_prt : ∀ l, unprt (prt l) = l := len_ind (by simp [prt_nil, unprt]) fun x xs ih => by
  have h := ih (dp x xs) (dp_len x xs)
  rw [prt_cons]
  simp only [unprt, List.map_cons, List.flatten_cons] at h ⊢
  rw [h, List.cons_append, tk_dp]
/-- the first value is at least x -/
def Hd (x : Int) (l : List Int) : Prop := ∀ z ∈ l.head?, x ≤ z
theorem hd_dp (x : Int) (l : List Int) : Hd x (dp x l) := by
  intro z hz
  unfold dp at hz
  induction l with
  | nil => simp at hz
  | cons a l ih =>
    by_cases e : a < x
    · simp [e] at hz; exact ih hz
    · simp [e] at hz; omega
theorem hd_mono {x y : Int} {l : List Int} (h : Hd y l) (e : x ≤ y) : Hd x l := fun z hz => Int.le_trans e (h z hz)
theorem tk_app {x : Int} : ∀ {A : List Int} {C : List Int}, (∀ z ∈ A, z < x) → Hd x C → tk x (A ++ C) = A ∧ dp x (A ++ C) = C
  | [], C, _, h => by
    cases C with
    | nil => exact ⟨rfl, rfl⟩
    | cons c C =>
      have : ¬ c < x := by have := h c rfl; omega
      simp [tk, dp, this]
  | a :: A, C, hA, h => by
    have ha : a < x := hA a List.mem_cons_self
    have ih := tk_app (A := A) (fun z hz => hA z (List.mem_cons_of_mem _ hz)) h
    simp only [tk, dp, List.cons_append, List.takeWhile_cons, List.dropWhile_cons, ha, decide_true, if_true] at ih ⊢
    exact ⟨by rw [ih.1], ih.2⟩
theorem prt_app {x : Int} {A C : List Int} (hA : ∀ z ∈ A, z < x) (hC : Hd x C) : prt (x :: (A ++ C)) = (x, A) :: prt C := by
  rw [prt_cons, (tk_app hA hC).1, (tk_app hA hC).2]
theorem hd_prt (x : Int) (l : List Int) : Hd x l ↔ ∀ p ∈ (prt l).head?, x ≤ p.1 := by
  cases l with
  | nil => simp [Hd, prt_nil]
  | cons a l => simp [Hd, prt_cons]
/-- the leaders never fall -/
def Srt (P : List (Int × List Int)) : Prop := P.Pairwise fun p q => p.1 ≤ q.1
theorem prt_ge {x : Int} : ∀ l : List Int, Hd x l → ∀ p ∈ prt l, x ≤ p.1 := len_ind (fun _ p hp => by simp [prt_nil] at hp) fun a l ih h p hp => by
  rw [prt_cons] at hp
  have ha : x ≤ a := h a rfl
  rcases List.mem_cons.mp hp with rfl | hp
  · exact ha
  · exact ih (dp a l) (dp_len a l) (hd_mono (hd_dp a l) ha) p hp
theorem prt_srt : ∀ l : List Int, Srt (prt l) := len_ind (by simp [prt_nil, Srt]) fun a l ih => by
  rw [prt_cons]
  exact List.pairwise_cons.mpr ⟨fun p hp => prt_ge _ (hd_dp a l) p hp, ih _ (dp_len a l)⟩
/-! ### union and intersection by parts -/
theorem uni_front : ∀ {A A' b : List Int}, (∀ z ∈ A, ∀ y ∈ b.head?, z < y) → uni (A ++ A') b = A ++ uni A' b
  | [], A', b, _ => rfl
  | a :: A, A', b, h => by
    cases b with
    | nil => rw [uni_nr, uni_nr]
    | cons y b =>
      have ha : a < y := h a List.mem_cons_self y rfl
      rw [List.cons_append, uni_lt _ _ ha, uni_front (A := A) fun z hz => h z (List.mem_cons_of_mem _ hz)]
      rfl
theorem uni_comm : ∀ a b : List Int, uni a b = uni b a :=
  both_ind (fun ys => by rw [uni_nl, uni_nr]) (fun x xs => by rw [uni_nl, uni_nr]) (fun x xs y ys h ih => by rw [uni_lt _ _ h, uni_gt _ _ h, ih]) (fun x xs y ys h ih => by rw [uni_lt _ _ h, uni_gt _ _ h, ih])
    fun x xs ys ih => by rw [uni_eq, uni_eq, ih]
theorem itr_comm : ∀ a b : List Int, itr a b = itr b a :=
  both_ind (fun ys => by rw [itr_nl, itr_nr]) (fun x xs => by rw [itr_nl, itr_nr]) (fun x xs y ys h ih => by rw [itr_lt _ _ h, itr_gt _ _ h, ih]) (fun x xs y ys h ih => by rw [itr_lt _ _ h, itr_gt _ _ h, ih])
    fun x xs ys ih => by rw [itr_eq, itr_eq, ih]
theorem itr_front : ∀ {A A' b : List Int}, (∀ z ∈ A, ∀ y ∈ b.head?, z < y) → itr (A ++ A') b = itr A' b
  | [], A', b, _ => rfl
  | a :: A, A', b, h => by
    cases b with
    | nil => rw [itr_nr, itr_nr]
    | cons y b =>
      have ha : a < y := h a List.mem_cons_self y rfl
      rw [List.cons_append, itr_lt _ _ ha, itr_front (A := A) fun z hz => h z (List.mem_cons_of_mem _ hz)]
theorem low_hd {x : Int} {A C : List Int} (hA : ∀ z ∈ A, z < x) (hC : Hd x C) : ∀ z ∈ A, ∀ y ∈ C.head?, z < y := fun z hz y hy => by
  have h1 := hA z hz
  have h2 := hC y hy
  omega
theorem uni_two {x : Int} : ∀ A B : List Int, ∀ {A' B' : List Int}, (∀ z ∈ A, z < x) → (∀ z ∈ B, z < x) → Hd x A' → Hd x B' → uni (A ++ A') (B ++ B') = uni A B ++ uni A' B' := by
  refine both_ind (fun B => ?_) (fun a A => ?_) (fun a A b B h ih => ?_) (fun a A b B h ih => ?_) fun a A B ih => ?_
  · intro A' B' hA hB h1 h2
    rw [List.nil_append, uni_nl, uni_comm, uni_front (low_hd hB h1), uni_comm]
  · intro A' B' hA hB h1 h2
    rw [List.nil_append, uni_nr, uni_front (low_hd hA h2)]
  · intro A' B' hA hB h1 h2
    have := ih (A' := A') (B' := B') (fun z hz => hA z (List.mem_cons_of_mem _ hz)) hB h1 h2
    simp only [List.cons_append] at this ⊢
    rw [uni_lt _ _ h, uni_lt _ _ h, this, List.cons_append]
  · intro A' B' hA hB h1 h2
    have := ih (A' := A') (B' := B') hA (fun z hz => hB z (List.mem_cons_of_mem _ hz)) h1 h2
    simp only [List.cons_append] at this ⊢
    rw [uni_gt _ _ h, uni_gt _ _ h, this, List.cons_append]
  · intro A' B' hA hB h1 h2
    have := ih (A' := A') (B' := B') (fun z hz => hA z (List.mem_cons_of_mem _ hz)) (fun z hz => hB z (List.mem_cons_of_mem _ hz)) h1 h2
    simp only [List.cons_append] at this ⊢
    rw [uni_eq, uni_eq, this, List.cons_append]
theorem itr_two {x : Int} : ∀ A B : List Int, ∀ {A' B' : List Int}, (∀ z ∈ A, z < x) → (∀ z ∈ B, z < x) → Hd x A' → Hd x B' → itr (A ++ A') (B ++ B') = itr A B ++ itr A' B' := by
  refine both_ind (fun B => ?_) (fun a A => ?_) (fun a A b B h ih => ?_) (fun a A b B h ih => ?_) fun a A B ih => ?_
  · intro A' B' hA hB h1 h2
    rw [List.nil_append, itr_nl, itr_comm, itr_front (low_hd hB h1), itr_comm]
    rfl
  · intro A' B' hA hB h1 h2
    rw [List.nil_append, itr_nr, itr_front (low_hd hA h2)]
    rfl
  · intro A' B' hA hB h1 h2
    have := ih (A' := A') (B' := B') (fun z hz => hA z (List.mem_cons_of_mem _ hz)) hB h1 h2
    simp only [List.cons_append] at this ⊢
    rw [itr_lt _ _ h, itr_lt _ _ h, this]
  · intro A' B' hA hB h1 h2
    have := ih (A' := A') (B' := B') hA (fun z hz => hB z (List.mem_cons_of_mem _ hz)) h1 h2
    simp only [List.cons_append] at this ⊢
    rw [itr_gt _ _ h, itr_gt _ _ h, this]
  · intro A' B' hA hB h1 h2
    have := ih (A' := A') (B' := B') (fun z hz => hA z (List.mem_cons_of_mem _ hz)) (fun z hz => hB z (List.mem_cons_of_mem _ hz)) h1 h2
    simp only [List.cons_append] at this ⊢
    rw [itr_eq, itr_eq, this, List.cons_append]
theorem uni_mem : ∀ a b : List Int, ∀ z ∈ uni a b, z ∈ a ∨ z ∈ b :=
  both_ind (fun ys z hz => by rw [uni_nl] at hz; exact .inr hz) (fun x xs z hz => by rw [uni_nr] at hz; exact .inl hz)
    (fun x xs y ys h ih z hz => by
      rw [uni_lt _ _ h] at hz
      rcases List.mem_cons.mp hz with rfl | hz
      · exact .inl List.mem_cons_self
      · exact (ih z hz).imp (List.mem_cons_of_mem _) id)
    (fun x xs y ys h ih z hz => by
      rw [uni_gt _ _ h] at hz
      rcases List.mem_cons.mp hz with rfl | hz
      · exact .inr List.mem_cons_self
      · exact (ih z hz).imp id (List.mem_cons_of_mem _))
    fun x xs ys ih z hz => by
      rw [uni_eq] at hz
      rcases List.mem_cons.mp hz with rfl | hz
      · exact .inl List.mem_cons_self
      · exact (ih z hz).imp (List.mem_cons_of_mem _) (List.mem_cons_of_mem _)
theorem itr_mem : ∀ a b : List Int, ∀ z ∈ itr a b, z ∈ a :=
  both_ind (fun ys z hz => by rw [itr_nl] at hz; cases hz) (fun x xs z hz => by rw [itr_nr] at hz; cases hz) (fun x xs y ys h ih z hz => by rw [itr_lt _ _ h] at hz; exact List.mem_cons_of_mem _ (ih z hz))
    (fun x xs y ys h ih z hz => by rw [itr_gt _ _ h] at hz; exact ih z hz) fun x xs ys ih z hz => by
      rw [itr_eq] at hz
      rcases List.mem_cons.mp hz with rfl | hz
      · exact List.mem_cons_self
      · exact List.mem_cons_of_mem _ (ih z hz)
theorem uni_hd {x : Int} {a b : List Int} (h1 : Hd x a) (h2 : Hd x b) : Hd x (uni a b) := by
  cases a with
  | nil => rw [uni_nl]; exact h2
  | cons p a =>
    cases b with
    | nil => rw [uni_nr]; exact h1
    | cons q b =>
      have e1 := h1 p rfl
      have e2 := h2 q rfl
      rcases Int.lt_trichotomy p q with h | h | h
      · rw [uni_lt _ _ h]; intro z hz; cases hz; exact e1
      · subst h; rw [uni_eq]; intro z hz; cases hz; exact e1
      · rw [uni_gt _ _ h]; intro z hz; cases hz; exact e2
abbrev Pt := Int × List Int
def pu (f : List Int → List Int → List Int) : List Pt → List Pt → List Pt
  | [], Q => Q
  | p :: P, [] => p :: P
  | p :: P, q :: Q => if p.1 < q.1 then p :: pu f P (q :: Q) else if q.1 < p.1 then q :: pu f (p :: P) Q else (p.1, f p.2 q.2) :: pu f P Q
termination_by P Q => P.length + Q.length
def pn (f : List Int → List Int → List Int) : List Pt → List Pt → List Pt
  | [], _ => []
  | _ :: _, [] => []
  | p :: P, q :: Q => if p.1 < q.1 then pn f P (q :: Q) else if q.1 < p.1 then pn f (p :: P) Q else (p.1, f p.2 q.2) :: pn f P Q
termination_by P Q => P.length + Q.length
theorem pu_nr (f : List Int → List Int → List Int) (P : List Pt) : pu f P [] = P := by cases P <;> simp [pu]
theorem pn_nr (f : List Int → List Int → List Int) (P : List Pt) : pn f P [] = [] := by cases P <;> simp [pn]
theorem two_ind {P : List Int → List Int → Prop} (nl : ∀ ys, P [] ys) (nr : ∀ x xs, P (x :: xs) []) (cons : ∀ x xs y ys, (∀ a b : List Int, a.length + b.length < xs.length + ys.length + 2 → P a b) → P (x :: xs) (y :: ys)) : ∀ a b, P a b := by
  have key : ∀ (n : Nat) (a b : List Int), a.length + b.length = n → P a b := fun n => by
    induction n using Nat.strongRecOn with
    | _ n ih =>
      intro a b hn
      cases a with
      | nil => exact nl b
      | cons x a =>
        cases b with
        | nil => exact nr x a
        | cons y b =>
          simp only [List.length_cons] at hn
          exact cons x a y b fun c d h => ih (c.length + d.length) (by omega) c d rfl
  exact fun a b => key _ a b rfl
theorem prt_uni : ∀ a b, prt (uni a b) = pu uni (prt a) (prt b) := by
  refine two_ind (fun ys => by simp [uni_nl, prt_nil, pu]) (fun x xs => by rw [uni_nr, prt_nil, pu_nr]) fun x xs y ys ih => ?_
  have ex := tk_dp x xs
  have ey := tk_dp y ys
  have lx := dp_len x xs
  have ly := dp_len y ys
  rw [prt_cons x xs, prt_cons y ys]
  rcases Int.lt_trichotomy x y with h | h | h
  · rw [pu, if_pos h, uni_lt _ _ h]
    have hA : ∀ z ∈ tk x xs, ∀ w ∈ (y :: ys).head?, z < w := fun z hz w hw => by
      have := tk_lt hz
      cases hw; omega
    conv => lhs; rw [← ex]
    rw [uni_front hA, prt_app (fun z hz => tk_lt hz) (uni_hd (hd_dp x xs) (fun z hz => by cases hz; omega)), ih (dp x xs) (y :: ys) (by simp only [List.length_cons]; omega), prt_cons y ys]
  · subst h
    rw [pu, if_neg (Int.lt_irrefl _), if_neg (Int.lt_irrefl _), uni_eq]
    conv => lhs; rw [← ex, ← ey]
    rw [uni_two _ _ (fun z hz => tk_lt hz) (fun z hz => tk_lt hz) (hd_dp x xs) (hd_dp x ys), prt_app (fun z hz => (uni_mem _ _ z hz).elim tk_lt tk_lt) (uni_hd (hd_dp x xs) (hd_dp x ys)), ih (dp x xs) (dp x ys) (by omega)]
  · rw [pu, if_neg (by omega), if_pos h, uni_comm, uni_lt _ _ h]
    have hA : ∀ z ∈ tk y ys, ∀ w ∈ (x :: xs).head?, z < w := fun z hz w hw => by
      have := tk_lt hz
      cases hw; omega
    conv => lhs; rw [← ey]
    rw [uni_front hA, prt_app (fun z hz => tk_lt hz) (uni_hd (hd_dp y ys) (fun z hz => by cases hz; omega)), uni_comm, ih (x :: xs) (dp y ys) (by simp only [List.length_cons]; omega), prt_cons x xs]
theorem pn_ge {f : List Int → List Int → List Int} {x : Int} : ∀ (n : Nat) (P Q : List Pt), P.length + Q.length = n → (∀ p ∈ P, x ≤ p.1) → ∀ p ∈ pn f P Q, x ≤ p.1 := fun n => by
  induction n using Nat.strongRecOn with
  | _ n ih =>
    intro P Q hn h p hp
    cases P with
    | nil => simp [pn] at hp
    | cons a P =>
      cases Q with
      | nil => simp [pn] at hp
      | cons b Q =>
        simp only [List.length_cons] at hn
        rw [pn] at hp
        split at hp
        · exact ih (P.length + (Q.length + 1)) (by omega) P (b :: Q) (by simp) (fun q hq => h q (List.mem_cons_of_mem _ hq)) p hp
        · split at hp
          · exact ih (P.length + 1 + Q.length) (by omega) (a :: P) Q (by simp) h p hp
          · rcases List.mem_cons.mp hp with rfl | hp
            · exact h a List.mem_cons_self
            · exact ih (P.length + Q.length) (by omega) P Q rfl (fun q hq => h q (List.mem_cons_of_mem _ hq)) p hp
theorem prt_itr : ∀ a b, prt (itr a b) = pn itr (prt a) (prt b) := by
  refine two_ind (fun ys => by simp [itr_nl, prt_nil, pn]) (fun x xs => by rw [itr_nr, prt_nil, pn_nr]) fun x xs y ys ih => ?_
  have ex := tk_dp x xs
  have ey := tk_dp y ys
  have lx := dp_len x xs
  have ly := dp_len y ys
  rw [prt_cons x xs, prt_cons y ys]
  rcases Int.lt_trichotomy x y with h | h | h
  · rw [pn, if_pos h, itr_lt _ _ h]
    have hA : ∀ z ∈ tk x xs, ∀ w ∈ (y :: ys).head?, z < w := fun z hz w hw => by
      have := tk_lt hz
      cases hw; omega
    conv => lhs; rw [← ex]
    rw [itr_front hA, ih (dp x xs) (y :: ys) (by simp only [List.length_cons]; omega), prt_cons y ys]
  · subst h
    rw [pn, if_neg (Int.lt_irrefl _), if_neg (Int.lt_irrefl _), itr_eq]
    conv => lhs; rw [← ex, ← ey]
    have hi := ih (dp x xs) (dp x ys) (by omega)
    rw [itr_two _ _ (fun z hz => tk_lt hz) (fun z hz => tk_lt hz) (hd_dp x xs) (hd_dp x ys), prt_app (fun z hz => tk_lt (itr_mem _ _ z hz)), hi]
    rw [hd_prt, hi]
    exact fun p hp => pn_ge _ _ _ rfl (prt_ge _ (hd_dp x xs)) p (List.mem_of_mem_head? hp)
  · rw [pn, if_neg (by omega), if_pos h, itr_comm, itr_lt _ _ h]
    have hA : ∀ z ∈ tk y ys, ∀ w ∈ (x :: xs).head?, z < w := fun z hz w hw => by
      have := tk_lt hz
      cases hw; omega
    conv => lhs; rw [← ey]
    rw [itr_front hA, itr_comm, ih (x :: xs) (dp y ys) (by simp only [List.length_cons]; omega), prt_cons x xs]

/-! ### ways down -/
def flt (v : Int) (P : List Pt) : List Pt := P.filter fun p => decide (p.1 = v)
theorem flt_cons (v : Int) (p : Pt) (P : List Pt) : flt v (p :: P) = if p.1 = v then p :: flt v P else flt v P := by
  unfold flt
  by_cases h : p.1 = v <;> simp [h]
theorem flt_none {v : Int} {P : List Pt} (h : ∀ p ∈ P, p.1 ≠ v) : flt v P = [] := by
  unfold flt
  rw [List.filter_eq_nil_iff]
  intro p hp
  simpa using h p hp
def zu (f : List Int → List Int → List Int) : List Pt → List Pt → List Pt
  | [], Q => Q
  | p :: P, [] => p :: P
  | p :: P, q :: Q => (p.1, f p.2 q.2) :: zu f P Q
def zn (f : List Int → List Int → List Int) : List Pt → List Pt → List Pt
  | p :: P, q :: Q => (p.1, f p.2 q.2) :: zn f P Q
  | _, _ => []
theorem zu_nr (f : List Int → List Int → List Int) (P : List Pt) : zu f P [] = P := by cases P <;> rfl
theorem zn_nr (f : List Int → List Int → List Int) (P : List Pt) : zn f P [] = [] := by cases P <;> rfl
theorem Srt.tail {p : Pt} {P : List Pt} (h : Srt (p :: P)) : Srt P := (List.pairwise_cons.mp h).2
theorem Srt.ge {p : Pt} {P : List Pt} (h : Srt (p :: P)) : ∀ q ∈ p :: P, p.1 ≤ q.1 := fun q hq => by
  rcases List.mem_cons.mp hq with rfl | hq
  · exact Int.le_refl _
  · exact (List.pairwise_cons.mp h).1 q hq
theorem pu_flt (f : List Int → List Int → List Int) (v : Int) : ∀ (n : Nat) (P Q : List Pt), P.length + Q.length = n → Srt P → Srt Q → flt v (pu f P Q) = zu f (flt v P) (flt v Q) := fun n => by
  induction n using Nat.strongRecOn with
  | _ n ih =>
    intro P Q hn h1 h2
    cases P with
    | nil => simp [pu, flt, zu]
    | cons p P =>
      cases Q with
      | nil => rw [pu_nr]; simp [flt, zu_nr]
      | cons q Q =>
        simp only [List.length_cons] at hn
        rw [pu]
        rcases Int.lt_trichotomy p.1 q.1 with h | h | h
        · rw [if_pos h, flt_cons, ih (P.length + (Q.length + 1)) (by omega) P (q :: Q) (by simp) h1.tail h2, flt_cons v p P]
          by_cases hv : p.1 = v
          · rw [if_pos hv, if_pos hv, flt_none (P := q :: Q) fun r hr => (by have := h2.ge r hr; omega), zu_nr, zu_nr]
          · rw [if_neg hv, if_neg hv]
        · rw [if_neg (by omega), if_neg (by omega), flt_cons, ih (P.length + Q.length) (by omega) P Q rfl h1.tail h2.tail, flt_cons v p P, flt_cons v q Q]
          by_cases hv : p.1 = v
          · rw [if_pos hv, if_pos hv, if_pos (by omega)]; rfl
          · rw [if_neg hv, if_neg hv, if_neg (by omega)]
        · rw [if_neg (by omega), if_pos h, flt_cons, ih (P.length + 1 + Q.length) (by omega) (p :: P) Q (by simp) h1 h2.tail, flt_cons v q Q]
          by_cases hv : q.1 = v
          · rw [if_pos hv, if_pos hv, flt_none (P := p :: P) fun r hr => (by have := h1.ge r hr; omega)]; rfl
          · rw [if_neg hv, if_neg hv]
theorem pn_flt (f : List Int → List Int → List Int) (v : Int) : ∀ (n : Nat) (P Q : List Pt), P.length + Q.length = n → Srt P → Srt Q → flt v (pn f P Q) = zn f (flt v P) (flt v Q) := fun n => by
  induction n using Nat.strongRecOn with
  | _ n ih =>
    intro P Q hn h1 h2
    cases P with
    | nil => simp [pn, flt, zn]
    | cons p P =>
      cases Q with
      | nil => rw [pn_nr]; simp [flt, zn_nr]
      | cons q Q =>
        simp only [List.length_cons] at hn
        rw [pn]
        rcases Int.lt_trichotomy p.1 q.1 with h | h | h
        · rw [if_pos h, ih (P.length + (Q.length + 1)) (by omega) P (q :: Q) (by simp) h1.tail h2, flt_cons v p P]
          by_cases hv : p.1 = v
          · rw [if_pos hv, flt_none (P := q :: Q) fun r hr => (by have := h2.ge r hr; omega), zn_nr, zn_nr]
          · rw [if_neg hv]
        · rw [if_neg (by omega), if_neg (by omega), flt_cons, ih (P.length + Q.length) (by omega) P Q rfl h1.tail h2.tail, flt_cons v p P, flt_cons v q Q]
          by_cases hv : p.1 = v
          · rw [if_pos hv, if_pos hv, if_pos (by omega)]; rfl
          · rw [if_neg hv, if_neg hv, if_neg (by omega)]
        · rw [if_neg (by omega), if_pos h, ih (P.length + 1 + Q.length) (by omega) (p :: P) Q (by simp) h1 h2.tail, flt_cons v q Q]
          by_cases hv : q.1 = v
          · rw [if_pos hv, flt_none (P := p :: P) fun r hr => (by have := h1.ge r hr; omega)]
            rfl
          · rw [if_neg hv]
def sub (l : List Int) (v : Int) (n : Nat) : Option (List Int) := ((flt v (prt l))[n]?).map (·.2)
def jnU (f : List Int → List Int → List Int) : Option (List Int) → Option (List Int) → Option (List Int)
  | none, o => o
  | some s, none => some s
  | some s, some t => some (f s t)
def jnN (f : List Int → List Int → List Int) : Option (List Int) → Option (List Int) → Option (List Int)
  | some s, some t => some (f s t)
  | _, _ => none
theorem zu_get (f : List Int → List Int → List Int) : ∀ (P Q : List Pt) (n : Nat), ((zu f P Q)[n]?).map (·.2) = jnU f ((P[n]?).map (·.2)) ((Q[n]?).map (·.2))
  | [], Q, n => by simp [zu, jnU]
  | p :: P, [], n => by cases h : (p :: P)[n]? <;> simp [zu, h, jnU]
  | p :: P, q :: Q, 0 => by simp [zu, jnU]
  | p :: P, q :: Q, n + 1 => by simpa [zu] using zu_get f P Q n
theorem zn_get (f : List Int → List Int → List Int) : ∀ (P Q : List Pt) (n : Nat), ((zn f P Q)[n]?).map (·.2) = jnN f ((P[n]?).map (·.2)) ((Q[n]?).map (·.2))
  | [], Q, n => by simp [zn, jnN]
  | p :: P, [], n => by cases h : (p :: P)[n]? <;> simp [zn, jnN]
  | p :: P, q :: Q, 0 => by simp [zn, jnN]
  | p :: P, q :: Q, n + 1 => by simpa [zn] using zn_get f P Q n
theorem sub_uni (a b : List Int) (v : Int) (n : Nat) : sub (uni a b) v n = jnU uni (sub a v n) (sub b v n) := by
  unfold sub
  rw [prt_uni, pu_flt _ _ _ _ _ rfl (prt_srt a) (prt_srt b), zu_get]
theorem sub_itr (a b : List Int) (v : Int) (n : Nat) : sub (itr a b) v n = jnN itr (sub a v n) (sub b v n) := by
  unfold sub
  rw [prt_itr, pn_flt _ _ _ _ _ rfl (prt_srt a) (prt_srt b), zn_get]
/-- is there such a way down? -/
def Mp : List (Int × Nat) → List Int → Bool
  | [], _ => true
  | (v, n) :: q, l => match sub l v n with
    | none => false
    | some b => Mp q b
theorem mp_uni : ∀ (p : List (Int × Nat)) (a b : List Int), Mp p (uni a b) = (Mp p a || Mp p b)
  | [], a, b => rfl
  | (v, n) :: q, a, b => by
    simp only [Mp, sub_uni]
    cases sub a v n with
    | none => cases sub b v n <;> simp [jnU]
    | some s => cases sub b v n with
      | none => simp [jnU]
      | some t => simp [jnU, mp_uni q s t]
theorem mp_itr : ∀ (p : List (Int × Nat)) (a b : List Int), Mp p (itr a b) = (Mp p a && Mp p b)
  | [], a, b => rfl
  | (v, n) :: q, a, b => by
    simp only [Mp, sub_itr]
    cases sub a v n with
    | none => cases sub b v n <;> simp [jnN]
    | some s => cases sub b v n with
      | none => simp [jnN]
      | some t => simp [jnN, mp_itr q s t]
theorem prt_short : ∀ l : List Int, ∀ p ∈ prt l, p.2.length < l.length := len_ind (fun p hp => by simp [prt_nil] at hp) fun x xs ih p hp => by
  rw [prt_cons] at hp
  have e := congrArg List.length (tk_dp x xs)
  rw [List.length_append] at e
  rcases List.mem_cons.mp hp with rfl | hp
  · simp only [List.length_cons]; omega
  · have := ih (dp x xs) (dp_len x xs) p hp
    simp only [List.length_cons]; omega
theorem sub_short {l s : List Int} {v : Int} {n : Nat} (h : sub l v n = some s) : s.length < l.length := by
  unfold sub at h
  cases e : (flt v (prt l))[n]? with
  | none => rw [e] at h; cases h
  | some p =>
    rw [e] at h
    cases h
    exact prt_short l p (List.mem_filter.mp (List.mem_of_getElem? e)).1
theorem srt_ext : ∀ {P Q : List Pt}, Srt P → Srt Q → (∀ v, flt v P = flt v Q) → P = Q
  | [], [], _, _, _ => rfl
  | [], q :: Q, _, _, h => by have := h q.1; simp [flt] at this
  | p :: P, [], _, _, h => by have := h p.1; simp [flt] at this
  | p :: P, q :: Q, h1, h2, h => by
    have mem : ∀ {p : Pt} {P Q : List Pt}, flt p.1 (p :: P) = flt p.1 Q → ∃ r ∈ Q, r.1 = p.1 := fun {p P Q} e => by
      have : p ∈ flt p.1 Q := by rw [← e, flt_cons, if_pos rfl]; exact List.mem_cons_self
      obtain ⟨h1, h2⟩ := List.mem_filter.mp this
      exact ⟨p, h1, by simpa using h2⟩
    obtain ⟨r, hr, er⟩ := mem (h p.1)
    obtain ⟨s, hs, es⟩ := mem (h q.1).symm
    have a1 := h2.ge r hr
    have a2 := h1.ge s hs
    have e : p.1 = q.1 := by omega
    have k := h p.1
    rw [flt_cons, flt_cons, if_pos rfl, if_pos e.symm] at k
    obtain ⟨rfl, k2⟩ := List.cons.inj k
    rw [srt_ext h1.tail h2.tail fun v => ?_]
    by_cases hv : p.1 = v
    · subst hv; exact k2
    · have := h v
      rw [flt_cons, flt_cons, if_neg hv, if_neg hv] at this
      exact this
theorem flt_key {v : Int} {P : List Pt} : flt v P = ((flt v P).map (·.2)).map fun s => (v, s) := by
  rw [List.map_map]
  conv => lhs; rw [← List.map_id (flt v P)]
  refine List.map_congr_left fun p hp => ?_
  have := (List.mem_filter.mp hp).2
  simp at this
  simp [← this]
theorem mp_ext : ∀ a b : List Int, (∀ p, Mp p a = Mp p b) → a = b := by
  have key : ∀ (n : Nat) (a b : List Int), a.length = n → (∀ p, Mp p a = Mp p b) → a = b := fun n => by
    induction n using Nat.strongRecOn with
    | _ n ih =>
      intro a b hn h
      have hs : ∀ v n, sub a v n = sub b v n := fun v m => by
        have h0 := h [(v, m)]
        have h1 := fun q => h ((v, m) :: q)
        simp only [Mp] at h0 h1
        cases ea : sub a v m with
        | none => cases eb : sub b v m with
          | none => rfl
          | some t => rw [ea, eb] at h0; cases h0
        | some s => cases eb : sub b v m with
          | none => rw [ea, eb] at h0; cases h0
          | some t =>
            rw [ea, eb] at h1
            rw [ih s.length (by have := sub_short ea; omega) s t rfl h1]
      have e : prt a = prt b := srt_ext (prt_srt a) (prt_srt b) fun v => by
        rw [flt_key (P := prt a), flt_key (P := prt b)]
        congr 1
        refine List.ext_getElem? fun m => ?_
        rw [List.getElem?_map, List.getElem?_map]
        exact hs v m
      rw [← unprt_prt a, ← unprt_prt b, e]
  exact fun a b => key _ a b rfl
/-! ### the equations -/
theorem uni_idem (a : List Int) : uni a a = a := mp_ext _ _ fun p => by rw [mp_uni]; cases Mp p a <;> rfl
theorem itr_idem (a : List Int) : itr a a = a := mp_ext _ _ fun p => by rw [mp_itr]; cases Mp p a <;> rfl
theorem uni_assoc (a b c : List Int) : uni (uni a b) c = uni a (uni b c) := mp_ext _ _ fun p => by simp only [mp_uni, Bool.or_assoc]
theorem itr_assoc (a b c : List Int) : itr (itr a b) c = itr a (itr b c) := mp_ext _ _ fun p => by simp only [mp_itr, Bool.and_assoc]
theorem itr_dist (a b c : List Int) : itr a (uni b c) = uni (itr a b) (itr a c) := mp_ext _ _ fun p => by simp only [mp_itr, mp_uni]; cases Mp p a <;> rfl
theorem uni_dist (a b c : List Int) : uni a (itr b c) = itr (uni a b) (uni a c) := mp_ext _ _ fun p => by simp only [mp_itr, mp_uni]; cases Mp p a <;> simp
theorem uni_abs (a b : List Int) : uni a (itr a b) = a := mp_ext _ _ fun p => by simp only [mp_itr, mp_uni]; cases Mp p a <;> simp
theorem itr_abs (a b : List Int) : itr a (uni a b) = a := mp_ext _ _ fun p => by simp only [mp_itr, mp_uni]; cases Mp p a <;> simp
theorem inc_up (a b : List Int) : inc (uni a b) a = true := by
  rw [inc_itr, decide_eq_true_eq, itr_comm, itr_abs]
theorem inc_dn (a b : List Int) : inc a (itr a b) = true := by
  rw [inc_uni, decide_eq_true_eq, uni_abs]
theorem inc_ud (a b : List Int) : inc (uni a b) (itr a b) = true := by
  rw [inc_itr, decide_eq_true_eq]
  exact mp_ext _ _ fun p => by simp only [mp_itr, mp_uni]; cases Mp p a <;> simp
theorem inc_tr {a b c : List Int} (h1 : inc a b = true) (h2 : inc b c = true) : inc a c = true := by
  rw [inc_itr, decide_eq_true_eq] at h1 h2 ⊢
  rw [← h2, ← itr_assoc, h1]

/-! ### units, falls, merging by parts -/
def ut (p : Pt) : List Int := p.1 :: p.2
def uts (l : List Int) : List (List Int) := (prt l).map ut
theorem uts_flat (l : List Int) : (uts l).flatten = l := unprt_prt l
def ustep (us : List (List Int)) (v : Int) : List (List Int) := match us.getLast? with
  | none => [[v]]
  | some u => if u.headD 0 ≤ v then us ++ [[v]] else us.dropLast ++ [u ++ [v]]
theorem tk_all {x : Int} {l : List Int} (h : dp x l = []) : tk x l = l ∧ ∀ z ∈ l, z < x := by
  have e := tk_dp x l
  rw [h, List.append_nil] at e
  exact ⟨e, fun z hz => by rw [← e] at hz; exact tk_lt hz⟩
theorem dp_snoc {x v : Int} {l : List Int} (h : dp x l ≠ []) : tk x (l ++ [v]) = tk x l ∧ dp x (l ++ [v]) = dp x l ++ [v] := by
  induction l with
  | nil => exact absurd rfl h
  | cons a l ih =>
    by_cases e : a < x
    · have h' : dp x l ≠ [] := by simpa [dp, e] using h
      have := ih h'
      simp only [tk, dp, List.cons_append, List.takeWhile_cons, List.dropWhile_cons, e, decide_true, if_true] at this ⊢
      exact ⟨by rw [this.1], this.2⟩
    · simp [tk, dp, e]
theorem prt_ne {l : List Int} (h : l ≠ []) : prt l ≠ [] := by
  cases l with
  | nil => exact absurd rfl h
  | cons a l => rw [prt_cons]; simp
theorem uts_snoc (v : Int) : ∀ l : List Int, uts (l ++ [v]) = ustep (uts l) v := len_ind (by simp [uts, prt_nil, prt_cons, tk, dp, ustep, ut]) fun x xs ih => by
  by_cases h : dp x xs = []
  · obtain ⟨e1, e2⟩ := tk_all h
    have hx : uts (x :: xs) = [x :: xs] := by simp [uts, prt_cons, h, prt_nil, e1, ut]
    rw [hx, List.cons_append]
    by_cases hv : x ≤ v
    · have : prt (x :: (xs ++ [v])) = (x, xs) :: prt [v] := prt_app e2 (fun z hz => by cases hz; exact hv)
      simp [uts, this, prt_cons, tk, dp, prt_nil, ustep, ut, hv]
    · have : prt (x :: (xs ++ [v])) = (x, xs ++ [v]) :: prt [] := by
        have q := prt_app (x := x) (A := xs ++ [v]) (C := []) (fun z hz => by
          rcases List.mem_append.mp hz with q | q
          · exact e2 z q
          · have q' := List.mem_singleton.mp q
            omega) (fun z hz => by simp at hz)
        rwa [List.append_nil] at q
      simp [uts, this, prt_nil, ustep, ut, hv]
  · have ih' := ih (dp x xs) (dp_len x xs)
    have e := dp_snoc (v := v) h
    have h1 : uts (x :: xs ++ [v]) = (x :: tk x xs) :: uts (dp x xs ++ [v]) := by
      simp only [uts, List.cons_append, prt_cons, e.1, e.2, List.map_cons, ut]
    have h2 : uts (x :: xs) = (x :: tk x xs) :: uts (dp x xs) := by simp only [uts, prt_cons, List.map_cons, ut]
    have hne : uts (dp x xs) ≠ [] := by
      have := prt_ne h
      simp [uts, this]
    rw [h1, h2, ih']
    generalize uts (dp x xs) = us at hne
    cases us with
    | nil => exact absurd rfl hne
    | cons u us =>
      unfold ustep
      rw [List.getLast?_cons_cons]
      cases hl : (u :: us).getLast? with
      | none => simp at hl
      | some w =>
        simp only
        split <;> simp
theorem uts_fold (l : List Int) : l.foldl ustep [] = uts l := by
  have key : ∀ (l p : List Int), l.foldl ustep (uts p) = uts (p ++ l) := fun l => by
    induction l with
    | nil => intro p; simp
    | cons v l ih => intro p; rw [List.foldl_cons, ← uts_snoc, ih]; simp
  have := key l []
  simpa [uts, prt_nil] using this
theorem uts_cons {l u : List Int} (h : u ∈ uts l) : ∃ x xs, u = x :: xs ∧ ∀ z ∈ xs, z < x := by
  obtain ⟨p, hp, rfl⟩ := List.mem_map.mp h
  refine ⟨p.1, p.2, rfl, ?_⟩
  have key : ∀ l : List Int, ∀ p ∈ prt l, ∀ z ∈ p.2, z < p.1 := len_ind (fun p hp => by simp [prt_nil] at hp) fun x xs ih p hp => by
    rw [prt_cons] at hp
    rcases List.mem_cons.mp hp with rfl | hp
    · exact fun z hz => tk_lt hz
    · exact ih _ (dp_len x xs) p hp
  exact key l p hp
/-! falls -/
def fls : List Int → List (Int × Int)
  | a :: b :: r => if b < a then (a, b) :: fls (b :: r) else fls (b :: r)
  | _ => []
theorem fls_app {x : Int} : ∀ {A : List Int} {C : List Int}, (∀ z ∈ A, z ≤ x) → Hd x C → fls (A ++ C) = fls A ++ fls C
  | [], C, _, _ => rfl
  | [a], C, hA, hC => by
    cases C with
    | nil => rfl
    | cons c C =>
      have h1 := hA a List.mem_cons_self
      have h2 := hC c rfl
      simp only [List.cons_append, List.nil_append, fls]
      rw [if_neg (by omega)]
  | a :: b :: A, C, hA, hC => by
    have ih := fls_app (A := b :: A) (C := C) (fun z hz => hA z (List.mem_cons_of_mem _ hz)) hC
    simp only [List.cons_append, fls] at ih ⊢
    split <;> simp [ih]
theorem fls_uts : ∀ l : List Int, fls l = ((uts l).map fls).flatten := len_ind (by simp [uts, prt_nil, fls]) fun x xs ih => by
  have h2 : uts (x :: xs) = (x :: tk x xs) :: uts (dp x xs) := by simp only [uts, prt_cons, List.map_cons, ut]
  have e : x :: xs = (x :: tk x xs) ++ dp x xs := by rw [List.cons_append, tk_dp]
  rw [h2, List.map_cons, List.flatten_cons, ← ih _ (dp_len x xs)]
  conv => lhs; rw [e]
  exact fls_app (fun z hz => by
    rcases List.mem_cons.mp hz with rfl | hz
    · exact Int.le_refl _
    · exact Int.le_of_lt (tk_lt hz)) (hd_dp x xs)
theorem fls_nil : ∀ l : List Int, fls l = [] ↔ l.Pairwise (· ≤ ·)
  | [] => by simp [fls]
  | [a] => by simp [fls]
  | a :: b :: r => by
    have ih := fls_nil (b :: r)
    simp only [fls]
    split
    · rename_i h
      simp only [reduceCtorEq, List.pairwise_cons, false_iff]
      rintro ⟨q, _⟩
      have := q b List.mem_cons_self
      omega
    · rename_i h
      rw [ih]
      refine ⟨fun q => List.pairwise_cons.mpr ⟨fun z hz => ?_, q⟩, fun q => (List.pairwise_cons.mp q).2⟩
      rcases List.mem_cons.mp hz with rfl | hz
      · omega
      · have := (List.pairwise_cons.mp q).1 z hz
        omega
theorem srt_iff (l : List Int) : decide (l = srt l) = decide (fls l = []) := by
  rw [decide_eq_decide, fls_nil]
  refine ⟨fun h => ?_, fun h => sorted_eq (srt_perm l).symm h (srt_sorted l)⟩
  rw [h]
  exact srt_sorted l
/-! merging -/
theorem mrg_frontL : ∀ {A A' b : List Int}, (∀ z ∈ A, ∀ y ∈ b.head?, z ≤ y) → mrg (A ++ A') b = A ++ mrg A' b
  | [], A', b, _ => rfl
  | a :: A, A', b, h => by
    cases b with
    | nil => rw [mrg_nr, mrg_nr]
    | cons y b =>
      have ha : ¬ y < a := by have := h a List.mem_cons_self y rfl; omega
      rw [List.cons_append, mrg_ge _ _ ha, mrg_frontL (A := A) fun z hz => h z (List.mem_cons_of_mem _ hz)]
      rfl
theorem mrg_frontR : ∀ {B B' a : List Int}, (∀ z ∈ B, ∀ x ∈ a.head?, z < x) → mrg a (B ++ B') = B ++ mrg a B'
  | [], B', a, _ => rfl
  | b :: B, B', a, h => by
    cases a with
    | nil => rw [mrg_nl, mrg_nl]
    | cons x a =>
      have hb : b < x := h b List.mem_cons_self x rfl
      rw [List.cons_append, mrg_lt _ _ hb, mrg_frontR (B := B) fun z hz => h z (List.mem_cons_of_mem _ hz)]
      rfl
theorem mrg_hd {x : Int} {a b : List Int} (h1 : Hd x a) (h2 : Hd x b) : Hd x (mrg a b) := by
  cases a with
  | nil => rw [mrg_nl]; exact h2
  | cons p a =>
    cases b with
    | nil => rw [mrg_nr]; exact h1
    | cons q b =>
      have e1 := h1 p rfl
      have e2 := h2 q rfl
      by_cases h : q < p
      · rw [mrg_lt _ _ h]; intro z hz; cases hz; exact e2
      · rw [mrg_ge _ _ h]; intro z hz; cases hz; exact e1
def pm : List Pt → List Pt → List Pt
  | [], Q => Q
  | p :: P, [] => p :: P
  | p :: P, q :: Q => if q.1 < p.1 then q :: pm (p :: P) Q else p :: pm P (q :: Q)
termination_by P Q => P.length + Q.length
theorem pm_nr (P : List Pt) : pm P [] = P := by cases P <;> simp [pm]
theorem prt_mrg : ∀ a b, prt (mrg a b) = pm (prt a) (prt b) := by
  refine two_ind (fun ys => by simp [mrg_nl, prt_nil, pm]) (fun x xs => by rw [mrg_nr, prt_nil, pm_nr]) fun x xs y ys ih => ?_
  have ex := tk_dp x xs
  have ey := tk_dp y ys
  have lx := dp_len x xs
  have ly := dp_len y ys
  rw [prt_cons x xs, prt_cons y ys, pm]
  by_cases h : y < x
  · rw [if_pos h, mrg_lt _ _ h]
    have hA : ∀ z ∈ tk y ys, ∀ w ∈ (x :: xs).head?, z < w := fun z hz w hw => by
      have := tk_lt hz
      cases hw; omega
    conv => lhs; rw [← ey]
    rw [mrg_frontR hA, prt_app (fun z hz => tk_lt hz) (mrg_hd (fun z hz => by cases hz; omega) (hd_dp y ys)), ih (x :: xs) (dp y ys) (by simp only [List.length_cons]; omega), prt_cons x xs]
  · rw [if_neg h, mrg_ge _ _ h]
    have hA : ∀ z ∈ tk x xs, ∀ w ∈ (y :: ys).head?, z ≤ w := fun z hz w hw => by
      have := tk_lt hz
      cases hw; omega
    conv => lhs; rw [← ex]
    rw [mrg_frontL hA, prt_app (fun z hz => tk_lt hz) (mrg_hd (hd_dp x xs) (fun z hz => by cases hz; omega)), ih (dp x xs) (y :: ys) (by simp only [List.length_cons]; omega), prt_cons y ys]
theorem pm_perm : ∀ (n : Nat) (P Q : List Pt), P.length + Q.length = n → (pm P Q).Perm (P ++ Q) := fun n => by
  induction n using Nat.strongRecOn with
  | _ n ih =>
    intro P Q hn
    cases P with
    | nil => simp [pm]
    | cons p P =>
      cases Q with
      | nil => rw [pm_nr, List.append_nil]
      | cons q Q =>
        simp only [List.length_cons] at hn
        rw [pm]
        split
        · exact ((ih (P.length + 1 + Q.length) (by omega) (p :: P) Q (by simp)).cons q).trans List.perm_middle.symm
        · exact (ih (P.length + (Q.length + 1)) (by omega) P (q :: Q) (by simp)).cons p
theorem pm_flt (v : Int) : ∀ (n : Nat) (P Q : List Pt), P.length + Q.length = n → Srt P → Srt Q → flt v (pm P Q) = flt v P ++ flt v Q := fun n => by
  induction n using Nat.strongRecOn with
  | _ n ih =>
    intro P Q hn h1 h2
    cases P with
    | nil => simp [pm, flt]
    | cons p P =>
      cases Q with
      | nil => rw [pm_nr]; simp [flt]
      | cons q Q =>
        simp only [List.length_cons] at hn
        rw [pm]
        by_cases h : q.1 < p.1
        · rw [if_pos h, flt_cons, ih (P.length + 1 + Q.length) (by omega) (p :: P) Q (by simp) h1 h2.tail, flt_cons v q Q]
          by_cases hv : q.1 = v
          · rw [if_pos hv, if_pos hv, flt_none (P := p :: P) fun r hr => (by have := h1.ge r hr; omega)]
            rfl
          · rw [if_neg hv, if_neg hv]
        · rw [if_neg h, flt_cons, ih (P.length + (Q.length + 1)) (by omega) P (q :: Q) (by simp) h1.tail h2, flt_cons v p P]
          by_cases hv : p.1 = v
          · rw [if_pos hv, if_pos hv]; rfl
          · rw [if_neg hv, if_neg hv]
/-! groups by keys -/
theorem srt_group : ∀ {P : List Pt} {ks : List Int}, Srt P → ks.Pairwise (· < ·) → (∀ p ∈ P, p.1 ∈ ks) → (ks.map fun k => flt k P).flatten = P := fun {P ks} hs hk hm => by
  refine srt_ext ?_ hs fun v => ?_
  · clear hm
    induction ks with
    | nil => exact List.Pairwise.nil
    | cons k ks ih =>
      obtain ⟨k1, k2⟩ := List.pairwise_cons.mp hk
      rw [List.map_cons, List.flatten_cons]
      refine List.pairwise_append.mpr ⟨?_, ih k2, fun p hp q hq => ?_⟩
      · refine List.Pairwise.filter _ hs
      · have e1 := (List.mem_filter.mp hp).2
        simp only [decide_eq_true_eq] at e1
        obtain ⟨l, hl, hq⟩ := List.mem_flatten.mp hq
        obtain ⟨k', hk', rfl⟩ := List.mem_map.mp hl
        have e2 := (List.mem_filter.mp hq).2
        simp only [decide_eq_true_eq] at e2
        have := k1 k' hk'
        omega
  · have ff : ∀ k, flt v (flt k P) = if k = v then flt v P else [] := fun k => by
      unfold flt
      rw [List.filter_filter]
      by_cases e : k = v
      · subst e; simp
      · rw [if_neg e, List.filter_eq_nil_iff]
        intro p _
        simp only [Bool.and_eq_true, decide_eq_true_eq, not_and]
        omega
    have key : ∀ ks : List Int, ks.Pairwise (· < ·) → flt v (ks.map fun k => flt k P).flatten = if v ∈ ks then flt v P else [] := fun ks => by
      induction ks with
      | nil => intro _; simp [flt]
      | cons k ks ih =>
        intro hk
        obtain ⟨k1, k2⟩ := List.pairwise_cons.mp hk
        have h0 : flt v ((flt k P) ++ (ks.map fun k => flt k P).flatten) = flt v (flt k P) ++ flt v (ks.map fun k => flt k P).flatten := by unfold flt; rw [List.filter_append]
        rw [List.map_cons, List.flatten_cons, h0, ff, ih k2]
        by_cases e : k = v
        · subst e
          rw [if_pos rfl, if_neg (fun h => by have := k1 k h; omega), if_pos List.mem_cons_self, List.append_nil]
        · rw [if_neg e, List.nil_append]
          have : (v ∈ k :: ks) ↔ v ∈ ks := by simp [Ne.symm e]
          simp only [this]
    rw [key ks hk]
    split
    · rfl
    · rename_i h
      refine (flt_none fun p hp e => h ?_).symm
      rw [← e]
      exact hm p hp
/-- the units with a leader -/
def wd (h : Int) (us : List (List Int)) : List (List Int) := us.filter fun u => decide (u.head? = some h)
theorem wd_ut (h : Int) (P : List Pt) : wd h (P.map ut) = (flt h P).map ut := by
  unfold wd flt
  rw [List.filter_map]
  congr 2
  funext p
  simp [ut]
theorem wd_app (h : Int) (a b : List (List Int)) : wd h (a ++ b) = wd h a ++ wd h b := List.filter_append ..
theorem wd_mrg (h : Int) (a b : List Int) : wd h (uts (mrg a b)) = wd h (uts a) ++ wd h (uts b) := by
  unfold uts
  rw [wd_ut, wd_ut, wd_ut, prt_mrg, pm_flt _ _ _ _ rfl (prt_srt a) (prt_srt b), List.map_append]
theorem uts_mrg {a b : List Int} {ks : List Int} (hk : ks.Pairwise (· < ·)) (hm : ∀ u ∈ uts a ++ uts b, u.headD 0 ∈ ks) : (ks.map fun k => wd k (uts a ++ uts b)).flatten = uts (mrg a b) := by
  have h1 : ∀ k, wd k (uts a ++ uts b) = (flt k (prt (mrg a b))).map ut := fun k => by
    rw [wd_app, ← wd_mrg]
    exact wd_ut k _
  have h2 : (ks.map fun k => wd k (uts a ++ uts b)) = (ks.map fun k => flt k (prt (mrg a b))).map (·.map ut) := by
    rw [List.map_map]
    exact List.map_congr_left fun k _ => h1 k
  rw [h2, ← List.map_flatten, srt_group (prt_srt _) hk]
  · rfl
  · intro p hp
    rw [prt_mrg] at hp
    have := (pm_perm _ (prt a) (prt b) rfl).mem_iff.mp hp
    refine hm (ut p) ?_
    unfold uts
    rw [← List.map_append]
    exact List.mem_map.mpr ⟨p, this, rfl⟩
theorem uts_perm (a b : List Int) : (uts (mrg a b)).Perm (uts a ++ uts b) := by
  unfold uts
  rw [prt_mrg, ← List.map_append]
  exact (pm_perm _ _ _ rfl).map ut
theorem fls_perm (a b : List Int) : (fls (mrg a b)).Perm (fls a ++ fls b) := by
  rw [fls_uts, fls_uts a, fls_uts b, ← List.flatten_append, ← List.map_append]
  exact ((uts_perm a b).map fls).flatten

theorem atI_last (xs : List D) (y : D) : atI (xs ++ [y]) (-1) = some y := by
  have h : ixN (xs ++ [y]).length (-1) = some xs.length := by
    unfold ixN
    simp
    omega
  unfold atI
  rw [h]
  simp
theorem cut_last (xs : List D) (y : D) : DL.cutD (xs ++ [y]) none (some (-1)) = xs := by
  unfold DL.cutD
  have h : HT.sIx (xs ++ [y]).length (xs ++ [y]).length (some (-1)) = xs.length := by
    unfold HT.sIx
    simp
    try omega
  rw [HT.sIx_none, h]
  simp
theorem okE_all {xs : List D} (h : ∀ x ∈ xs, Sm 1 100000 x) (hl : xs.length ≤ 10000) : okE (.list xs) = true := (Sm.list h (n := 10000) hl).eqOk
theorem il_small {u : List Int} (h : Bdd (10 ^ 30) u) (hl : u.length ≤ 1000) : Sm 1 100000 (il u) := (Sm.il h hl).mono (Nat.le_refl _) (by omega)
theorem okE_ul {us : List (List Int)} (hb : ∀ u ∈ us, Bdd (10 ^ 30) u) (hl : ∀ u ∈ us, u.length ≤ 1000) (hn : us.length ≤ 10000) : okE (.list (us.map il)) = true := okE_all (fun x hx => by
  obtain ⟨u, hu, rfl⟩ := List.mem_map.mp hx
  exact il_small (hb u hu) (hl u hu)) (by simpa using hn)
theorem uts_len (l : List Int) : (uts l).length ≤ l.length := by
  have key : ∀ l : List Int, (prt l).length ≤ l.length := len_ind (by simp [prt_nil]) fun x xs ih => by
    rw [prt_cons]
    have := ih _ (dp_len x xs)
    have := dp_len x xs
    simp only [List.length_cons]
    omega
  simpa [uts] using key l
theorem uts_mem {l u : List Int} (h : u ∈ uts l) : (∀ z ∈ u, z ∈ l) ∧ u.length ≤ l.length := by
  have e := uts_flat l
  refine ⟨fun z hz => by rw [← e]; exact List.mem_flatten.mpr ⟨u, h, hz⟩, ?_⟩
  rw [← e]
  exact List.Sublist.length_le (List.sublist_flatten_of_mem h)
theorem okE_uts {l : List Int} (hb : Bdd (10 ^ 30) l) (hl : l.length ≤ 1000) : okE (.list ((uts l).map il)) = true :=
  okE_ul (fun u hu z hz => hb z ((uts_mem hu).1 z hz)) (fun u hu => Nat.le_trans (uts_mem hu).2 hl) (by have := uts_len l; omega)
theorem take_snoc {l : List Int} {i : Nat} {v : Int} (h : l[i]? = some v) : l.take (i + 1) = l.take i ++ [v] := by
  rw [List.take_add_one, h]
  rfl
theorem bdd_take {b : Nat} {l : List Int} (h : Bdd b l) (i : Nat) : Bdd b (l.take i) := fun z hz => h z (List.mem_of_mem_take hz)
theorem uts_heads (l : List Int) : ((uts l).map fun u => u.headD 0).Pairwise (· ≤ ·) := by
  have h := prt_srt l
  unfold uts
  rw [List.map_map, List.pairwise_map]
  exact h

theorem units_of_ok {l : List Int} (hb : Bdd (10 ^ 30) l) (hl : l.length ≤ 1000) : g_units_of [.d (il l)] [] = .ok (.d (.list ((uts l).map il))) [] := by
  obtain ⟨s', e1, a2, hs⟩ := forL_inv (k := K0_units_of) (b := B0_units_of) (xs := l.map .int) (I := fun i s => ∃ a2, s = ⟨[some (.d (il l)), some (.d (.list ((uts (l.take i)).map il))), a2], []⟩) (fun i x s hx ⟨a2, e⟩ => by
      subst e
      rw [List.getElem?_map] at hx
      cases hv : l[i]? with
      | none => rw [hv] at hx; cases hx
      | some v =>
        rw [hv] at hx
        cases hx
        have hi := lt_of_get hv
        have ok := okE_uts (bdd_take hb i) (l := l.take i) (by simp; omega)
        have hlen := uts_len (l.take i)
        rw [take_snoc hv, uts_snoc]
        have hmem : ∀ u ∈ uts (l.take i), ∃ x xs, u = x :: xs ∧ xs.length ≤ 1000 := fun u hu => by
          obtain ⟨x, xs, rfl, _⟩ := uts_cons hu
          refine ⟨x, xs, rfl, ?_⟩
          have := (uts_mem hu).2
          simp at this
          omega
        have hn : (uts (l.take i)).length ≤ 1000 := by simp at hlen; omega
        generalize uts (l.take i) = us at ok hmem hn
        rcases List.eq_nil_or_concat us with rfl | ⟨ws, u, rfl⟩
        · exact ⟨_, by simp [x_bnd, x_ret, x_stuck, x_gets, x_fVar, x_fC, x_fOp, x_fNil, x_fCons, x_fCall, x_fDat, x_fCell, x_fLst, x_fTup, x_fTest, x_fTru, x_fAnd, x_fOr, x_fNot, x_fIf, x_asB, x_fAndV, x_fOrV, x_fNotV, x_fIsN, x_fNotN, x_frz, x_frzs0, x_frzs1, x_fFrz, x_fSeq, x_fNext, x_fExpr, x_fRet, x_fRetN, x_fAsg, x_kName, x_fPar, x_kNil, x_kCons, x_kTup, x_kSub, x_setIt, x_needL, x_upC, x_fApp, x_fPopAt, x_fPop, x_fSl, x_fNoP, x_fP, x_fDef, x_callD, x_fPerm, x_fIsi, x_fNeg, x_asL, x_asLt, x_asT, x_fItL, x_fItT, x_orI, x_fRng1, x_fRng2, x_fEnum, x_fZip, x_fFor, x_forL0, x_fAug, x_fYes, x_lcT, x_fRstT, x_fRstV, x_ite, oIx, cutC, kl, Ce.lone, x_fCellV, x_fAppV, x_needV, x_upV, oIxV, x_fDNew, x_fSetdL, x_needW, x_setdL, x_fSrtS, x_fToM, x_fItems, x_fGet2, x_fDSub, x_needD, oGet2, oDSub, dictOf, keyD, oSortG, oSortP, orF, oCatT, oStr, x_fCount, x_fIndex, x_fRev, x_fPar3, datL, dat, oAdd, orO, oI, oInt, oPowW, oIC, oMod, cPos, oDiv, cDiv, endF, oAddI, oSub, oLt, oLe, oGt, oGe, oMul, oMulG, oRepD, oRep, oI2, oMin2, oMax2, oMinL, oMaxL, oAll, oAny, oBools, oIn, oNotIn, oInD, oInSg, x_fChain, intsA, cellsOf, picks, renum, putB, Ce.alive, oSl, slOr, oSlD, oSlL, oLenG, orA, oLen, tru, permL, oSumL, oCatD, datO, oCat, oList, oRepr, oTuple, DL.isNon, oSlT, oSlS, oAddS, oEqG, oNeG, oEqS, oNeS, oEq, oNe, x_fRaise, x_fFrzL, x_frzL, x_fItemsI, x_fValsI, x_fKeysI, x_fDNewM, x_fDPut, x_putC, x_fL6, dsOf, oSortK, intKeys, x_fDSub, x_fTupC, x_fFrzN, oIxT, callT, endT, okE_nil, PyData.eqv, PyData.eqvAll, ustep]; rfl, _, rfl⟩
        · rw [List.concat_eq_append] at ok hmem hn ⊢
          obtain ⟨y, ys, rfl, hys⟩ := hmem u (by simp)
          have hne : PyData.eqv (.list (List.map il ws ++ [il (y :: ys)])) (.list []) = false := by
            cases ws <;> simp [PyData.eqv, PyData.eqvAll]
          have ok' : okE (.list (List.map il ws ++ [il (y :: ys)])) = true := by simpa using ok
          have al := atI_last (ws.map il) (il (y :: ys))
          have cl := cut_last (ws.map il) (il (y :: ys))
          have a0 : atI (PyData.int y :: ys.map PyData.int) 0 = some (.int y) := by simp [atI, ixN]
          simp only [List.length_append, List.length_cons, List.length_nil] at hn
          have n1 : ws.length + 1 + 1 ≤ 1000000 := by omega
          have n2 : ws.length + 1 ≤ 1000000 := by omega
          have n3 : ys.length + 1 + 1 ≤ 1000000 := by omega
          have a1 : atI ((y :: ys).map PyData.int) 0 = some (.int y) := a0
          by_cases hyv : y ≤ v
          · refine ⟨⟨[some (.d (il l)), some (.d (.list ((ws ++ [y :: ys] ++ [[v]]).map il))), some (.d (.int v))], []⟩, ?_, some (.d (.int v)), ?_⟩
            · simp [x_bnd, x_ret, x_stuck, x_gets, x_fVar, x_fC, x_fOp, x_fNil, x_fCons, x_fCall, x_fDat, x_fCell, x_fLst, x_fTup, x_fTest, x_fTru, x_fAnd, x_fOr, x_fNot, x_fIf, x_asB, x_fAndV, x_fOrV, x_fNotV, x_fIsN, x_fNotN, x_frz, x_frzs0, x_frzs1, x_fFrz, x_fSeq, x_fNext, x_fExpr, x_fRet, x_fRetN, x_fAsg, x_kName, x_fPar, x_kNil, x_kCons, x_kTup, x_kSub, x_setIt, x_needL, x_upC, x_fApp, x_fPopAt, x_fPop, x_fSl, x_fNoP, x_fP, x_fDef, x_callD, x_fPerm, x_fIsi, x_fNeg, x_asL, x_asLt, x_asT, x_fItL, x_fItT, x_orI, x_fRng1, x_fRng2, x_fEnum, x_fZip, x_fFor, x_forL0, x_fAug, x_fYes, x_lcT, x_fRstT, x_fRstV, x_ite, oIx, cutC, kl, Ce.lone, x_fCellV, x_fAppV, x_needV, x_upV, oIxV, x_fDNew, x_fSetdL, x_needW, x_setdL, x_fSrtS, x_fToM, x_fItems, x_fGet2, x_fDSub, x_needD, oGet2, oDSub, dictOf, keyD, oSortG, oSortP, orF, oCatT, oStr, x_fCount, x_fIndex, x_fRev, x_fPar3, datL, dat, oAdd, orO, oI, oInt, oPowW, oIC, oMod, cPos, oDiv, cDiv, endF, oAddI, oSub, oLt, oLe, oGt, oGe, oMul, oMulG, oRepD, oRep, oI2, oMin2, oMax2, oMinL, oMaxL, oAll, oAny, oBools, oIn, oNotIn, oInD, oInSg, x_fChain, intsA, cellsOf, picks, renum, putB, Ce.alive, oSl, slOr, oSlD, oSlL, oLenG, orA, oLen, tru, permL, oSumL, oCatD, datO, oCat, oList, oRepr, oTuple, DL.isNon, oSlT, oSlS, oAddS, oEqG, oNeG, oEqS, oNeS, oEq, oNe, x_fRaise, x_fFrzL, x_frzL, x_fItemsI, x_fValsI, x_fKeysI, x_fDNewM, x_fDPut, x_putC, x_fL6, dsOf, oSortK, intKeys, x_fDSub, x_fTupC, x_fFrzN, oIxT, callT, endT, ok', hne, al, a0, a1, okE_nil, hyv, n1]
            · simp [ustep, hyv]
          · refine ⟨⟨[some (.d (il l)), some (.d (.list ((ws ++ [y :: ys ++ [v]]).map il))), some (.d (.int v))], []⟩, ?_, some (.d (.int v)), ?_⟩
            · simp [x_bnd, x_ret, x_stuck, x_gets, x_fVar, x_fC, x_fOp, x_fNil, x_fCons, x_fCall, x_fDat, x_fCell, x_fLst, x_fTup, x_fTest, x_fTru, x_fAnd, x_fOr, x_fNot, x_fIf, x_asB, x_fAndV, x_fOrV, x_fNotV, x_fIsN, x_fNotN, x_frz, x_frzs0, x_frzs1, x_fFrz, x_fSeq, x_fNext, x_fExpr, x_fRet, x_fRetN, x_fAsg, x_kName, x_fPar, x_kNil, x_kCons, x_kTup, x_kSub, x_setIt, x_needL, x_upC, x_fApp, x_fPopAt, x_fPop, x_fSl, x_fNoP, x_fP, x_fDef, x_callD, x_fPerm, x_fIsi, x_fNeg, x_asL, x_asLt, x_asT, x_fItL, x_fItT, x_orI, x_fRng1, x_fRng2, x_fEnum, x_fZip, x_fFor, x_forL0, x_fAug, x_fYes, x_lcT, x_fRstT, x_fRstV, x_ite, oIx, cutC, kl, Ce.lone, x_fCellV, x_fAppV, x_needV, x_upV, oIxV, x_fDNew, x_fSetdL, x_needW, x_setdL, x_fSrtS, x_fToM, x_fItems, x_fGet2, x_fDSub, x_needD, oGet2, oDSub, dictOf, keyD, oSortG, oSortP, orF, oCatT, oStr, x_fCount, x_fIndex, x_fRev, x_fPar3, datL, dat, oAdd, orO, oI, oInt, oPowW, oIC, oMod, cPos, oDiv, cDiv, endF, oAddI, oSub, oLt, oLe, oGt, oGe, oMul, oMulG, oRepD, oRep, oI2, oMin2, oMax2, oMinL, oMaxL, oAll, oAny, oBools, oIn, oNotIn, oInD, oInSg, x_fChain, intsA, cellsOf, picks, renum, putB, Ce.alive, oSl, slOr, oSlD, oSlL, oLenG, orA, oLen, tru, permL, oSumL, oCatD, datO, oCat, oList, oRepr, oTuple, DL.isNon, oSlT, oSlS, oAddS, oEqG, oNeG, oEqS, oNeS, oEq, oNe, x_fRaise, x_fFrzL, x_frzL, x_fItemsI, x_fValsI, x_fKeysI, x_fDNewM, x_fDPut, x_putC, x_fL6, dsOf, oSortK, intKeys, x_fDSub, x_fTupC, x_fFrzN, oIxT, callT, endT, ok', hne, al, cl, a0, a1, okE_nil, hyv, n2, n3]
            · simp [ustep, hyv])
    ⟨[some (.d (il l)), some (.d (.list [])), none], []⟩ ⟨none, by simp [uts, prt_nil]⟩
  rw [List.length_map, List.take_length] at hs
  subst hs
  have hfi : I0_units_of ⟨[some (.d (il l)), some (.d (.list [])), none], []⟩ = .ok (l.map .int) ⟨[some (.d (il l)), some (.d (.list [])), none], []⟩ := by simp [x_bnd, x_ret, x_stuck, x_gets, x_fVar, x_fC, x_fOp, x_fNil, x_fCons, x_fCall, x_fDat, x_fCell, x_fLst, x_fTup, x_fTest, x_fTru, x_fAnd, x_fOr, x_fNot, x_fIf, x_asB, x_fAndV, x_fOrV, x_fNotV, x_fIsN, x_fNotN, x_frz, x_frzs0, x_frzs1, x_fFrz, x_fSeq, x_fNext, x_fExpr, x_fRet, x_fRetN, x_fAsg, x_kName, x_fPar, x_kNil, x_kCons, x_kTup, x_kSub, x_setIt, x_needL, x_upC, x_fApp, x_fPopAt, x_fPop, x_fSl, x_fNoP, x_fP, x_fDef, x_callD, x_fPerm, x_fIsi, x_fNeg, x_asL, x_asLt, x_asT, x_fItL, x_fItT, x_orI, x_fRng1, x_fRng2, x_fEnum, x_fZip, x_fFor, x_forL0, x_fAug, x_fYes, x_lcT, x_fRstT, x_fRstV, x_ite, oIx, cutC, kl, Ce.lone, x_fCellV, x_fAppV, x_needV, x_upV, oIxV, x_fDNew, x_fSetdL, x_needW, x_setdL, x_fSrtS, x_fToM, x_fItems, x_fGet2, x_fDSub, x_needD, oGet2, oDSub, dictOf, keyD, oSortG, oSortP, orF, oCatT, oStr, x_fCount, x_fIndex, x_fRev, x_fPar3, datL, dat, oAdd, orO, oI, oInt, oPowW, oIC, oMod, cPos, oDiv, cDiv, endF, oAddI, oSub, oLt, oLe, oGt, oGe, oMul, oMulG, oRepD, oRep, oI2, oMin2, oMax2, oMinL, oMaxL, oAll, oAny, oBools, oIn, oNotIn, oInD, oInSg, x_fChain, intsA, cellsOf, picks, renum, putB, Ce.alive, oSl, slOr, oSlD, oSlL, oLenG, orA, oLen, tru, permL, oSumL, oCatD, datO, oCat, oList, oRepr, oTuple, DL.isNon, oSlT, oSlS, oAddS, oEqG, oNeG, oEqS, oNeS, oEq, oNe, x_fRaise, x_fFrzL, x_frzL, x_fItemsI, x_fValsI, x_fKeysI, x_fDNewM, x_fDPut, x_putC, x_fL6, dsOf, oSortK, intKeys, x_fDSub, x_fTupC, x_fFrzN, oIxT, callT, endT]
  refine rt_body (v := .d (.list ((uts l).map il))) rfl ?_
  simp only [List.map_cons, List.map_nil, List.cons_append, List.nil_append, List.replicate]
  refine rt_seq (by simp [x_bnd, x_ret, x_stuck, x_gets, x_fVar, x_fC, x_fOp, x_fNil, x_fCons, x_fCall, x_fDat, x_fCell, x_fLst, x_fTup, x_fTest, x_fTru, x_fAnd, x_fOr, x_fNot, x_fIf, x_asB, x_fAndV, x_fOrV, x_fNotV, x_fIsN, x_fNotN, x_frz, x_frzs0, x_frzs1, x_fFrz, x_fSeq, x_fNext, x_fExpr, x_fRet, x_fRetN, x_fAsg, x_kName, x_fPar, x_kNil, x_kCons, x_kTup, x_kSub, x_setIt, x_needL, x_upC, x_fApp, x_fPopAt, x_fPop, x_fSl, x_fNoP, x_fP, x_fDef, x_callD, x_fPerm, x_fIsi, x_fNeg, x_asL, x_asLt, x_asT, x_fItL, x_fItT, x_orI, x_fRng1, x_fRng2, x_fEnum, x_fZip, x_fFor, x_forL0, x_fAug, x_fYes, x_lcT, x_fRstT, x_fRstV, x_ite, oIx, cutC, kl, Ce.lone, x_fCellV, x_fAppV, x_needV, x_upV, oIxV, x_fDNew, x_fSetdL, x_needW, x_setdL, x_fSrtS, x_fToM, x_fItems, x_fGet2, x_fDSub, x_needD, oGet2, oDSub, dictOf, keyD, oSortG, oSortP, orF, oCatT, oStr, x_fCount, x_fIndex, x_fRev, x_fPar3, datL, dat, oAdd, orO, oI, oInt, oPowW, oIC, oMod, cPos, oDiv, cDiv, endF, oAddI, oSub, oLt, oLe, oGt, oGe, oMul, oMulG, oRepD, oRep, oI2, oMin2, oMax2, oMinL, oMaxL, oAll, oAny, oBools, oIn, oNotIn, oInD, oInSg, x_fChain, intsA, cellsOf, picks, renum, putB, Ce.alive, oSl, slOr, oSlD, oSlL, oLenG, orA, oLen, tru, permL, oSumL, oCatD, datO, oCat, oList, oRepr, oTuple, DL.isNon, oSlT, oSlS, oAddS, oEqG, oNeG, oEqS, oNeS, oEq, oNe, x_fRaise, x_fFrzL, x_frzL, x_fItemsI, x_fValsI, x_fKeysI, x_fDNewM, x_fDPut, x_putC, x_fL6, dsOf, oSortK, intKeys, x_fDSub, x_fTupC, x_fFrzN, oIxT, callT, endT]; rfl) ?_
  refine rt_seq (fFor_ok hfi e1) ?_
  simp [x_bnd, x_ret, x_stuck, x_gets, x_fVar, x_fC, x_fOp, x_fNil, x_fCons, x_fCall, x_fDat, x_fCell, x_fLst, x_fTup, x_fTest, x_fTru, x_fAnd, x_fOr, x_fNot, x_fIf, x_asB, x_fAndV, x_fOrV, x_fNotV, x_fIsN, x_fNotN, x_frz, x_frzs0, x_frzs1, x_fFrz, x_fSeq, x_fNext, x_fExpr, x_fRet, x_fRetN, x_fAsg, x_kName, x_fPar, x_kNil, x_kCons, x_kTup, x_kSub, x_setIt, x_needL, x_upC, x_fApp, x_fPopAt, x_fPop, x_fSl, x_fNoP, x_fP, x_fDef, x_callD, x_fPerm, x_fIsi, x_fNeg, x_asL, x_asLt, x_asT, x_fItL, x_fItT, x_orI, x_fRng1, x_fRng2, x_fEnum, x_fZip, x_fFor, x_forL0, x_fAug, x_fYes, x_lcT, x_fRstT, x_fRstV, x_ite, oIx, cutC, kl, Ce.lone, x_fCellV, x_fAppV, x_needV, x_upV, oIxV, x_fDNew, x_fSetdL, x_needW, x_setdL, x_fSrtS, x_fToM, x_fItems, x_fGet2, x_fDSub, x_needD, oGet2, oDSub, dictOf, keyD, oSortG, oSortP, orF, oCatT, oStr, x_fCount, x_fIndex, x_fRev, x_fPar3, datL, dat, oAdd, orO, oI, oInt, oPowW, oIC, oMod, cPos, oDiv, cDiv, endF, oAddI, oSub, oLt, oLe, oGt, oGe, oMul, oMulG, oRepD, oRep, oI2, oMin2, oMax2, oMinL, oMaxL, oAll, oAny, oBools, oIn, oNotIn, oInD, oInSg, x_fChain, intsA, cellsOf, picks, renum, putB, Ce.alive, oSl, slOr, oSlD, oSlL, oLenG, orA, oLen, tru, permL, oSumL, oCatD, datO, oCat, oList, oRepr, oTuple, DL.isNon, oSlT, oSlS, oAddS, oEqG, oNeG, oEqS, oNeS, oEq, oNe, x_fRaise, x_fFrzL, x_frzL, x_fItemsI, x_fValsI, x_fKeysI, x_fDNewM, x_fDPut, x_putC, x_fL6, dsOf, oSortK, intKeys, x_fDSub, x_fTupC, x_fFrzN, oIxT, callT, endT, Rt]

/-! words -/
abbrev Gp := List (Int × List (List Int))
def gadd (h : Int) (u : List Int) : Gp → Gp
  | [] => [(h, [u])]
  | (k, us) :: r => if k = h then (k, us ++ [u]) :: r else (k, us) :: gadd h u r
def grp (us : List (List Int)) : Gp := us.foldl (fun acc u => gadd (u.headD 0) u acc) []
def kvsOf : Nat → Gp → List (Key × Vl)
  | _, [] => []
  | n, p :: r => (.inl p.1, .c n) :: kvsOf (n + 1) r
theorem kvs_len : ∀ (n : Nat) (g : Gp), (kvsOf n g).length = g.length
  | _, [] => rfl
  | n, p :: r => by simp [kvsOf, kvs_len (n + 1) r]
theorem kvs_keys : ∀ (n : Nat) {g g' : Gp}, g.map (·.1) = g'.map (·.1) → kvsOf n g = kvsOf n g'
  | _, [], [], _ => rfl
  | _, [], _ :: _, h => by simp at h
  | _, _ :: _, [], h => by simp at h
  | n, p :: r, q :: t, h => by
    simp only [List.map_cons, List.cons.injEq] at h
    simp only [kvsOf, h.1, kvs_keys (n + 1) h.2]
theorem kvs_snoc (p : Int × List (List Int)) : ∀ (n : Nat) (g : Gp), kvsOf n (g ++ [p]) = kvsOf n g ++ [(.inl p.1, .c (g.length + n))]
  | n, [] => by simp [kvsOf]
  | n, q :: r => by
    simp only [List.cons_append, kvsOf, kvs_snoc p (n + 1) r, List.length_cons]
    rw [show r.length + (n + 1) = r.length + 1 + n by omega]
theorem kvs_look (h : Int) (u : List Int) : ∀ (n : Nat) (g : Gp), (valW (kvsOf n g) (.inl h) = none ∧ gadd h u g = g ++ [(h, [u])]) ∨ ∃ i us, valW (kvsOf n g) (.inl h) = some (.c (i + n)) ∧ g[i]? = some (h, us) ∧ gadd h u g = g.set i (h, us ++ [u])
  | n, [] => .inl ⟨rfl, rfl⟩
  | n, (k, us) :: r => by
    by_cases e : k = h
    · subst e
      exact .inr ⟨0, us, by simp [kvsOf, valW], rfl, by simp [gadd]⟩
    · have e2 : ¬ ((.inl k : Key) = .inl h) := fun z => e (by cases z; rfl)
      have hv : valW (kvsOf n ((k, us) :: r)) (.inl h) = valW (kvsOf (n + 1) r) (.inl h) := by simp [kvsOf, valW, e2]
      have hg : gadd h u ((k, us) :: r) = (k, us) :: gadd h u r := by simp [gadd, e]
      rw [hv, hg]
      rcases kvs_look h u (n + 1) r with ⟨h1, h2⟩ | ⟨i, vs, h1, h2, h3⟩
      · exact .inl ⟨h1, by rw [h2]; rfl⟩
      · refine .inr ⟨i + 1, vs, ?_, by simpa using h2, by rw [h3]; rfl⟩
        rw [h1]
        congr 2
        omega
def lsC (g : Gp) : List Ce := g.map fun p => .l (p.2.map il)
def fsC (g : Gp) : List Ce := g.map fun p => .f (p.2.map il)
abbrev wst (l : List Int) (a2 : Option Vl) (g : Gp) : S := ⟨[some (.d (il l)), some (.c 0), a2], .w (kvsOf 1 g) :: lsC g⟩
theorem gadd_len (h : Int) (u : List Int) : ∀ g : Gp, (gadd h u g).length ≤ g.length + 1
  | [] => by simp [gadd]
  | (k, us) :: r => by
    unfold gadd
    split
    · simp
    · have := gadd_len h u r
      simp only [List.length_cons]; omega
def gsum (g : Gp) : Nat := (g.map fun p => p.2.length).sum
theorem gadd_sum (h : Int) (u : List Int) : ∀ g : Gp, gsum (gadd h u g) = gsum g + 1
  | [] => by simp [gadd, gsum]
  | (k, us) :: r => by
    unfold gadd
    split
    · simp [gsum]; omega
    · have := gadd_sum h u r
      simp [gsum] at this ⊢; omega
theorem gsum_get {g : Gp} {i : Nat} {p : Int × List (List Int)} (h : g[i]? = some p) : p.2.length ≤ gsum g := by
  unfold gsum
  induction g generalizing i with
  | nil => simp at h
  | cons q r ih =>
    cases i with
    | zero => simp at h; subst h; simp
    | succ i =>
      have := ih (i := i) (by simpa using h)
      simp only [List.map_cons, List.sum_cons]; omega
theorem word_step {l : List Int} {a2 : Option Vl} {g : Gp} {x : Int} {xs : List Int} (hg : g.length ≤ 10000) (hs : gsum g ≤ 10000) :
    bnd (K0_word_dict (.d (il (x :: xs)))) (fun _ => B0_word_dict) (wst l a2 g) = .ok .nx (wst l (some (.d (il (x :: xs)))) (gadd x (x :: xs) g)) := by
  have a0 : atI ((x :: xs).map PyData.int) 0 = some (.int x) := by simp [atI, ixN]
  have hl : (kvsOf 1 g).length < 1000000 := by rw [kvs_len]; omega
  have hll : (lsC g).length = g.length := by simp [lsC]
  rcases kvs_look x (x :: xs) 1 g with ⟨h1, h2⟩ | ⟨i, us, h1, h2, h3⟩
  · rw [h2]
    have e1 : ((lsC g) ++ [Ce.l []])[g.length]? = some (.l []) := by
      rw [List.getElem?_append_right (by omega), hll, Nat.sub_self]; rfl
    have e2 : ((lsC g) ++ [Ce.l []]).set g.length (.l [il (x :: xs)]) = lsC (g ++ [(x, [x :: xs])]) := by
      rw [List.set_append_right _ _ (by omega), hll, Nat.sub_self]
      simp [lsC]
    simp only [wst, kvs_snoc]
    simp [-List.map_cons, x_bnd, x_ret, x_stuck, x_gets, x_fVar, x_fC, x_fOp, x_fNil, x_fCons, x_fCall, x_fDat, x_fCell, x_fLst, x_fTup, x_fTest, x_fTru, x_fAnd, x_fOr, x_fNot, x_fIf, x_asB, x_fAndV, x_fOrV, x_fNotV, x_fIsN, x_fNotN, x_frz, x_frzs0, x_frzs1, x_fFrz, x_fSeq, x_fNext, x_fExpr, x_fRet, x_fRetN, x_fAsg, x_kName, x_fPar, x_kNil, x_kCons, x_kTup, x_kSub, x_setIt, x_needL, x_upC, x_fApp, x_fPopAt, x_fPop, x_fSl, x_fNoP, x_fP, x_fDef, x_callD, x_fPerm, x_fIsi, x_fNeg, x_asL, x_asLt, x_asT, x_fItL, x_fItT, x_orI, x_fRng1, x_fRng2, x_fEnum, x_fZip, x_fFor, x_forL0, x_fAug, x_fYes, x_lcT, x_fRstT, x_fRstV, x_ite, oIx, cutC, kl, Ce.lone, x_fCellV, x_fAppV, x_needV, x_upV, oIxV, x_fDNew, x_fSetdL, x_needW, x_setdL, x_fSrtS, x_fToM, x_fItems, x_fGet2, x_fDSub, x_needD, oGet2, oDSub, dictOf, keyD, oSortG, oSortP, orF, oCatT, oStr, x_fCount, x_fIndex, x_fRev, x_fPar3, datL, dat, oAdd, orO, oI, oInt, oPowW, oIC, oMod, cPos, oDiv, cDiv, endF, oAddI, oSub, oLt, oLe, oGt, oGe, oMul, oMulG, oRepD, oRep, oI2, oMin2, oMax2, oMinL, oMaxL, oAll, oAny, oBools, oIn, oNotIn, oInD, oInSg, x_fChain, intsA, cellsOf, picks, renum, putB, Ce.alive, oSl, slOr, oSlD, oSlL, oLenG, orA, oLen, tru, permL, oSumL, oCatD, datO, oCat, oList, oRepr, oTuple, DL.isNon, oSlT, oSlS, oAddS, oEqG, oNeG, oEqS, oNeS, oEq, oNe, x_fRaise, x_fFrzL, x_frzL, x_fItemsI, x_fValsI, x_fKeysI, x_fDNewM, x_fDPut, x_putC, x_fL6, dsOf, oSortK, intKeys, x_fDSub, x_fTupC, x_fFrzN, oIxT, callT, endT, a0, hl, h1, hll, e1, e2]
  · rw [h3]
    have e1 : (lsC g)[i]? = some (.l (us.map il)) := by simp [lsC, h2]
    have hus := gsum_get h2
    have hn : us.length < 1000000 := by simp at hus; omega
    have e2 : (lsC g).set i (.l (us.map il ++ [il (x :: xs)])) = lsC (g.set i (x, us ++ [x :: xs])) := by
      simp [lsC, List.map_set]
    have e3 : kvsOf 1 (g.set i (x, us ++ [x :: xs])) = kvsOf 1 g := kvs_keys 1 (by
      rw [List.map_set]
      refine List.ext_getElem? fun j => ?_
      by_cases e : j = i
      · subst e
        rw [List.getElem?_set_self (by simpa using lt_of_get h2), List.getElem?_map, h2]
        rfl
      · rw [List.getElem?_set_ne (Ne.symm e)])
    simp only [wst, e3]
    simp [-List.map_cons, x_bnd, x_ret, x_stuck, x_gets, x_fVar, x_fC, x_fOp, x_fNil, x_fCons, x_fCall, x_fDat, x_fCell, x_fLst, x_fTup, x_fTest, x_fTru, x_fAnd, x_fOr, x_fNot, x_fIf, x_asB, x_fAndV, x_fOrV, x_fNotV, x_fIsN, x_fNotN, x_frz, x_frzs0, x_frzs1, x_fFrz, x_fSeq, x_fNext, x_fExpr, x_fRet, x_fRetN, x_fAsg, x_kName, x_fPar, x_kNil, x_kCons, x_kTup, x_kSub, x_setIt, x_needL, x_upC, x_fApp, x_fPopAt, x_fPop, x_fSl, x_fNoP, x_fP, x_fDef, x_callD, x_fPerm, x_fIsi, x_fNeg, x_asL, x_asLt, x_asT, x_fItL, x_fItT, x_orI, x_fRng1, x_fRng2, x_fEnum, x_fZip, x_fFor, x_forL0, x_fAug, x_fYes, x_lcT, x_fRstT, x_fRstV, x_ite, oIx, cutC, kl, Ce.lone, x_fCellV, x_fAppV, x_needV, x_upV, oIxV, x_fDNew, x_fSetdL, x_needW, x_setdL, x_fSrtS, x_fToM, x_fItems, x_fGet2, x_fDSub, x_needD, oGet2, oDSub, dictOf, keyD, oSortG, oSortP, orF, oCatT, oStr, x_fCount, x_fIndex, x_fRev, x_fPar3, datL, dat, oAdd, orO, oI, oInt, oPowW, oIC, oMod, cPos, oDiv, cDiv, endF, oAddI, oSub, oLt, oLe, oGt, oGe, oMul, oMulG, oRepD, oRep, oI2, oMin2, oMax2, oMinL, oMaxL, oAll, oAny, oBools, oIn, oNotIn, oInD, oInSg, x_fChain, intsA, cellsOf, picks, renum, putB, Ce.alive, oSl, slOr, oSlD, oSlL, oLenG, orA, oLen, tru, permL, oSumL, oCatD, datO, oCat, oList, oRepr, oTuple, DL.isNon, oSlT, oSlS, oAddS, oEqG, oNeG, oEqS, oNeS, oEq, oNe, x_fRaise, x_fFrzL, x_frzL, x_fItemsI, x_fValsI, x_fKeysI, x_fDNewM, x_fDPut, x_putC, x_fL6, dsOf, oSortK, intKeys, x_fDSub, x_fTupC, x_fFrzN, oIxT, callT, endT, a0, hl, h1, e1, hn, e2]
theorem frzs_ls (sl : List (Option Vl)) : ∀ (g : Gp) (pre : List Ce), frzs0 ((kvsOf pre.length g).map (·.2)) ⟨sl, pre ++ lsC g⟩ = .ok (g.map fun p => .list (p.2.map il)) ⟨sl, pre ++ fsC g⟩
  | [], pre => rfl
  | p :: r, pre => by
    have e1 : (pre ++ lsC (p :: r))[pre.length]? = some (.l (p.2.map il)) := by
      rw [List.getElem?_append_right (Nat.le_refl _), Nat.sub_self]; rfl
    have e2 : (pre ++ lsC (p :: r)).set pre.length (.f (p.2.map il)) = (pre ++ [.f (p.2.map il)]) ++ lsC r := by
      rw [List.set_append_right _ _ (Nat.le_refl _), Nat.sub_self]
      simp [lsC]
    have ih := frzs_ls sl r (pre ++ [.f (p.2.map il)])
    rw [List.length_append, List.length_singleton] at ih
    simp only [kvsOf, List.map_cons, frzs0, bnd, frz0, e1, e2, ih, DL.ret]
    simp [fsC]
def wM (g : Gp) : List (Key × D) := g.map fun p => (.inl p.1, .list (p.2.map il))
theorem zip_keys : ∀ (n : Nat) (g : Gp), ((kvsOf n g).map (·.1)).zip (g.map fun p => PyData.list (p.2.map il)) = wM g
  | _, [] => rfl
  | n, p :: r => by simp only [kvsOf, List.map_cons, List.zip_cons_cons, zip_keys (n + 1) r, wM]
theorem grp_fold (us : List (List Int)) : (grp us).length ≤ us.length ∧ gsum (grp us) = us.length := by
  have key : ∀ (us : List (List Int)) (g : Gp), (us.foldl (fun acc u => gadd (u.headD 0) u acc) g).length ≤ g.length + us.length ∧ gsum (us.foldl (fun acc u => gadd (u.headD 0) u acc) g) = gsum g + us.length := fun us => by
    induction us with
    | nil => intro g; simp
    | cons u us ih =>
      intro g
      obtain ⟨h1, h2⟩ := ih (gadd (u.headD 0) u g)
      have h3 := gadd_len (u.headD 0) u g
      have h4 := gadd_sum (u.headD 0) u g
      simp only [List.foldl_cons, List.length_cons]
      omega
  have := key us []
  simpa [grp, gsum] using this
theorem word_dict_ok {l : List Int} (hb : Bdd (10 ^ 30) l) (hl : l.length ≤ 1000) : g_word_dict [.d (il l)] [] = .ok (.c 0) [.m (wM (grp (uts l)))] := by
  have hu := units_of_ok hb hl
  have hn := uts_len l
  obtain ⟨s', e1, a2, hs⟩ := forL_inv (k := K0_word_dict) (b := B0_word_dict) (xs := (uts l).map il) (I := fun i s => ∃ a2, s = wst l a2 (grp ((uts l).take i))) (fun i x s hx ⟨a2, e⟩ => by
      subst e
      rw [List.getElem?_map] at hx
      cases hv : (uts l)[i]? with
      | none => rw [hv] at hx; cases hx
      | some u =>
        rw [hv] at hx
        cases hx
        obtain ⟨y, ys, rfl, _⟩ := uts_cons (List.mem_of_getElem? hv)
        have hg := grp_fold ((uts l).take i)
        have h3 : ((uts l).take i).length ≤ 1000 := by rw [List.length_take]; omega
        refine ⟨_, word_step (by omega) (by omega), some (.d (il (y :: ys))), ?_⟩
        have e : (uts l).take (i + 1) = (uts l).take i ++ [y :: ys] := by rw [List.take_add_one, hv]; rfl
        rw [e]
        simp only [grp, List.foldl_append, List.foldl_cons, List.foldl_nil, List.headD_cons])
    (wst l none []) ⟨none, by simp [grp]⟩
  rw [List.length_map, List.take_length] at hs
  subst hs
  have hfi : I0_word_dict (wst l none []) = .ok ((uts l).map il) (wst l none []) := by simp [x_bnd, x_ret, x_stuck, x_gets, x_fVar, x_fC, x_fOp, x_fNil, x_fCons, x_fCall, x_fDat, x_fCell, x_fLst, x_fTup, x_fTest, x_fTru, x_fAnd, x_fOr, x_fNot, x_fIf, x_asB, x_fAndV, x_fOrV, x_fNotV, x_fIsN, x_fNotN, x_frz, x_frzs0, x_frzs1, x_fFrz, x_fSeq, x_fNext, x_fExpr, x_fRet, x_fRetN, x_fAsg, x_kName, x_fPar, x_kNil, x_kCons, x_kTup, x_kSub, x_setIt, x_needL, x_upC, x_fApp, x_fPopAt, x_fPop, x_fSl, x_fNoP, x_fP, x_fDef, x_callD, x_fPerm, x_fIsi, x_fNeg, x_asL, x_asLt, x_asT, x_fItL, x_fItT, x_orI, x_fRng1, x_fRng2, x_fEnum, x_fZip, x_fFor, x_forL0, x_fAug, x_fYes, x_lcT, x_fRstT, x_fRstV, x_ite, oIx, cutC, kl, Ce.lone, x_fCellV, x_fAppV, x_needV, x_upV, oIxV, x_fDNew, x_fSetdL, x_needW, x_setdL, x_fSrtS, x_fToM, x_fItems, x_fGet2, x_fDSub, x_needD, oGet2, oDSub, dictOf, keyD, oSortG, oSortP, orF, oCatT, oStr, x_fCount, x_fIndex, x_fRev, x_fPar3, datL, dat, oAdd, orO, oI, oInt, oPowW, oIC, oMod, cPos, oDiv, cDiv, endF, oAddI, oSub, oLt, oLe, oGt, oGe, oMul, oMulG, oRepD, oRep, oI2, oMin2, oMax2, oMinL, oMaxL, oAll, oAny, oBools, oIn, oNotIn, oInD, oInSg, x_fChain, intsA, cellsOf, picks, renum, putB, Ce.alive, oSl, slOr, oSlD, oSlL, oLenG, orA, oLen, tru, permL, oSumL, oCatD, datO, oCat, oList, oRepr, oTuple, DL.isNon, oSlT, oSlS, oAddS, oEqG, oNeG, oEqS, oNeS, oEq, oNe, x_fRaise, x_fFrzL, x_frzL, x_fItemsI, x_fValsI, x_fKeysI, x_fDNewM, x_fDPut, x_putC, x_fL6, dsOf, oSortK, intKeys, x_fDSub, x_fTupC, x_fFrzN, oIxT, callT, endT, hu]
  have hz := frzs_ls [some (.d (il l)), some (.c 0), a2] (grp (uts l)) [.w (kvsOf 1 (grp (uts l)))]
  simp only [List.length_singleton, List.singleton_append] at hz
  have zk := zip_keys 1 (grp (uts l))
  refine rt_body (v := .c 0) rfl ?_
  simp only [List.map_cons, List.map_nil, List.cons_append, List.nil_append, List.replicate]
  refine rt_seq (s' := wst l none []) (by simp [x_bnd, x_ret, x_stuck, x_gets, x_fVar, x_fC, x_fOp, x_fNil, x_fCons, x_fCall, x_fDat, x_fCell, x_fLst, x_fTup, x_fTest, x_fTru, x_fAnd, x_fOr, x_fNot, x_fIf, x_asB, x_fAndV, x_fOrV, x_fNotV, x_fIsN, x_fNotN, x_frz, x_frzs0, x_frzs1, x_fFrz, x_fSeq, x_fNext, x_fExpr, x_fRet, x_fRetN, x_fAsg, x_kName, x_fPar, x_kNil, x_kCons, x_kTup, x_kSub, x_setIt, x_needL, x_upC, x_fApp, x_fPopAt, x_fPop, x_fSl, x_fNoP, x_fP, x_fDef, x_callD, x_fPerm, x_fIsi, x_fNeg, x_asL, x_asLt, x_asT, x_fItL, x_fItT, x_orI, x_fRng1, x_fRng2, x_fEnum, x_fZip, x_fFor, x_forL0, x_fAug, x_fYes, x_lcT, x_fRstT, x_fRstV, x_ite, oIx, cutC, kl, Ce.lone, x_fCellV, x_fAppV, x_needV, x_upV, oIxV, x_fDNew, x_fSetdL, x_needW, x_setdL, x_fSrtS, x_fToM, x_fItems, x_fGet2, x_fDSub, x_needD, oGet2, oDSub, dictOf, keyD, oSortG, oSortP, orF, oCatT, oStr, x_fCount, x_fIndex, x_fRev, x_fPar3, datL, dat, oAdd, orO, oI, oInt, oPowW, oIC, oMod, cPos, oDiv, cDiv, endF, oAddI, oSub, oLt, oLe, oGt, oGe, oMul, oMulG, oRepD, oRep, oI2, oMin2, oMax2, oMinL, oMaxL, oAll, oAny, oBools, oIn, oNotIn, oInD, oInSg, x_fChain, intsA, cellsOf, picks, renum, putB, Ce.alive, oSl, slOr, oSlD, oSlL, oLenG, orA, oLen, tru, permL, oSumL, oCatD, datO, oCat, oList, oRepr, oTuple, DL.isNon, oSlT, oSlS, oAddS, oEqG, oNeG, oEqS, oNeS, oEq, oNe, x_fRaise, x_fFrzL, x_frzL, x_fItemsI, x_fValsI, x_fKeysI, x_fDNewM, x_fDPut, x_putC, x_fL6, dsOf, oSortK, intKeys, x_fDSub, x_fTupC, x_fFrzN, oIxT, callT, endT, wst, kvsOf, lsC]) ?_
  refine rt_seq (fFor_ok hfi e1) ?_
  simp [x_fRet, x_fToM, x_bnd, x_fVar, wst, hz, x_ret, Rt, endF, cutC, zk]

/-! looking words up -/
def lk (g : Gp) (h : Int) : List (List Int) := match g with
  | [] => []
  | (k, us) :: r => if k = h then us else lk r h
theorem lk_gadd (h k : Int) (u : List Int) : ∀ g : Gp, lk (gadd k u g) h = if k = h then lk g h ++ [u] else lk g h
  | [] => by by_cases e : k = h <;> simp [gadd, lk, e]
  | (j, us) :: r => by
    have ih := lk_gadd h k u r
    unfold gadd
    by_cases e : j = k
    · subst e
      by_cases e2 : j = h <;> simp [lk, e2]
    · by_cases e2 : j = h
      · subst e2
        simp [lk, e, Ne.symm e]
      · simp [lk, e, e2, ih]
theorem keys_gadd (k : Int) (u : List Int) : ∀ g : Gp, (gadd k u g).map (·.1) = if k ∈ g.map (·.1) then g.map (·.1) else g.map (·.1) ++ [k]
  | [] => by simp [gadd]
  | (j, us) :: r => by
    have ih := keys_gadd k u r
    unfold gadd
    by_cases e : j = k
    · subst e; simp
    · have e' : ¬ k = j := fun z => e z.symm
      rw [if_neg e]
      simp only [List.map_cons, ih, List.mem_cons, e', false_or]
      by_cases h : k ∈ r.map (·.1)
      · rw [if_pos h, if_pos h]
      · rw [if_neg h, if_neg h]; rfl
theorem grp_props (us : List (List Int)) (hne : ∀ u ∈ us, u ≠ []) : ((grp us).map (·.1)).Nodup ∧ ∀ h, lk (grp us) h = wd h us := by
  have key : ∀ (us : List (List Int)) (pre : List (List Int)) (g : Gp), (∀ u ∈ us, u ≠ []) → (g.map (·.1)).Nodup → (∀ h, lk g h = wd h pre) → ((us.foldl (fun acc u => gadd (u.headD 0) u acc) g).map (·.1)).Nodup ∧ ∀ h, lk (us.foldl (fun acc u => gadd (u.headD 0) u acc) g) h = wd h (pre ++ us) := fun us => by
    induction us with
    | nil => intro pre g _ h1 h2; simp only [List.foldl_nil, List.append_nil]; exact ⟨h1, h2⟩
    | cons u us ih =>
      intro pre g hn h1 h2
      have := ih (pre ++ [u]) (gadd (u.headD 0) u g) (fun v hv => hn v (List.mem_cons_of_mem _ hv)) (by
        rw [keys_gadd]
        split
        · exact h1
        · rename_i hk
          rw [List.nodup_append]
          exact ⟨h1, by simp, fun a ha b hb e => hk (by rw [← List.mem_singleton.mp hb, ← e]; exact ha)⟩) (fun h => by
        rw [lk_gadd, h2, wd_app]
        cases u with
        | nil => exact absurd rfl (hn _ List.mem_cons_self)
        | cons x u => by_cases e : x = h <;> simp [wd, e])
      simpa using this
  have := key us [] [] hne (by simp) (fun h => by simp [lk, wd])
  simpa [grp] using this
theorem look_wM (g : Gp) (h : Int) : lookD ((wM g).map fun p => (kD p.1, p.2)) (.inl h) = some (.list ((lk g h).map il)) ∨ (lookD ((wM g).map fun p => (kD p.1, p.2)) (.inl h) = none ∧ lk g h = []) := by
  unfold wM lookD
  induction g with
  | nil => simp [lk]
  | cons p g ih =>
    by_cases e : p.1 = h
    · simp [lk, kD, keyD, e]
    · have e2 : ¬ ((.inl p.1 : Key) = .inl h) := fun z => e (by cases z; rfl)
      simp only [List.map_cons, List.find?_cons, kD, keyD, Option.some.injEq, e2, decide_false, Bool.false_eq_true, lk, e, if_false] at ih ⊢
      simpa using ih
theorem wM_nodup {g : Gp} (h : (g.map (·.1)).Nodup) : ((wM g).map (·.1)).Nodup := by
  have e : (wM g).map (·.1) = (g.map (·.1)).map Sum.inl := by simp [wM, Function.comp_def]
  rw [e]
  exact List.Pairwise.map _ (fun a b hab z => hab (by cases z; rfl)) h
theorem lk_mem {g : Gp} (hn : (g.map (·.1)).Nodup) {p : Int × List (List Int)} (h : p ∈ g) : lk g p.1 = p.2 := by
  induction g with
  | nil => cases h
  | cons q g ih =>
    obtain ⟨k, us⟩ := q
    simp only [List.map_cons, List.nodup_cons] at hn
    rcases List.mem_cons.mp h with rfl | h
    · simp [lk]
    · have : k ≠ p.1 := fun e => hn.1 (by rw [e]; exact List.mem_map.mpr ⟨p, h, rfl⟩)
      simp only [lk, if_neg this]
      exact ih hn.2 h
theorem bdd_mono {a b : Nat} {l : List Int} (h : Bdd a l) (e : a ≤ b) : Bdd b l := fun z hz => Nat.le_trans (h z hz) e

/-! ### lists by their words -/
def Wf (l : List Int) (h : Int) : List (List Int) := wd h (uts l)
theorem ut_inj {p q : Pt} (h : ut p = ut q) : p = q := by
  cases p; cases q
  simp only [ut, List.cons.injEq] at h
  simp [h]
theorem W_flt (l : List Int) (h : Int) : Wf l h = (flt h (prt l)).map ut := wd_ut h (prt l)
theorem W_ext {a b : List Int} (h : ∀ k, Wf a k = Wf b k) : a = b := by
  have e : prt a = prt b := srt_ext (prt_srt a) (prt_srt b) fun v => by
    have := h v
    rw [W_flt, W_flt] at this
    exact (List.map_inj_right fun _ _ => ut_inj).mp this
  rw [← unprt_prt a, e, unprt_prt]
theorem W_mrg (a b : List Int) (h : Int) : Wf (mrg a b) h = Wf a h ++ Wf b h := wd_mrg h a b
theorem W_nil (h : Int) : Wf [] h = [] := by simp [Wf, uts, prt_nil, wd]
theorem prt_unprt : ∀ P : List Pt, Srt P → (∀ p ∈ P, ∀ z ∈ p.2, z < p.1) → prt (unprt P) = P
  | [], _, _ => by simp [unprt, prt_nil]
  | (x, A) :: P, hs, hl => by
    have e : unprt ((x, A) :: P) = x :: (A ++ unprt P) := rfl
    rw [e, prt_app (hl (x, A) List.mem_cons_self) ?_, prt_unprt P hs.tail fun p hp => hl p (List.mem_cons_of_mem _ hp)]
    intro z hz
    cases P with
    | nil => cases hz
    | cons p P =>
      have : z = p.1 := by
        have e2 : unprt (p :: P) = p.1 :: (p.2 ++ unprt P) := rfl
        rw [e2] at hz
        exact (Option.some.inj hz).symm
      rw [this]
      exact hs.ge p (List.mem_cons_of_mem _ List.mem_cons_self)
theorem uts_units {us : List (List Int)} (h1 : ∀ u ∈ us, ∃ x xs, u = x :: xs ∧ ∀ z ∈ xs, z < x) (h2 : (us.map fun u => u.headD 0).Pairwise (· ≤ ·)) : uts us.flatten = us := by
  have e1 : (us.map fun u => ((u.headD 0, u.tail) : Pt)).map ut = us := by
    rw [List.map_map]
    conv => rhs; rw [← List.map_id us]
    refine List.map_congr_left fun u hu => ?_
    obtain ⟨x, xs, rfl, _⟩ := h1 u hu
    rfl
  have e2 : unprt (us.map fun u => ((u.headD 0, u.tail) : Pt)) = us.flatten := by
    unfold unprt
    rw [show (List.map (fun p : Pt => p.1 :: p.2) (us.map fun u => ((u.headD 0, u.tail) : Pt))) = us from e1]
  rw [uts, ← e2, prt_unprt, e1]
  · unfold Srt
    rw [List.pairwise_map] at h2 ⊢
    exact h2
  · intro p hp
    obtain ⟨u, hu, rfl⟩ := List.mem_map.mp hp
    obtain ⟨x, xs, rfl, hx⟩ := h1 u hu
    exact hx
def flw (g : Gp) : List Int := (((srt (g.map (·.1))).map (lk g)).flatten).flatten
/-- each key once; the words are rows of units of their leaders -/
def Gu (g : Gp) : Prop := (g.map (·.1)).Nodup ∧ ∀ p ∈ g, ∀ u ∈ p.2, ∃ xs, u = p.1 :: xs ∧ ∀ z ∈ xs, z < p.1
theorem lk_units {g : Gp} (hg : ∀ p ∈ g, ∀ u ∈ p.2, ∃ xs, u = p.1 :: xs ∧ ∀ z ∈ xs, z < p.1) (h : Int) : ∀ u ∈ lk g h, ∃ xs, u = h :: xs ∧ ∀ z ∈ xs, z < h := by
  induction g with
  | nil => intro u hu; cases hu
  | cons q g ih =>
    obtain ⟨k, us⟩ := q
    intro u hu
    unfold lk at hu
    by_cases e : k = h
    · rw [if_pos e] at hu
      subst e
      exact hg (k, us) List.mem_cons_self u hu
    · rw [if_neg e] at hu
      exact ih (fun p hp => hg p (List.mem_cons_of_mem _ hp)) u hu
theorem lk_none {g : Gp} {h : Int} (hn : h ∉ g.map (·.1)) : lk g h = [] := by
  induction g with
  | nil => rfl
  | cons q g ih =>
    obtain ⟨k, us⟩ := q
    simp only [List.map_cons, List.mem_cons, not_or] at hn
    unfold lk
    rw [if_neg fun e => hn.1 e.symm]
    exact ih hn.2
theorem flat_one {F : Int → List (List Int)} {h : Int} : ∀ {ks : List Int}, ks.Nodup → (∀ k ∈ ks, k ≠ h → F k = []) → (ks.map F).flatten = if h ∈ ks then F h else []
  | [], _, _ => rfl
  | k :: ks, nd, hF => by
    rw [List.nodup_cons] at nd
    rw [List.map_cons, List.flatten_cons, flat_one nd.2 fun j hj => hF j (List.mem_cons_of_mem _ hj)]
    by_cases e : k = h
    · subst e
      simp [nd.1]
    · rw [hF k List.mem_cons_self e, List.nil_append]
      have e' : ¬ h = k := fun z => e z.symm
      simp [e']
theorem wd_all {h : Int} {us : List (List Int)} (hu : ∀ u ∈ us, ∃ xs, u = h :: xs ∧ ∀ z ∈ xs, z < h) : wd h us = us := by
  unfold wd
  rw [List.filter_eq_self]
  intro u h1
  obtain ⟨xs, rfl, _⟩ := hu u h1
  simp
theorem wd_no {h k : Int} {us : List (List Int)} (hk : k ≠ h) (hu : ∀ u ∈ us, ∃ xs, u = k :: xs ∧ ∀ z ∈ xs, z < k) : wd h us = [] := by
  unfold wd
  rw [List.filter_eq_nil_iff]
  intro u h1
  obtain ⟨xs, rfl, _⟩ := hu u h1
  simpa using hk
theorem srt_keys {g : Gp} (hg : Gu g) : (srt (g.map (·.1))).Pairwise (· < ·) := by
  have h1 := srt_sorted (g.map (·.1))
  have h2 : (srt (g.map (·.1))).Nodup := (srt_perm _).nodup_iff.mpr hg.1
  exact (h1.and h2).imp fun h => Int.lt_iff_le_and_ne.mpr h
theorem uts_flw {g : Gp} (hg : Gu g) : uts (flw g) = ((srt (g.map (·.1))).map (lk g)).flatten := by
  refine uts_units (fun u hu => ?_) ?_
  · obtain ⟨w, hw, h1⟩ := List.mem_flatten.mp hu
    obtain ⟨k, _, rfl⟩ := List.mem_map.mp hw
    obtain ⟨xs, e, hx⟩ := lk_units hg.2 k u h1
    exact ⟨k, xs, e, hx⟩
  · rw [List.map_flatten, List.pairwise_flatten, List.map_map]
    have hd : ∀ k, ∀ x ∈ (lk g k).map (fun u => u.headD 0), x = k := fun k x hx => by
      obtain ⟨u, hu, rfl⟩ := List.mem_map.mp hx
      obtain ⟨xs, rfl, _⟩ := lk_units hg.2 k u hu
      rfl
    refine ⟨fun l hl => ?_, ?_⟩
    · obtain ⟨k, _, rfl⟩ := List.mem_map.mp hl
      refine List.pairwise_of_forall_mem_list fun x hx y hy => ?_
      have h1 := hd k x hx
      have h2 := hd k y hy
      omega
    · rw [List.pairwise_map]
      refine (srt_keys hg).imp fun {i j} hij x hx y hy => ?_
      have h1 := hd i x hx
      have h2 := hd j y hy
      omega
theorem W_flw {g : Gp} (hg : Gu g) (h : Int) : Wf (flw g) h = lk g h := by
  unfold Wf
  rw [uts_flw hg]
  have e : wd h ((srt (g.map (·.1))).map (lk g)).flatten = ((srt (g.map (·.1))).map fun k => wd h (lk g k)).flatten := by
    unfold wd
    rw [List.filter_flatten, List.map_map]
    rfl
  rw [e, flat_one ((srt_keys hg).imp fun h => Int.ne_of_lt h) fun k _ hk => wd_no hk (lk_units hg.2 k)]
  by_cases hm : h ∈ srt (g.map (·.1))
  · rw [if_pos hm, wd_all (lk_units hg.2 h)]
  · rw [if_neg hm, lk_none fun z => hm ((srt_perm _).mem_iff.mpr z)]
theorem gu_grp (l : List Int) : Gu (grp (uts l)) := by
  have hne : ∀ u ∈ uts l, u ≠ [] := fun u hu => by obtain ⟨x, xs, rfl, _⟩ := uts_cons hu; simp
  obtain ⟨n1, k1⟩ := grp_props (uts l) hne
  refine ⟨n1, fun p hp u hu => ?_⟩
  have e := lk_mem n1 hp
  rw [k1] at e
  rw [← e] at hu
  obtain ⟨h1, h2⟩ := List.mem_filter.mp hu
  obtain ⟨x, xs, rfl, hx⟩ := uts_cons h1
  simp only [List.head?_cons, decide_eq_true_eq, Option.some.injEq] at h2
  subst h2
  exact ⟨xs, rfl, hx⟩
theorem lk_grp (l : List Int) (h : Int) : lk (grp (uts l)) h = Wf l h := (grp_props (uts l) fun u hu => by obtain ⟨x, xs, rfl, _⟩ := uts_cons hu; simp).2 h
theorem flw_grp (l : List Int) : flw (grp (uts l)) = l := W_ext fun h => by rw [W_flw (gu_grp l), lk_grp]
/-! dicts changed word by word -/
def gmap (f : Int → List (List Int) → List (List Int)) (g : Gp) : Gp := g.map fun p => (p.1, f p.1 p.2)
theorem gmap_keys (f : Int → List (List Int) → List (List Int)) (g : Gp) : (gmap f g).map (·.1) = g.map (·.1) := by
  unfold gmap
  rw [List.map_map]
  rfl
theorem gmap_lk {f : Int → List (List Int) → List (List Int)} (h0 : ∀ h, f h [] = []) (h : Int) : ∀ g : Gp, lk (gmap f g) h = f h (lk g h)
  | [] => (h0 h).symm
  | (k, us) :: g => by
    have e : gmap f ((k, us) :: g) = (k, f k us) :: gmap f g := rfl
    rw [e]
    unfold lk
    by_cases hk : k = h
    · subst hk; simp
    · rw [if_neg hk, if_neg hk, gmap_lk h0 h g]
theorem gmap_gu {f : Int → List (List Int) → List (List Int)} {g : Gp} (hf : ∀ h w, ∀ u ∈ f h w, u ∈ w) (hg : Gu g) : Gu (gmap f g) := by
  refine ⟨by rw [gmap_keys]; exact hg.1, fun p hp u hu => ?_⟩
  obtain ⟨q, hq, rfl⟩ := List.mem_map.mp hp
  exact hg.2 q hq u (hf _ _ u hu)
theorem flat_sub {f g : Int → List (List Int)} : ∀ {ks : List Int}, (∀ k ∈ ks, (f k).Sublist (g k)) → ((ks.map f).flatten).Sublist (ks.map g).flatten
  | [], _ => List.Sublist.refl _
  | k :: ks, h => by
    rw [List.map_cons, List.map_cons, List.flatten_cons, List.flatten_cons]
    exact (h k List.mem_cons_self).append (flat_sub fun j hj => h j (List.mem_cons_of_mem _ hj))
theorem flatten_sub {a b : List (List Int)} (h : a.Sublist b) : a.flatten.Sublist b.flatten := by
  induction h with
  | slnil => exact List.Sublist.refl _
  | cons x _ ih => exact ih.trans (List.sublist_append_right _ _)
  | cons_cons x _ ih => exact (List.Sublist.refl _).append ih
theorem flw_sub {f : Int → List (List Int) → List (List Int)} {g : Gp} (h0 : ∀ h, f h [] = []) (hf : ∀ h w, (f h w).Sublist w) : (flw (gmap f g)).Sublist (flw g) := by
  unfold flw
  rw [gmap_keys]
  refine flatten_sub (flat_sub fun k _ => ?_)
  rw [gmap_lk h0]
  exact hf _ _
/-! beginnings -/
def lcp : List (List Int) → List (List Int) → List (List Int)
  | x :: a, y :: b => if x = y then x :: lcp a b else []
  | _, _ => []
def pdif : List (List Int) → List (List Int) → Option Nat
  | _, [] => none
  | [], _ :: _ => some 0
  | x :: w, u :: p => if x = u then (pdif w p).map (· + 1) else some 0
theorem lcp_nl (b : List (List Int)) : lcp [] b = [] := by simp [lcp]
theorem lcp_nr (a : List (List Int)) : lcp a [] = [] := by cases a <;> simp [lcp]
theorem pdif_none : ∀ {w p : List (List Int)}, pdif w p = none ↔ p <+: w
  | w, [] => by cases w <;> simp [pdif]
  | [], u :: p => by simp [pdif]
  | x :: w, u :: p => by
    unfold pdif
    by_cases e : x = u
    · subst e
      simp [pdif_none (w := w) (p := p)]
    · have e' : ¬ u = x := fun z => e z.symm
      simp [e, e']
theorem pdif_lcp : ∀ w w2 : List (List Int), (match pdif w2 w with
    | none => w
    | some n => w.take n) = lcp w w2
  | [], w2 => by cases w2 <;> simp [pdif, lcp]
  | u :: p, [] => by simp [pdif, lcp]
  | u :: p, x :: w => by
    have ih := pdif_lcp p w
    unfold pdif lcp
    by_cases e : u = x
    · subst e
      rw [if_pos rfl, if_pos rfl, ← ih]
      cases pdif w p <;> simp
    · have e' : ¬ x = u := fun z => e z.symm
      simp [e, e']
theorem lcp_pl : ∀ a b : List (List Int), lcp a b <+: a
  | [], b => by rw [lcp_nl]; exact List.nil_prefix
  | x :: a, [] => by rw [lcp_nr]; exact List.nil_prefix
  | x :: a, y :: b => by
    unfold lcp
    by_cases e : x = y
    · rw [if_pos e]
      exact (List.prefix_cons_inj x).mpr (lcp_pl a b)
    · rw [if_neg e]; exact List.nil_prefix
theorem lcp_comm : ∀ a b : List (List Int), lcp a b = lcp b a
  | [], b => by rw [lcp_nl, lcp_nr]
  | x :: a, [] => by rw [lcp_nl, lcp_nr]
  | x :: a, y :: b => by
    unfold lcp
    by_cases e : x = y
    · subst e; rw [if_pos rfl, if_pos rfl, lcp_comm a b]
    · rw [if_neg e, if_neg fun z => e z.symm]
theorem lcp_pr (a b : List (List Int)) : lcp a b <+: b := by rw [lcp_comm]; exact lcp_pl b a
theorem lcp_app (a b : List (List Int)) : ∀ c : List (List Int), lcp (c ++ a) (c ++ b) = c ++ lcp a b
  | [] => rfl
  | x :: c => by
    rw [List.cons_append, List.cons_append, lcp, if_pos rfl, lcp_app a b c]
    rfl
theorem drop_len {c s a : List (List Int)} (h : c ++ s = a) : a.drop c.length = s := by rw [← h, List.drop_left]
theorem lcp_drop (a b : List (List Int)) : lcp (a.drop (lcp a b).length) (b.drop (lcp a b).length) = [] := by
  obtain ⟨s, hs⟩ := lcp_pl a b
  obtain ⟨t, ht⟩ := lcp_pr a b
  have e := lcp_app s t (lcp a b)
  rw [hs, ht] at e
  have e2 : lcp s t = [] := List.append_cancel_left (e.symm.trans (List.append_nil _).symm)
  have d1 : a.drop (lcp a b).length = s := drop_len hs
  have d2 : b.drop (lcp a b).length = t := drop_len ht
  rw [d1, d2]
  exact e2
theorem pre_lcp {c a b : List (List Int)} (h1 : c <+: a) (h2 : c <+: b) : c <+: lcp a b := by
  obtain ⟨s, rfl⟩ := h1
  obtain ⟨t, rfl⟩ := h2
  rw [lcp_app]
  exact List.prefix_append _ _
theorem lcp_self (a b : List (List Int)) : lcp a (a ++ b) = a := by
  have := lcp_app [] b a
  rwa [List.append_nil, lcp_nl, List.append_nil] at this
/-! ends -/
def lcs (a b : List (List Int)) : List (List Int) := (lcp a.reverse b.reverse).reverse
theorem lcs_sl (a b : List (List Int)) : lcs a b <:+ a := by
  have := lcp_pl a.reverse b.reverse
  rw [← List.reverse_suffix, List.reverse_reverse] at this
  exact this
theorem lcs_sr (a b : List (List Int)) : lcs a b <:+ b := by
  have := lcp_pr a.reverse b.reverse
  rw [← List.reverse_suffix, List.reverse_reverse] at this
  exact this
theorem suf_lcs {c a b : List (List Int)} (h1 : c <:+ a) (h2 : c <:+ b) : c <:+ lcs a b := by
  unfold lcs
  rw [← List.reverse_prefix, List.reverse_reverse]
  exact pre_lcp (List.reverse_prefix.mpr h1) (List.reverse_prefix.mpr h2)
theorem lcs_self (a b : List (List Int)) : lcs a (b ++ a) = a := by
  unfold lcs
  rw [List.reverse_append, lcp_self, List.reverse_reverse]
theorem lcs_app (a b c : List (List Int)) : lcs (a ++ c) (b ++ c) = lcs a b ++ c := by
  unfold lcs
  rw [List.reverse_append, List.reverse_append, lcp_app, List.reverse_append, List.reverse_reverse]

theorem cutM (xs : List D) (i j : Nat) : DL.cutD xs (some (i : Int)) (some (j : Int)) = (xs.take j).drop i := by
  unfold DL.cutD
  rw [HT.sIx_nat, HT.sIx_nat, List.drop_take]
  rcases Nat.le_total i xs.length with h | h
  · rw [Nat.min_eq_left h]
    rcases Nat.le_total j xs.length with q | q
    · rw [Nat.min_eq_left q]
    · rw [Nat.min_eq_right q, List.take_of_length_le (by rw [List.length_drop]; omega), List.take_of_length_le (by rw [List.length_drop]; omega)]
  · rw [Nat.min_eq_right h, List.drop_length, List.drop_eq_nil_of_le h, List.take_nil, List.take_nil]
def nD (k : Nat) : D := .int (k : Int)
abbrev nl (ps : List Nat) : D := .list (ps.map nD)
theorem nl_ints (ps : List Nat) : ps.map nD = (ps.map fun k : Nat => (k : Int)).map PyData.int := by rw [List.map_map]; rfl
theorem nl_il (ps : List Nat) : nl ps = il (ps.map fun k : Nat => (k : Int)) := congrArg PyData.list (nl_ints ps)
theorem nD_def (k : Nat) : nD k = .int (k : Int) := rfl
theorem forL_step {k : Vl → M Unit} {b : M Fl} {x : D} {xs : List D} {s s' : S} (h : bnd (k (.d x)) (fun _ => b) s = .ok .nx s') : forL k b (x :: xs) s = forL k b xs s' := by simp only [forL, h]
theorem at_nat {v : List Int} {i : Nat} (h : i < v.length) : atI (v.map PyData.int) (i : Int) = some (.int (v.getD i 0)) := by
  have e : v[i]? = some (v.getD i 0) := by simp [List.getD, List.getElem?_eq_getElem h]
  simp [atI, ixN, h, List.getD, e]

/-! words as dicts -/
abbrev dM (g : Gp) : D := .dict ((wM g).map fun p => (kD p.1, p.2))
def tG (p : Int × List (List Int)) : D := .tuple [.int p.1, .list (p.2.map il)]
theorem items_dM (g : Gp) : itemsD ((wM g).map fun p => (kD p.1, p.2)) = g.map tG := by simp [itemsD, wM, kD, tG, Function.comp_def]
theorem vals_dM (g : Gp) : ((wM g).map fun p => (kD p.1, p.2)).map (·.2) = g.map fun p => .list (p.2.map il) := by simp [wM, Function.comp_def]
theorem intKeys_dM : ∀ g : Gp, intKeys ((wM g).map fun p => (kD p.1, p.2)) = some (g.map (·.1))
  | [] => rfl
  | p :: g => by
    have ih := intKeys_dM g
    simp only [wM, List.map_cons, kD, intKeys] at ih ⊢
    rw [ih]
    rfl
theorem sub_dM {g : Gp} {h : Int} (hm : h ∈ g.map (·.1)) : lookD ((wM g).map fun p => (kD p.1, p.2)) (.inl h) = some (.list ((lk g h).map il)) := by
  unfold wM lookD
  induction g with
  | nil => cases hm
  | cons p g ih =>
    by_cases e : p.1 = h
    · simp [lk, kD, keyD, e]
    · have e2 : ¬ ((.inl p.1 : Key) = .inl h) := fun z => e (by cases z; rfl)
      have hm2 : h ∈ g.map (·.1) := (List.mem_cons.mp hm).resolve_left fun z => e z.symm
      have := ih hm2
      simp only [List.map_cons, List.find?_cons, kD, keyD, Option.some.injEq, e2, decide_false, Bool.false_eq_true, lk, e, if_false] at this ⊢
      simpa using this
theorem get_dM (g : Gp) (h : Int) (s : S) : oGet2 (.d (dM g)) (.d (.int h)) (.d (.list [])) s = some (.d (.list ((lk g h).map il))) := by
  unfold oGet2
  simp only [dictOf, keyD]
  rcases look_wM g h with e | ⟨e1, e2⟩
  · rw [e]
  · rw [e1, e2]; rfl
theorem sortK_dM {g : Gp} (hl : g.length < 64) (s : S) : oSortK [.d (dM g)] s = some ((srt (g.map (·.1))).map .int) := by
  have : (g.map (·.1)).length < 64 := by simpa using hl
  simp only [oSortK, dictOf, intKeys_dM, this, if_true]
theorem flat_single (u : List Int) : (u.map fun z => [PyData.int z]).flatten = u.map .int := by
  induction u with
  | nil => rfl
  | cons x u ih => simp [ih]
theorem flat_maps (us : List (List Int)) : (us.map fun u => u.map PyData.int).flatten = us.flatten.map .int := by
  rw [List.map_flatten]
theorem fw2 {a0 a1 : Option Vl} {u : List Int} (hu : u.length ≤ 1000000) : (fCl I2_0_from_words K2_0_from_words T2_0_from_words (fEl E0_from_words) [3]) ⟨[a0, a1, some (.d (il u)), none], []⟩ = .ok (u.map .int) ⟨[a0, a1, some (.d (il u)), none], []⟩ := by
  have hI : I2_0_from_words ⟨[a0, a1, some (.d (il u)), none], []⟩ = .ok (u.map .int) ⟨[a0, a1, some (.d (il u)), none], []⟩ := by simp [x_bnd, x_ret, x_stuck, x_gets, x_fVar, x_fC, x_fOp, x_fNil, x_fCons, x_fCall, x_fDat, x_fCell, x_fLst, x_fTup, x_fTest, x_fTru, x_fAnd, x_fOr, x_fNot, x_fIf, x_asB, x_fAndV, x_fOrV, x_fNotV, x_fIsN, x_fNotN, x_frz, x_frzs0, x_frzs1, x_fFrz, x_fSeq, x_fNext, x_fExpr, x_fRet, x_fRetN, x_fAsg, x_kName, x_fPar, x_kNil, x_kCons, x_kTup, x_kSub, x_setIt, x_needL, x_upC, x_fApp, x_fPopAt, x_fPop, x_fSl, x_fNoP, x_fP, x_fDef, x_callD, x_fPerm, x_fIsi, x_fNeg, x_asL, x_asLt, x_asT, x_fItL, x_fItT, x_orI, x_fRng1, x_fRng2, x_fEnum, x_fZip, x_fFor, x_forL0, x_fAug, x_fYes, x_lcT, x_fRstT, x_fRstV, x_ite, oIx, cutC, kl, Ce.lone, x_fCellV, x_fAppV, x_needV, x_upV, oIxV, x_fDNew, x_fSetdL, x_needW, x_setdL, x_fSrtS, x_fToM, x_fItems, x_fGet2, x_fDSub, x_needD, oGet2, oDSub, dictOf, keyD, oSortG, oSortP, orF, oCatT, oStr, x_fCount, x_fIndex, x_fRev, x_fPar3, datL, dat, oAdd, orO, oI, oInt, oPowW, oIC, oMod, cPos, oDiv, cDiv, endF, oAddI, oSub, oLt, oLe, oGt, oGe, oMul, oMulG, oRepD, oRep, oI2, oMin2, oMax2, oMinL, oMaxL, oAll, oAny, oBools, oIn, oNotIn, oInD, oInSg, x_fChain, intsA, cellsOf, picks, renum, putB, Ce.alive, oSl, slOr, oSlD, oSlL, oLenG, orA, oLen, tru, permL, oSumL, oCatD, datO, oCat, oList, oRepr, oTuple, DL.isNon, oSlT, oSlS, oAddS, oEqG, oNeG, oEqS, oNeS, oEq, oNe, x_fRaise, x_fFrzL, x_frzL, x_fItemsI, x_fValsI, x_fKeysI, x_fDNewM, x_fDPut, x_putC, x_fL6, dsOf, oSortK, intKeys, x_fDSub, x_fTupC, x_fFrzN, oIxT, callT, endT]
  have hL := lc2L_en (k := K2_0_from_words) (t := T2_0_from_words) (F := fEl E0_from_words) (sl := wipeD [a0, a1, some (.d (il u)), none] [3]) (ce := []) PyData.int (fun z => [PyData.int z]) (as := u) (fun z _ => ⟨_, by simp [x_lc2T, x_fEl, x_bnd, x_ret, x_stuck, x_gets, x_fVar, x_fC, x_fOp, x_fNil, x_fCons, x_fCall, x_fDat, x_fCell, x_fLst, x_fTup, x_fTest, x_fTru, x_fAnd, x_fOr, x_fNot, x_fIf, x_asB, x_fAndV, x_fOrV, x_fNotV, x_fIsN, x_fNotN, x_frz, x_frzs0, x_frzs1, x_fFrz, x_fSeq, x_fNext, x_fExpr, x_fRet, x_fRetN, x_fAsg, x_kName, x_fPar, x_kNil, x_kCons, x_kTup, x_kSub, x_setIt, x_needL, x_upC, x_fApp, x_fPopAt, x_fPop, x_fSl, x_fNoP, x_fP, x_fDef, x_callD, x_fPerm, x_fIsi, x_fNeg, x_asL, x_asLt, x_asT, x_fItL, x_fItT, x_orI, x_fRng1, x_fRng2, x_fEnum, x_fZip, x_fFor, x_forL0, x_fAug, x_fYes, x_lcT, x_fRstT, x_fRstV, x_ite, oIx, cutC, kl, Ce.lone, x_fCellV, x_fAppV, x_needV, x_upV, oIxV, x_fDNew, x_fSetdL, x_needW, x_setdL, x_fSrtS, x_fToM, x_fItems, x_fGet2, x_fDSub, x_needD, oGet2, oDSub, dictOf, keyD, oSortG, oSortP, orF, oCatT, oStr, x_fCount, x_fIndex, x_fRev, x_fPar3, datL, dat, oAdd, orO, oI, oInt, oPowW, oIC, oMod, cPos, oDiv, cDiv, endF, oAddI, oSub, oLt, oLe, oGt, oGe, oMul, oMulG, oRepD, oRep, oI2, oMin2, oMax2, oMinL, oMaxL, oAll, oAny, oBools, oIn, oNotIn, oInD, oInSg, x_fChain, intsA, cellsOf, picks, renum, putB, Ce.alive, oSl, slOr, oSlD, oSlL, oLenG, orA, oLen, tru, permL, oSumL, oCatD, datO, oCat, oList, oRepr, oTuple, DL.isNon, oSlT, oSlS, oAddS, oEqG, oNeG, oEqS, oNeS, oEq, oNe, x_fRaise, x_fFrzL, x_frzL, x_fItemsI, x_fValsI, x_fKeysI, x_fDNewM, x_fDPut, x_putC, x_fL6, dsOf, oSortK, intKeys, x_fDSub, x_fTupC, x_fFrzN, oIxT, callT, endT, wipeD]; rfl, rfl⟩)
  rw [flat_single] at hL
  exact fCl_ok hI hL (by rw [List.length_map]; exact hu)
theorem fw1 {g : Gp} {k : Int} (hk : k ∈ g.map (·.1)) (hl : (lk g k).flatten.length ≤ 1000000) : (fCl I1_0_from_words K1_0_from_words T1_0_from_words (fCl I2_0_from_words K2_0_from_words T2_0_from_words (fEl E0_from_words) [3]) [2, 3]) ⟨[some (.d (dM g)), some (.d (.int k)), none, none], []⟩ = .ok ((lk g k).flatten.map .int) ⟨[some (.d (dM g)), some (.d (.int k)), none, none], []⟩ := by
  have hs := sub_dM hk
  have hI : I1_0_from_words ⟨[some (.d (dM g)), some (.d (.int k)), none, none], []⟩ = .ok ((lk g k).map il) ⟨[some (.d (dM g)), some (.d (.int k)), none, none], []⟩ := by
    simp [x_bnd, x_ret, x_stuck, x_gets, x_fVar, x_fC, x_fOp, x_fNil, x_fCons, x_fCall, x_fDat, x_fCell, x_fLst, x_fTup, x_fTest, x_fTru, x_fAnd, x_fOr, x_fNot, x_fIf, x_asB, x_fAndV, x_fOrV, x_fNotV, x_fIsN, x_fNotN, x_frz, x_frzs0, x_frzs1, x_fFrz, x_fSeq, x_fNext, x_fExpr, x_fRet, x_fRetN, x_fAsg, x_kName, x_fPar, x_kNil, x_kCons, x_kTup, x_kSub, x_setIt, x_needL, x_upC, x_fApp, x_fPopAt, x_fPop, x_fSl, x_fNoP, x_fP, x_fDef, x_callD, x_fPerm, x_fIsi, x_fNeg, x_asL, x_asLt, x_asT, x_fItL, x_fItT, x_orI, x_fRng1, x_fRng2, x_fEnum, x_fZip, x_fFor, x_forL0, x_fAug, x_fYes, x_lcT, x_fRstT, x_fRstV, x_ite, oIx, cutC, kl, Ce.lone, x_fCellV, x_fAppV, x_needV, x_upV, oIxV, x_fDNew, x_fSetdL, x_needW, x_setdL, x_fSrtS, x_fToM, x_fItems, x_fGet2, x_fDSub, x_needD, oGet2, oDSub, dictOf, keyD, oSortG, oSortP, orF, oCatT, oStr, x_fCount, x_fIndex, x_fRev, x_fPar3, datL, dat, oAdd, orO, oI, oInt, oPowW, oIC, oMod, cPos, oDiv, cDiv, endF, oAddI, oSub, oLt, oLe, oGt, oGe, oMul, oMulG, oRepD, oRep, oI2, oMin2, oMax2, oMinL, oMaxL, oAll, oAny, oBools, oIn, oNotIn, oInD, oInSg, x_fChain, intsA, cellsOf, picks, renum, putB, Ce.alive, oSl, slOr, oSlD, oSlL, oLenG, orA, oLen, tru, permL, oSumL, oCatD, datO, oCat, oList, oRepr, oTuple, DL.isNon, oSlT, oSlS, oAddS, oEqG, oNeG, oEqS, oNeS, oEq, oNe, x_fRaise, x_fFrzL, x_frzL, x_fItemsI, x_fValsI, x_fKeysI, x_fDNewM, x_fDPut, x_putC, x_fL6, dsOf, oSortK, intKeys, x_fDSub, x_fTupC, x_fFrzN, oIxT, callT, endT, hs]
  have hL := lc2L_en (k := K1_0_from_words) (t := T1_0_from_words) (F := fCl I2_0_from_words K2_0_from_words T2_0_from_words (fEl E0_from_words) [3]) (sl := wipeD [some (.d (dM g)), some (.d (.int k)), none, none] [2, 3]) (ce := []) il (fun u => u.map PyData.int) (as := lk g k) (fun u hu => by
    have hul : u.length ≤ 1000000 := Nat.le_trans (by
      have := (flatten_sub (List.singleton_sublist.mpr hu)).length_le
      simpa using this) hl
    have h2 := fw2 (a0 := some (.d (dM g))) (a1 := some (.d (.int k))) hul
    exact ⟨⟨[some (.d (dM g)), some (.d (.int k)), some (.d (il u)), none], []⟩, by
      simp only [x_lc2T, x_bnd, x_kName, wipeD, List.set_cons_succ, List.set_cons_zero, x_fYes, if_true, h2, x_ret], rfl⟩)
  rw [flat_maps] at hL
  exact fCl_ok hI hL (by rw [List.length_map]; exact hl)
theorem lk_part {g : Gp} {k : Int} (hk : k ∈ g.map (·.1)) : (lk g k).flatten.length ≤ (flw g).length := by
  have h1 : k ∈ srt (g.map (·.1)) := (srt_perm _).mem_iff.mpr hk
  have h2 : lk g k ∈ (srt (g.map (·.1))).map (lk g) := List.mem_map.mpr ⟨k, h1, rfl⟩
  have h3 : (lk g k).Sublist ((srt (g.map (·.1))).map (lk g)).flatten := List.sublist_flatten_of_mem h2
  exact (flatten_sub h3).length_le
theorem from_words_ok {g : Gp} (hn : g.length < 64) (hl : (flw g).length ≤ 1000000) : g_from_words [.d (dM g)] [] = .ok (.c 0) [.l ((flw g).map .int)] := by
  have hs := fun s => sortK_dM (g := g) hn s
  have hI : I0_from_words ⟨[some (.d (dM g)), none, none, none], []⟩ = .ok ((srt (g.map (·.1))).map .int) ⟨[some (.d (dM g)), none, none, none], []⟩ := by
    generalize (srt (g.map (·.1))).map PyData.int = Z at hs
    simp only [x_orI, x_fItL, x_bnd, x_fDat, x_fCall, x_fCons, x_fNil, x_fVar, List.getElem?_cons_zero, x_ret, x_gets, hs, x_frz, x_asL]
  have hL := lc2L_en (k := K0_from_words) (t := T0_from_words) (F := fCl I1_0_from_words K1_0_from_words T1_0_from_words (fCl I2_0_from_words K2_0_from_words T2_0_from_words (fEl E0_from_words) [3]) [2, 3]) (sl := wipeD [some (.d (dM g)), none, none, none] [1, 2, 3]) (ce := []) PyData.int (fun k => (lk g k).flatten.map PyData.int) (as := srt (g.map (·.1))) (fun k hk => by
    have hk' := (srt_perm _).mem_iff.mp hk
    have h1 := fw1 hk' (Nat.le_trans (lk_part hk') hl)
    exact ⟨⟨[some (.d (dM g)), some (.d (.int k)), none, none], []⟩, by
      simp only [x_lc2T, x_bnd, x_kName, wipeD, List.set_cons_succ, List.set_cons_zero, x_fYes, if_true, h1, x_ret], rfl⟩)
  have e : ((srt (g.map (·.1))).map fun k => (lk g k).flatten.map PyData.int).flatten = (flw g).map .int := by
    unfold flw
    rw [← flat_maps, List.map_flatten, List.map_map]
    have : ∀ ks : List Int, (ks.map fun k => (lk g k).flatten.map PyData.int).flatten = ((ks.map (List.map (fun u : List Int => u.map PyData.int) ∘ lk g)).flatten).flatten := fun ks => by
      induction ks with
      | nil => rfl
      | cons k ks ih => simp only [List.map_cons, List.flatten_cons, ih, List.flatten_append, Function.comp, flat_maps]
    exact this _
  rw [e] at hL
  have hc := fCl_ok hI hL (by rw [List.length_map]; exact hl)
  simp only [g_from_words, mkF, body_from_words, List.length_cons, List.length_nil, if_true, List.map_cons, List.map_nil, List.cons_append, List.nil_append, List.replicate, x_fRet, x_fCell, x_bnd]
  rw [show (fCl I0_from_words K0_from_words T0_from_words (fCl I1_0_from_words K1_0_from_words T1_0_from_words (fCl I2_0_from_words K2_0_from_words T2_0_from_words (fEl E0_from_words) [3]) [2, 3]) [1, 2, 3]) ⟨[some (.d (dM g)), none, none, none], []⟩ = _ from hc]
  simp [x_ret, endF, cutC]
/-! difference -/
theorem dif_turn {w : List (List Int)} {P : D} {i : Nat} {u : List Int} {a2 a3 : Option Vl} : bnd (K0_difference (.d (.tuple [.int i, il u]))) (fun _ => B0_difference) ⟨[some (.d (.list (w.map il))), some (.d P), a2, a3], []⟩ = if w[i]? = some u then .ok .nx ⟨[some (.d (.list (w.map il))), some (.d P), some (.d (.int i)), some (.d (il u))], []⟩ else .ok (.rt (.d (.int i))) ⟨[some (.d (.list (w.map il))), some (.d P), some (.d (.int i)), some (.d (il u))], []⟩ := by
  by_cases hi : i < w.length
  · have hg : w[i]? = some w[i] := List.getElem?_eq_getElem hi
    have ha : atI (w.map il) (i : Int) = some (il w[i]) := by simp [atI, ixN, hi]
    have hge : ¬ ((w.length : Int) ≤ (i : Int)) := by omega
    generalize w[i] = x at hg ha
    by_cases e : x = u
    · subst e
      simp [x_bnd, x_ret, x_stuck, x_gets, x_fVar, x_fC, x_fOp, x_fNil, x_fCons, x_fCall, x_fDat, x_fCell, x_fLst, x_fTup, x_fTest, x_fTru, x_fAnd, x_fOr, x_fNot, x_fIf, x_asB, x_fAndV, x_fOrV, x_fNotV, x_fIsN, x_fNotN, x_frz, x_frzs0, x_frzs1, x_fFrz, x_fSeq, x_fNext, x_fExpr, x_fRet, x_fRetN, x_fAsg, x_kName, x_fPar, x_kNil, x_kCons, x_kTup, x_kSub, x_setIt, x_needL, x_upC, x_fApp, x_fPopAt, x_fPop, x_fSl, x_fNoP, x_fP, x_fDef, x_callD, x_fPerm, x_fIsi, x_fNeg, x_asL, x_asLt, x_asT, x_fItL, x_fItT, x_orI, x_fRng1, x_fRng2, x_fEnum, x_fZip, x_fFor, x_forL0, x_fAug, x_fYes, x_lcT, x_fRstT, x_fRstV, x_ite, oIx, cutC, kl, Ce.lone, x_fCellV, x_fAppV, x_needV, x_upV, oIxV, x_fDNew, x_fSetdL, x_needW, x_setdL, x_fSrtS, x_fToM, x_fItems, x_fGet2, x_fDSub, x_needD, oGet2, oDSub, dictOf, keyD, oSortG, oSortP, orF, oCatT, oStr, x_fCount, x_fIndex, x_fRev, x_fPar3, datL, dat, oAdd, orO, oI, oInt, oPowW, oIC, oMod, cPos, oDiv, cDiv, endF, oAddI, oSub, oLt, oLe, oGt, oGe, oMul, oMulG, oRepD, oRep, oI2, oMin2, oMax2, oMinL, oMaxL, oAll, oAny, oBools, oIn, oNotIn, oInD, oInSg, x_fChain, intsA, cellsOf, picks, renum, putB, Ce.alive, oSl, slOr, oSlD, oSlL, oLenG, orA, oLen, tru, permL, oSumL, oCatD, datO, oCat, oList, oRepr, oTuple, DL.isNon, oSlT, oSlS, oAddS, oEqG, oNeG, oEqS, oNeS, oEq, oNe, x_fRaise, x_fFrzL, x_frzL, x_fItemsI, x_fValsI, x_fKeysI, x_fDNewM, x_fDPut, x_putC, x_fL6, dsOf, oSortK, intKeys, x_fDSub, x_fTupC, x_fFrzN, oIxT, callT, endT, ha, hg, hge, okE_il, eqv_il]
    · have e' : ¬ (some x = some u) := fun z => e (Option.some.inj z)
      simp [x_bnd, x_ret, x_stuck, x_gets, x_fVar, x_fC, x_fOp, x_fNil, x_fCons, x_fCall, x_fDat, x_fCell, x_fLst, x_fTup, x_fTest, x_fTru, x_fAnd, x_fOr, x_fNot, x_fIf, x_asB, x_fAndV, x_fOrV, x_fNotV, x_fIsN, x_fNotN, x_frz, x_frzs0, x_frzs1, x_fFrz, x_fSeq, x_fNext, x_fExpr, x_fRet, x_fRetN, x_fAsg, x_kName, x_fPar, x_kNil, x_kCons, x_kTup, x_kSub, x_setIt, x_needL, x_upC, x_fApp, x_fPopAt, x_fPop, x_fSl, x_fNoP, x_fP, x_fDef, x_callD, x_fPerm, x_fIsi, x_fNeg, x_asL, x_asLt, x_asT, x_fItL, x_fItT, x_orI, x_fRng1, x_fRng2, x_fEnum, x_fZip, x_fFor, x_forL0, x_fAug, x_fYes, x_lcT, x_fRstT, x_fRstV, x_ite, oIx, cutC, kl, Ce.lone, x_fCellV, x_fAppV, x_needV, x_upV, oIxV, x_fDNew, x_fSetdL, x_needW, x_setdL, x_fSrtS, x_fToM, x_fItems, x_fGet2, x_fDSub, x_needD, oGet2, oDSub, dictOf, keyD, oSortG, oSortP, orF, oCatT, oStr, x_fCount, x_fIndex, x_fRev, x_fPar3, datL, dat, oAdd, orO, oI, oInt, oPowW, oIC, oMod, cPos, oDiv, cDiv, endF, oAddI, oSub, oLt, oLe, oGt, oGe, oMul, oMulG, oRepD, oRep, oI2, oMin2, oMax2, oMinL, oMaxL, oAll, oAny, oBools, oIn, oNotIn, oInD, oInSg, x_fChain, intsA, cellsOf, picks, renum, putB, Ce.alive, oSl, slOr, oSlD, oSlL, oLenG, orA, oLen, tru, permL, oSumL, oCatD, datO, oCat, oList, oRepr, oTuple, DL.isNon, oSlT, oSlS, oAddS, oEqG, oNeG, oEqS, oNeS, oEq, oNe, x_fRaise, x_fFrzL, x_frzL, x_fItemsI, x_fValsI, x_fKeysI, x_fDNewM, x_fDPut, x_putC, x_fL6, dsOf, oSortK, intKeys, x_fDSub, x_fTupC, x_fFrzN, oIxT, callT, endT, ha, hg, hge, okE_il, eqv_il, e]
  · have hg : w[i]? = none := List.getElem?_eq_none (by omega)
    have hge : (w.length : Int) ≤ (i : Int) := by omega
    simp [x_bnd, x_ret, x_stuck, x_gets, x_fVar, x_fC, x_fOp, x_fNil, x_fCons, x_fCall, x_fDat, x_fCell, x_fLst, x_fTup, x_fTest, x_fTru, x_fAnd, x_fOr, x_fNot, x_fIf, x_asB, x_fAndV, x_fOrV, x_fNotV, x_fIsN, x_fNotN, x_frz, x_frzs0, x_frzs1, x_fFrz, x_fSeq, x_fNext, x_fExpr, x_fRet, x_fRetN, x_fAsg, x_kName, x_fPar, x_kNil, x_kCons, x_kTup, x_kSub, x_setIt, x_needL, x_upC, x_fApp, x_fPopAt, x_fPop, x_fSl, x_fNoP, x_fP, x_fDef, x_callD, x_fPerm, x_fIsi, x_fNeg, x_asL, x_asLt, x_asT, x_fItL, x_fItT, x_orI, x_fRng1, x_fRng2, x_fEnum, x_fZip, x_fFor, x_forL0, x_fAug, x_fYes, x_lcT, x_fRstT, x_fRstV, x_ite, oIx, cutC, kl, Ce.lone, x_fCellV, x_fAppV, x_needV, x_upV, oIxV, x_fDNew, x_fSetdL, x_needW, x_setdL, x_fSrtS, x_fToM, x_fItems, x_fGet2, x_fDSub, x_needD, oGet2, oDSub, dictOf, keyD, oSortG, oSortP, orF, oCatT, oStr, x_fCount, x_fIndex, x_fRev, x_fPar3, datL, dat, oAdd, orO, oI, oInt, oPowW, oIC, oMod, cPos, oDiv, cDiv, endF, oAddI, oSub, oLt, oLe, oGt, oGe, oMul, oMulG, oRepD, oRep, oI2, oMin2, oMax2, oMinL, oMaxL, oAll, oAny, oBools, oIn, oNotIn, oInD, oInSg, x_fChain, intsA, cellsOf, picks, renum, putB, Ce.alive, oSl, slOr, oSlD, oSlL, oLenG, orA, oLen, tru, permL, oSumL, oCatD, datO, oCat, oList, oRepr, oTuple, DL.isNon, oSlT, oSlS, oAddS, oEqG, oNeG, oEqS, oNeS, oEq, oNe, x_fRaise, x_fFrzL, x_frzL, x_fItemsI, x_fValsI, x_fKeysI, x_fDNewM, x_fDPut, x_putC, x_fL6, dsOf, oSortK, intKeys, x_fDSub, x_fTupC, x_fFrzN, oIxT, callT, endT, hg, hge]
def plD : Option Nat → D
  | none => .none
  | some n => .int (n : Int)
theorem dif_loop {P : D} (w : List (List Int)) : ∀ (p : List (List Int)) (i : Nat) (a2 a3 : Option Vl), ∃ a2' a3', forL K0_difference B0_difference (enumD i (p.map il)) ⟨[some (.d (.list (w.map il))), some (.d P), a2, a3], []⟩ = (match pdif (w.drop i) p with
    | none => .ok .nx ⟨[some (.d (.list (w.map il))), some (.d P), a2', a3'], []⟩
    | some n => .ok (.rt (.d (.int ((i + n : Nat) : Int)))) ⟨[some (.d (.list (w.map il))), some (.d P), a2', a3'], []⟩)
  | [], i, a2, a3 => ⟨a2, a3, by cases h : w.drop i <;> rfl⟩
  | u :: p, i, a2, a3 => by
    have ht := dif_turn (w := w) (P := P) (i := i) (u := u) (a2 := a2) (a3 := a3)
    by_cases hi : i < w.length
    · have hd : w.drop i = w[i] :: w.drop (i + 1) := List.drop_eq_getElem_cons hi
      have hg : w[i]? = some w[i] := List.getElem?_eq_getElem hi
      generalize w[i] = x at hd hg
      by_cases e : x = u
      · subst e
        rw [if_pos hg] at ht
        obtain ⟨b2, b3, hr⟩ := dif_loop (P := P) w p (i + 1) (some (.d (.int i))) (some (.d (il x)))
        refine ⟨b2, b3, ?_⟩
        rw [List.map_cons, enumD, forL_step ht, hr, hd, pdif, if_pos rfl]
        cases pdif (w.drop (i + 1)) p with
        | none => rfl
        | some n => simp only [Option.map_some]; congr 4; omega
      · rw [if_neg (by rw [hg]; exact fun z => e (Option.some.inj z))] at ht
        refine ⟨some (.d (.int i)), some (.d (il u)), ?_⟩
        rw [List.map_cons, enumD, hd, pdif, if_neg e]
        simp only [forL, ht]
        rfl
    · have hd : w.drop i = [] := List.drop_eq_nil_of_le (by omega)
      rw [if_neg (by rw [List.getElem?_eq_none (by omega)]; simp)] at ht
      refine ⟨some (.d (.int i)), some (.d (il u)), ?_⟩
      rw [List.map_cons, enumD, hd, pdif]
      simp only [forL, ht]
      rfl
theorem difference_ok (w p : List (List Int)) : g_difference [.d (.list (w.map il)), .d (.list (p.map il))] [] = .ok (.d (plD (pdif w p))) [] := by
  obtain ⟨a2, a3, h⟩ := dif_loop (P := .list (p.map il)) w p 0 none none
  rw [List.drop_zero] at h
  have hI : I0_difference ⟨[some (.d (.list (w.map il))), some (.d (.list (p.map il))), none, none], []⟩ = .ok (enumD 0 (p.map il)) ⟨[some (.d (.list (w.map il))), some (.d (.list (p.map il))), none, none], []⟩ := by simp [x_bnd, x_ret, x_stuck, x_gets, x_fVar, x_fC, x_fOp, x_fNil, x_fCons, x_fCall, x_fDat, x_fCell, x_fLst, x_fTup, x_fTest, x_fTru, x_fAnd, x_fOr, x_fNot, x_fIf, x_asB, x_fAndV, x_fOrV, x_fNotV, x_fIsN, x_fNotN, x_frz, x_frzs0, x_frzs1, x_fFrz, x_fSeq, x_fNext, x_fExpr, x_fRet, x_fRetN, x_fAsg, x_kName, x_fPar, x_kNil, x_kCons, x_kTup, x_kSub, x_setIt, x_needL, x_upC, x_fApp, x_fPopAt, x_fPop, x_fSl, x_fNoP, x_fP, x_fDef, x_callD, x_fPerm, x_fIsi, x_fNeg, x_asL, x_asLt, x_asT, x_fItL, x_fItT, x_orI, x_fRng1, x_fRng2, x_fEnum, x_fZip, x_fFor, x_forL0, x_fAug, x_fYes, x_lcT, x_fRstT, x_fRstV, x_ite, oIx, cutC, kl, Ce.lone, x_fCellV, x_fAppV, x_needV, x_upV, oIxV, x_fDNew, x_fSetdL, x_needW, x_setdL, x_fSrtS, x_fToM, x_fItems, x_fGet2, x_fDSub, x_needD, oGet2, oDSub, dictOf, keyD, oSortG, oSortP, orF, oCatT, oStr, x_fCount, x_fIndex, x_fRev, x_fPar3, datL, dat, oAdd, orO, oI, oInt, oPowW, oIC, oMod, cPos, oDiv, cDiv, endF, oAddI, oSub, oLt, oLe, oGt, oGe, oMul, oMulG, oRepD, oRep, oI2, oMin2, oMax2, oMinL, oMaxL, oAll, oAny, oBools, oIn, oNotIn, oInD, oInSg, x_fChain, intsA, cellsOf, picks, renum, putB, Ce.alive, oSl, slOr, oSlD, oSlL, oLenG, orA, oLen, tru, permL, oSumL, oCatD, datO, oCat, oList, oRepr, oTuple, DL.isNon, oSlT, oSlS, oAddS, oEqG, oNeG, oEqS, oNeS, oEq, oNe, x_fRaise, x_fFrzL, x_frzL, x_fItemsI, x_fValsI, x_fKeysI, x_fDNewM, x_fDPut, x_putC, x_fL6, dsOf, oSortK, intKeys, x_fDSub, x_fTupC, x_fFrzN, oIxT, callT, endT]
  refine rt_body (v := .d (plD (pdif w p))) rfl ?_
  simp only [List.map_cons, List.map_nil, List.cons_append, List.nil_append, List.replicate]
  cases hp : pdif w p with
  | none =>
    rw [hp] at h
    refine rt_seq (fFor_ok hI h) ?_
    simp [x_bnd, x_ret, x_stuck, x_gets, x_fVar, x_fC, x_fOp, x_fNil, x_fCons, x_fCall, x_fDat, x_fCell, x_fLst, x_fTup, x_fTest, x_fTru, x_fAnd, x_fOr, x_fNot, x_fIf, x_asB, x_fAndV, x_fOrV, x_fNotV, x_fIsN, x_fNotN, x_frz, x_frzs0, x_frzs1, x_fFrz, x_fSeq, x_fNext, x_fExpr, x_fRet, x_fRetN, x_fAsg, x_kName, x_fPar, x_kNil, x_kCons, x_kTup, x_kSub, x_setIt, x_needL, x_upC, x_fApp, x_fPopAt, x_fPop, x_fSl, x_fNoP, x_fP, x_fDef, x_callD, x_fPerm, x_fIsi, x_fNeg, x_asL, x_asLt, x_asT, x_fItL, x_fItT, x_orI, x_fRng1, x_fRng2, x_fEnum, x_fZip, x_fFor, x_forL0, x_fAug, x_fYes, x_lcT, x_fRstT, x_fRstV, x_ite, oIx, cutC, kl, Ce.lone, x_fCellV, x_fAppV, x_needV, x_upV, oIxV, x_fDNew, x_fSetdL, x_needW, x_setdL, x_fSrtS, x_fToM, x_fItems, x_fGet2, x_fDSub, x_needD, oGet2, oDSub, dictOf, keyD, oSortG, oSortP, orF, oCatT, oStr, x_fCount, x_fIndex, x_fRev, x_fPar3, datL, dat, oAdd, orO, oI, oInt, oPowW, oIC, oMod, cPos, oDiv, cDiv, endF, oAddI, oSub, oLt, oLe, oGt, oGe, oMul, oMulG, oRepD, oRep, oI2, oMin2, oMax2, oMinL, oMaxL, oAll, oAny, oBools, oIn, oNotIn, oInD, oInSg, x_fChain, intsA, cellsOf, picks, renum, putB, Ce.alive, oSl, slOr, oSlD, oSlL, oLenG, orA, oLen, tru, permL, oSumL, oCatD, datO, oCat, oList, oRepr, oTuple, DL.isNon, oSlT, oSlS, oAddS, oEqG, oNeG, oEqS, oNeS, oEq, oNe, x_fRaise, x_fFrzL, x_frzL, x_fItemsI, x_fValsI, x_fKeysI, x_fDNewM, x_fDPut, x_putC, x_fL6, dsOf, oSortK, intKeys, x_fDSub, x_fTupC, x_fFrzN, oIxT, callT, endT, Rt, plD]
  | some n =>
    rw [hp] at h
    have hf : (fFor I0_difference K0_difference B0_difference) ⟨[some (.d (.list (w.map il))), some (.d (.list (p.map il))), none, none], []⟩ = .ok (.rt (.d (.int ((0 + n : Nat) : Int)))) ⟨[some (.d (.list (w.map il))), some (.d (.list (p.map il))), a2, a3], []⟩ := by
      simp only [fFor, bnd, hI, h]
    simp only [body_difference, x_fSeq, hf]
    simp [Rt, plD, endF, cutC]

abbrev rvG : Int → List (List Int) → List (List Int) := fun _ w => w.reverse
theorem wM_keys (g : Gp) : (wM g).map (·.1) = (g.map (·.1)).map Sum.inl := by simp [wM, Function.comp_def]
theorem get2_at {i j : Nat} {g : Gp} {h : Int} {s : S} (hi : s.sl[i]? = some (some (.d (dM g)))) (hj : s.sl[j]? = some (some (.d (.int h)))) : (fGet2 (fVar i) (fVar j) (fDat (fLst fNil))) s = .ok (.d (.list ((lk g h).map il))) s := by
  have hl : (fDat (fLst fNil)) s = .ok (.d (.list [])) s := by simp [x_bnd, x_ret, x_stuck, x_gets, x_fVar, x_fC, x_fOp, x_fNil, x_fCons, x_fCall, x_fDat, x_fCell, x_fLst, x_fTup, x_fTest, x_fTru, x_fAnd, x_fOr, x_fNot, x_fIf, x_asB, x_fAndV, x_fOrV, x_fNotV, x_fIsN, x_fNotN, x_frz, x_frzs0, x_frzs1, x_fFrz, x_fSeq, x_fNext, x_fExpr, x_fRet, x_fRetN, x_fAsg, x_kName, x_fPar, x_kNil, x_kCons, x_kTup, x_kSub, x_setIt, x_needL, x_upC, x_fApp, x_fPopAt, x_fPop, x_fSl, x_fNoP, x_fP, x_fDef, x_callD, x_fPerm, x_fIsi, x_fNeg, x_asL, x_asLt, x_asT, x_fItL, x_fItT, x_orI, x_fRng1, x_fRng2, x_fEnum, x_fZip, x_fFor, x_forL0, x_fAug, x_fYes, x_lcT, x_fRstT, x_fRstV, x_ite, oIx, cutC, kl, Ce.lone, x_fCellV, x_fAppV, x_needV, x_upV, oIxV, x_fDNew, x_fSetdL, x_needW, x_setdL, x_fSrtS, x_fToM, x_fItems, x_fGet2, x_fDSub, x_needD, oGet2, oDSub, dictOf, keyD, oSortG, oSortP, orF, oCatT, oStr, x_fCount, x_fIndex, x_fRev, x_fPar3, datL, dat, oAdd, orO, oI, oInt, oPowW, oIC, oMod, cPos, oDiv, cDiv, endF, oAddI, oSub, oLt, oLe, oGt, oGe, oMul, oMulG, oRepD, oRep, oI2, oMin2, oMax2, oMinL, oMaxL, oAll, oAny, oBools, oIn, oNotIn, oInD, oInSg, x_fChain, intsA, cellsOf, picks, renum, putB, Ce.alive, oSl, slOr, oSlD, oSlL, oLenG, orA, oLen, tru, permL, oSumL, oCatD, datO, oCat, oList, oRepr, oTuple, DL.isNon, oSlT, oSlS, oAddS, oEqG, oNeG, oEqS, oNeS, oEq, oNe, x_fRaise, x_fFrzL, x_frzL, x_fItemsI, x_fValsI, x_fKeysI, x_fDNewM, x_fDPut, x_putC, x_fL6, dsOf, oSortK, intKeys, x_fDSub, x_fTupC, x_fFrzN, oIxT, callT, endT]
  have hg := fun s => get_dM g h s
  simp only [x_fGet2, x_bnd, x_fVar, hi, hj, x_needD, dictOf, hl, x_gets, hg]
def fbad (W P : Gp) : List Int → Option (Int × Nat)
  | [] => none
  | h :: ks => match pdif (lk W h) (lk P h) with
    | some n => some (h, n)
    | none => fbad W P ks
theorem dv_turn {W P : Gp} {h : Int} (hk : h ∈ P.map (·.1)) {a2 a3 : Option Vl} : bnd (K0_divided (.d (.int h))) (fun _ => B0_divided) ⟨[some (.d (dM W)), some (.d (dM P)), a2, a3, none], []⟩ = (match pdif (lk W h) (lk P h) with
    | none => .ok .nx ⟨[some (.d (dM W)), some (.d (dM P)), some (.d (.int h)), some (.d .none), none], []⟩
    | some n => .ok (.rt (.d (.tuple [.str "leader", .int h, .int (n : Int)]))) ⟨[some (.d (dM W)), some (.d (dM P)), some (.d (.int h)), some (.d (.int (n : Int))), none], []⟩) := by
  have hs := sub_dM hk
  have hd := difference_ok (lk W h) (lk P h)
  have s1 : (fAsg (fDef g_difference (fCons (fGet2 (fVar 0) (fVar 2) (fDat (fLst fNil))) (fCons (fDSub (fVar 1) (fVar 2)) fNil))) (kName 3)) ⟨[some (.d (dM W)), some (.d (dM P)), some (.d (.int h)), a3, none], []⟩ = .ok .nx ⟨[some (.d (dM W)), some (.d (dM P)), some (.d (.int h)), some (.d (plD (pdif (lk W h) (lk P h)))), none], []⟩ := by
    have e1 : (fGet2 (fVar 0) (fVar 2) (fDat (fLst fNil))) ⟨[some (.d (dM W)), some (.d (dM P)), some (.d (.int h)), a3, none], []⟩ = .ok (.d (.list ((lk W h).map il))) ⟨[some (.d (dM W)), some (.d (dM P)), some (.d (.int h)), a3, none], []⟩ := by
      exact get2_at rfl rfl
    have e2 : (fDSub (fVar 1) (fVar 2)) ⟨[some (.d (dM W)), some (.d (dM P)), some (.d (.int h)), a3, none], []⟩ = .ok (.d (.list ((lk P h).map il))) ⟨[some (.d (dM W)), some (.d (dM P)), some (.d (.int h)), a3, none], []⟩ := by
      simp only [x_fDSub, x_bnd, x_fVar, List.getElem?_cons_zero, List.getElem?_cons_succ, x_gets, oDSub, dictOf, keyD, hs, Option.map_some]
    generalize plD (pdif (lk W h) (lk P h)) = z at hd
    generalize (lk W h).map il = A at hd e1
    generalize (lk P h).map il = C at hd e2
    simp only [x_fAsg, x_bnd, x_fDef, x_fCons, e1, e2, x_fNil, x_ret, x_callD, cellsOf, List.filterMap_cons, List.filterMap_nil, List.nodup_nil, if_true, picks, List.map_cons, List.map_nil, renum, hd, putB, x_kName, List.set_cons_succ, List.set_cons_zero]
  simp only [x_bnd, x_kName, List.set_cons_succ, List.set_cons_zero, x_fSeq, s1]
  cases pdif (lk W h) (lk P h) with
  | none => simp [x_bnd, x_ret, x_stuck, x_gets, x_fVar, x_fC, x_fOp, x_fNil, x_fCons, x_fCall, x_fDat, x_fCell, x_fLst, x_fTup, x_fTest, x_fTru, x_fAnd, x_fOr, x_fNot, x_fIf, x_asB, x_fAndV, x_fOrV, x_fNotV, x_fIsN, x_fNotN, x_frz, x_frzs0, x_frzs1, x_fFrz, x_fSeq, x_fNext, x_fExpr, x_fRet, x_fRetN, x_fAsg, x_kName, x_fPar, x_kNil, x_kCons, x_kTup, x_kSub, x_setIt, x_needL, x_upC, x_fApp, x_fPopAt, x_fPop, x_fSl, x_fNoP, x_fP, x_fDef, x_callD, x_fPerm, x_fIsi, x_fNeg, x_asL, x_asLt, x_asT, x_fItL, x_fItT, x_orI, x_fRng1, x_fRng2, x_fEnum, x_fZip, x_fFor, x_forL0, x_fAug, x_fYes, x_lcT, x_fRstT, x_fRstV, x_ite, oIx, cutC, kl, Ce.lone, x_fCellV, x_fAppV, x_needV, x_upV, oIxV, x_fDNew, x_fSetdL, x_needW, x_setdL, x_fSrtS, x_fToM, x_fItems, x_fGet2, x_fDSub, x_needD, oGet2, oDSub, dictOf, keyD, oSortG, oSortP, orF, oCatT, oStr, x_fCount, x_fIndex, x_fRev, x_fPar3, datL, dat, oAdd, orO, oI, oInt, oPowW, oIC, oMod, cPos, oDiv, cDiv, endF, oAddI, oSub, oLt, oLe, oGt, oGe, oMul, oMulG, oRepD, oRep, oI2, oMin2, oMax2, oMinL, oMaxL, oAll, oAny, oBools, oIn, oNotIn, oInD, oInSg, x_fChain, intsA, cellsOf, picks, renum, putB, Ce.alive, oSl, slOr, oSlD, oSlL, oLenG, orA, oLen, tru, permL, oSumL, oCatD, datO, oCat, oList, oRepr, oTuple, DL.isNon, oSlT, oSlS, oAddS, oEqG, oNeG, oEqS, oNeS, oEq, oNe, x_fRaise, x_fFrzL, x_frzL, x_fItemsI, x_fValsI, x_fKeysI, x_fDNewM, x_fDPut, x_putC, x_fL6, dsOf, oSortK, intKeys, x_fDSub, x_fTupC, x_fFrzN, oIxT, callT, endT, plD]
  | some n => simp [x_bnd, x_ret, x_stuck, x_gets, x_fVar, x_fC, x_fOp, x_fNil, x_fCons, x_fCall, x_fDat, x_fCell, x_fLst, x_fTup, x_fTest, x_fTru, x_fAnd, x_fOr, x_fNot, x_fIf, x_asB, x_fAndV, x_fOrV, x_fNotV, x_fIsN, x_fNotN, x_frz, x_frzs0, x_frzs1, x_fFrz, x_fSeq, x_fNext, x_fExpr, x_fRet, x_fRetN, x_fAsg, x_kName, x_fPar, x_kNil, x_kCons, x_kTup, x_kSub, x_setIt, x_needL, x_upC, x_fApp, x_fPopAt, x_fPop, x_fSl, x_fNoP, x_fP, x_fDef, x_callD, x_fPerm, x_fIsi, x_fNeg, x_asL, x_asLt, x_asT, x_fItL, x_fItT, x_orI, x_fRng1, x_fRng2, x_fEnum, x_fZip, x_fFor, x_forL0, x_fAug, x_fYes, x_lcT, x_fRstT, x_fRstV, x_ite, oIx, cutC, kl, Ce.lone, x_fCellV, x_fAppV, x_needV, x_upV, oIxV, x_fDNew, x_fSetdL, x_needW, x_setdL, x_fSrtS, x_fToM, x_fItems, x_fGet2, x_fDSub, x_needD, oGet2, oDSub, dictOf, keyD, oSortG, oSortP, orF, oCatT, oStr, x_fCount, x_fIndex, x_fRev, x_fPar3, datL, dat, oAdd, orO, oI, oInt, oPowW, oIC, oMod, cPos, oDiv, cDiv, endF, oAddI, oSub, oLt, oLe, oGt, oGe, oMul, oMulG, oRepD, oRep, oI2, oMin2, oMax2, oMinL, oMaxL, oAll, oAny, oBools, oIn, oNotIn, oInD, oInSg, x_fChain, intsA, cellsOf, picks, renum, putB, Ce.alive, oSl, slOr, oSlD, oSlL, oLenG, orA, oLen, tru, permL, oSumL, oCatD, datO, oCat, oList, oRepr, oTuple, DL.isNon, oSlT, oSlS, oAddS, oEqG, oNeG, oEqS, oNeS, oEq, oNe, x_fRaise, x_fFrzL, x_frzL, x_fItemsI, x_fValsI, x_fKeysI, x_fDNewM, x_fDPut, x_putC, x_fL6, dsOf, oSortK, intKeys, x_fDSub, x_fTupC, x_fFrzN, oIxT, callT, endT, plD]
theorem dv_loop {W P : Gp} : ∀ (ks : List Int) (a2 a3 : Option Vl), (∀ h ∈ ks, h ∈ P.map (·.1)) → ∃ a2' a3', forL K0_divided B0_divided (ks.map .int) ⟨[some (.d (dM W)), some (.d (dM P)), a2, a3, none], []⟩ = (match fbad W P ks with
    | none => .ok .nx ⟨[some (.d (dM W)), some (.d (dM P)), a2', a3', none], []⟩
    | some (h, n) => .ok (.rt (.d (.tuple [.str "leader", .int h, .int (n : Int)]))) ⟨[some (.d (dM W)), some (.d (dM P)), a2', a3', none], []⟩)
  | [], a2, a3, _ => ⟨a2, a3, rfl⟩
  | h :: ks, a2, a3, hk => by
    have ht := dv_turn (W := W) (hk h List.mem_cons_self) (a2 := a2) (a3 := a3)
    cases hp : pdif (lk W h) (lk P h) with
    | none =>
      rw [hp] at ht
      obtain ⟨b2, b3, hr⟩ := dv_loop ks (some (.d (.int h))) (some (.d .none)) fun j hj => hk j (List.mem_cons_of_mem _ hj)
      refine ⟨b2, b3, ?_⟩
      rw [List.map_cons, forL_step ht, hr, fbad, hp]
    | some n =>
      rw [hp] at ht
      refine ⟨some (.d (.int h)), some (.d (.int (n : Int))), ?_⟩
      rw [List.map_cons, fbad, hp]
      simp only [forL, ht]
abbrev dpG (P : Gp) : Int → List (List Int) → List (List Int) := fun h w => w.drop (lk P h).length
def divR (W P : Gp) : D := match fbad W P (srt (P.map (·.1))) with
  | some (h, n) => .tuple [.str "leader", .int h, .int (n : Int)]
  | none => .tuple [.str "list", dM (gmap (dpG P) W)]
theorem divided_ok {W P : Gp} (hn : (W.map (·.1)).Nodup) (hl : W.length ≤ 1000) (hp : P.length < 64) : g_divided [.d (dM W), .d (dM P)] [] = .ok (.d (divR W P)) [] := by
  obtain ⟨a2, a3, hloop⟩ := dv_loop (W := W) (P := P) (srt (P.map (·.1))) none none fun h hh => (srt_perm _).mem_iff.mp hh
  have hs := fun s => sortK_dM (g := P) hp s
  have hI : I0_divided ⟨[some (.d (dM W)), some (.d (dM P)), none, none, none], []⟩ = .ok ((srt (P.map (·.1))).map .int) ⟨[some (.d (dM W)), some (.d (dM P)), none, none, none], []⟩ := by
    generalize (srt (P.map (·.1))).map PyData.int = Z at hs
    simp only [x_orI, x_fItL, x_bnd, x_fDat, x_fCall, x_fCons, x_fNil, x_fVar, List.getElem?_cons_zero, List.getElem?_cons_succ, x_ret, x_gets, hs, x_frz, x_asL]
  refine rt_body (v := .d (divR W P)) rfl ?_
  simp only [List.map_cons, List.map_nil, List.cons_append, List.nil_append, List.replicate]
  unfold divR
  cases hb : fbad W P (srt (P.map (·.1))) with
  | some q =>
    obtain ⟨h, n⟩ := q
    rw [hb] at hloop
    have hf : (fFor I0_divided K0_divided B0_divided) ⟨[some (.d (dM W)), some (.d (dM P)), none, none, none], []⟩ = .ok (.rt (.d (.tuple [.str "leader", .int h, .int (n : Int)]))) ⟨[some (.d (dM W)), some (.d (dM P)), a2, a3, none], []⟩ := by
      simp only [fFor, bnd, hI, hloop]
    simp only [body_divided, x_fSeq, hf]
    simp [Rt, endF, cutC]
  | none =>
    rw [hb] at hloop
    refine rt_seq (fFor_ok hI hloop) ?_
    have hI1 : I1_divided ⟨[some (.d (dM W)), some (.d (dM P)), a2, a3, none], []⟩ = .ok (W.map tG) ⟨[some (.d (dM W)), some (.d (dM P)), a2, a3, none], []⟩ := by
      simp [x_bnd, x_ret, x_stuck, x_gets, x_fVar, x_fC, x_fOp, x_fNil, x_fCons, x_fCall, x_fDat, x_fCell, x_fLst, x_fTup, x_fTest, x_fTru, x_fAnd, x_fOr, x_fNot, x_fIf, x_asB, x_fAndV, x_fOrV, x_fNotV, x_fIsN, x_fNotN, x_frz, x_frzs0, x_frzs1, x_fFrz, x_fSeq, x_fNext, x_fExpr, x_fRet, x_fRetN, x_fAsg, x_kName, x_fPar, x_kNil, x_kCons, x_kTup, x_kSub, x_setIt, x_needL, x_upC, x_fApp, x_fPopAt, x_fPop, x_fSl, x_fNoP, x_fP, x_fDef, x_callD, x_fPerm, x_fIsi, x_fNeg, x_asL, x_asLt, x_asT, x_fItL, x_fItT, x_orI, x_fRng1, x_fRng2, x_fEnum, x_fZip, x_fFor, x_forL0, x_fAug, x_fYes, x_lcT, x_fRstT, x_fRstV, x_ite, oIx, cutC, kl, Ce.lone, x_fCellV, x_fAppV, x_needV, x_upV, oIxV, x_fDNew, x_fSetdL, x_needW, x_setdL, x_fSrtS, x_fToM, x_fItems, x_fGet2, x_fDSub, x_needD, oGet2, oDSub, dictOf, keyD, oSortG, oSortP, orF, oCatT, oStr, x_fCount, x_fIndex, x_fRev, x_fPar3, datL, dat, oAdd, orO, oI, oInt, oPowW, oIC, oMod, cPos, oDiv, cDiv, endF, oAddI, oSub, oLt, oLe, oGt, oGe, oMul, oMulG, oRepD, oRep, oI2, oMin2, oMax2, oMinL, oMaxL, oAll, oAny, oBools, oIn, oNotIn, oInD, oInSg, x_fChain, intsA, cellsOf, picks, renum, putB, Ce.alive, oSl, slOr, oSlD, oSlL, oLenG, orA, oLen, tru, permL, oSumL, oCatD, datO, oCat, oList, oRepr, oTuple, DL.isNon, oSlT, oSlS, oAddS, oEqG, oNeG, oEqS, oNeS, oEq, oNe, x_fRaise, x_fFrzL, x_frzL, x_fItemsI, x_fValsI, x_fKeysI, x_fDNewM, x_fDPut, x_putC, x_fL6, dsOf, oSortK, intKeys, x_fDSub, x_fTupC, x_fFrzN, oIxT, callT, endT, items_dM]
    have hL := dcL_en (k := K1_divided) (t := T1_divided) (ek := E1_divided) (ev := V1_divided) (sl := wipeD [some (.d (dM W)), some (.d (dM P)), a2, a3, none] [2, 4]) (ce := []) tG (fun p => some ((.inl p.1 : Key), PyData.list ((dpG P p.1 p.2).map il))) (as := W) (fun p _ => by
      have hg : (fGet2 (fVar 1) (fVar 2) (fDat (fLst fNil))) ⟨[some (.d (dM W)), some (.d (dM P)), some (.d (.int p.1)), a3, some (.d (.list (p.2.map il)))], []⟩ = .ok (.d (.list ((lk P p.1).map il))) ⟨[some (.d (dM W)), some (.d (dM P)), some (.d (.int p.1)), a3, some (.d (.list (p.2.map il)))], []⟩ := by
        exact get2_at rfl rfl
      have hv : V1_divided ⟨[some (.d (dM W)), some (.d (dM P)), some (.d (.int p.1)), a3, some (.d (.list (p.2.map il)))], []⟩ = .ok (.d (.list ((dpG P p.1 p.2).map il))) ⟨[some (.d (dM W)), some (.d (dM P)), some (.d (.int p.1)), a3, some (.d (.list (p.2.map il)))], []⟩ := by
        have hc : (fP (fCall oLenG (fCons (fGet2 (fVar 1) (fVar 2) (fDat (fLst fNil))) fNil))) ⟨[some (.d (dM W)), some (.d (dM P)), some (.d (.int p.1)), a3, some (.d (.list (p.2.map il)))], []⟩ = .ok (some ((lk P p.1).length : Int)) ⟨[some (.d (dM W)), some (.d (dM P)), some (.d (.int p.1)), a3, some (.d (.list (p.2.map il)))], []⟩ := by
          simp only [x_fP, x_bnd, x_fCall, x_fCons, hg, x_fNil, x_ret, x_gets]
          simp [oLenG, orA, oLen, datL, dat, x_ret]
        have hx : DL.cutD (p.2.map il) (some ((lk P p.1).length : Int)) none = (dpG P p.1 p.2).map il := by
          rw [cutI, List.map_drop]
        simp only [x_fSl, x_bnd, x_fVar, List.getElem?_cons_zero, List.getElem?_cons_succ, hc, x_fNoP, x_ret, x_gets]
        simp [x_bnd, x_ret, x_stuck, x_gets, x_fVar, x_fC, x_fOp, x_fNil, x_fCons, x_fCall, x_fDat, x_fCell, x_fLst, x_fTup, x_fTest, x_fTru, x_fAnd, x_fOr, x_fNot, x_fIf, x_asB, x_fAndV, x_fOrV, x_fNotV, x_fIsN, x_fNotN, x_frz, x_frzs0, x_frzs1, x_fFrz, x_fSeq, x_fNext, x_fExpr, x_fRet, x_fRetN, x_fAsg, x_kName, x_fPar, x_kNil, x_kCons, x_kTup, x_kSub, x_setIt, x_needL, x_upC, x_fApp, x_fPopAt, x_fPop, x_fSl, x_fNoP, x_fP, x_fDef, x_callD, x_fPerm, x_fIsi, x_fNeg, x_asL, x_asLt, x_asT, x_fItL, x_fItT, x_orI, x_fRng1, x_fRng2, x_fEnum, x_fZip, x_fFor, x_forL0, x_fAug, x_fYes, x_lcT, x_fRstT, x_fRstV, x_ite, oIx, cutC, kl, Ce.lone, x_fCellV, x_fAppV, x_needV, x_upV, oIxV, x_fDNew, x_fSetdL, x_needW, x_setdL, x_fSrtS, x_fToM, x_fItems, x_fGet2, x_fDSub, x_needD, oGet2, oDSub, dictOf, keyD, oSortG, oSortP, orF, oCatT, oStr, x_fCount, x_fIndex, x_fRev, x_fPar3, datL, dat, oAdd, orO, oI, oInt, oPowW, oIC, oMod, cPos, oDiv, cDiv, endF, oAddI, oSub, oLt, oLe, oGt, oGe, oMul, oMulG, oRepD, oRep, oI2, oMin2, oMax2, oMinL, oMaxL, oAll, oAny, oBools, oIn, oNotIn, oInD, oInSg, x_fChain, intsA, cellsOf, picks, renum, putB, Ce.alive, oSl, slOr, oSlD, oSlL, oLenG, orA, oLen, tru, permL, oSumL, oCatD, datO, oCat, oList, oRepr, oTuple, DL.isNon, oSlT, oSlS, oAddS, oEqG, oNeG, oEqS, oNeS, oEq, oNe, x_fRaise, x_fFrzL, x_frzL, x_fItemsI, x_fValsI, x_fKeysI, x_fDNewM, x_fDPut, x_putC, x_fL6, dsOf, oSortK, intKeys, x_fDSub, x_fTupC, x_fFrzN, oIxT, callT, endT, hx]
      refine ⟨⟨[some (.d (dM W)), some (.d (dM P)), some (.d (.int p.1)), a3, some (.d (.list (p.2.map il)))], []⟩, ?_, rfl⟩
      simp only [x_dcT, x_bnd, tG, x_kTup, x_kCons, x_kName, x_kNil, List.length_cons, List.length_nil, if_true, wipeD, List.set_cons_succ, List.set_cons_zero, x_fYes, x_ret, x_fFrz, x_fVar, List.getElem?_cons_zero, List.getElem?_cons_succ, x_frz, hv]
      simp [keyD, x_ret, cutC, hv, x_frz, x_bnd])
    have e : W.filterMap (fun p => some ((.inl p.1 : Key), PyData.list ((dpG P p.1 p.2).map il))) = wM (gmap (dpG P) W) := by
      rw [List.filterMap_eq_map']
      simp [wM, gmap]
    rw [e] at hL
    have hc := fDcM_ok hI1 hL (by simp [wM, gmap]; omega)
    rw [putsD_new (by simp) (by rw [wM_keys, gmap_keys]; exact List.Pairwise.map _ (fun a b hab z => hab (by cases z; rfl)) hn)] at hc
    have hd : (fDcM I1_divided K1_divided T1_divided E1_divided V1_divided [2, 4]) ⟨[some (.d (dM W)), some (.d (dM P)), a2, a3, none], []⟩ = .ok (.c 0) ⟨[some (.d (dM W)), some (.d (dM P)), a2, a3, none], [.m (wM (gmap (dpG P) W))]⟩ := hc
    generalize hZ : wM (gmap (dpG P) W) = Z at hd
    simp only [x_fRet, x_fTup, x_bnd, x_fCons, x_fC, x_fFrzL, hd, x_frzL, List.getElem?_cons_zero, x_fNil, x_ret]
    simp [x_bnd, x_ret, x_stuck, x_gets, x_fVar, x_fC, x_fOp, x_fNil, x_fCons, x_fCall, x_fDat, x_fCell, x_fLst, x_fTup, x_fTest, x_fTru, x_fAnd, x_fOr, x_fNot, x_fIf, x_asB, x_fAndV, x_fOrV, x_fNotV, x_fIsN, x_fNotN, x_frz, x_frzs0, x_frzs1, x_fFrz, x_fSeq, x_fNext, x_fExpr, x_fRet, x_fRetN, x_fAsg, x_kName, x_fPar, x_kNil, x_kCons, x_kTup, x_kSub, x_setIt, x_needL, x_upC, x_fApp, x_fPopAt, x_fPop, x_fSl, x_fNoP, x_fP, x_fDef, x_callD, x_fPerm, x_fIsi, x_fNeg, x_asL, x_asLt, x_asT, x_fItL, x_fItT, x_orI, x_fRng1, x_fRng2, x_fEnum, x_fZip, x_fFor, x_forL0, x_fAug, x_fYes, x_lcT, x_fRstT, x_fRstV, x_ite, oIx, cutC, kl, Ce.lone, x_fCellV, x_fAppV, x_needV, x_upV, oIxV, x_fDNew, x_fSetdL, x_needW, x_setdL, x_fSrtS, x_fToM, x_fItems, x_fGet2, x_fDSub, x_needD, oGet2, oDSub, dictOf, keyD, oSortG, oSortP, orF, oCatT, oStr, x_fCount, x_fIndex, x_fRev, x_fPar3, datL, dat, oAdd, orO, oI, oInt, oPowW, oIC, oMod, cPos, oDiv, cDiv, endF, oAddI, oSub, oLt, oLe, oGt, oGe, oMul, oMulG, oRepD, oRep, oI2, oMin2, oMax2, oMinL, oMaxL, oAll, oAny, oBools, oIn, oNotIn, oInD, oInSg, x_fChain, intsA, cellsOf, picks, renum, putB, Ce.alive, oSl, slOr, oSlD, oSlL, oLenG, orA, oLen, tru, permL, oSumL, oCatD, datO, oCat, oList, oRepr, oTuple, DL.isNon, oSlT, oSlS, oAddS, oEqG, oNeG, oEqS, oNeS, oEq, oNe, x_fRaise, x_fFrzL, x_frzL, x_fItemsI, x_fValsI, x_fKeysI, x_fDNewM, x_fDPut, x_putC, x_fL6, dsOf, oSortK, intKeys, x_fDSub, x_fTupC, x_fFrzN, oIxT, callT, endT, Rt, ← hZ]
abbrev cpG (B : Gp) : Int → List (List Int) → List (List Int) := fun h w => lcp w (lk B h)

theorem gmap_comp (f f' : Int → List (List Int) → List (List Int)) (g : Gp) : gmap f (gmap f' g) = gmap (fun h w => f h (f' h w)) g := by
  unfold gmap
  rw [List.map_map]
  rfl
theorem gmap_len (f : Int → List (List Int) → List (List Int)) (g : Gp) : (gmap f g).length = g.length := by simp [gmap]
theorem grp_len (l : List Int) : (grp (uts l)).length ≤ l.length := Nat.le_trans (grp_fold (uts l)).1 (uts_len l)
theorem wdict_at {l : List Int} (hb : Bdd (10 ^ 30) l) (hl : l.length ≤ 1000) {i : Nat} {s : S} (hi : s.sl[i]? = some (some (.d (il l)))) (hs : s.ce = []) : (fFrzL (fDef g_word_dict (fCons (fVar i) fNil))) s = .ok (.d (dM (grp (uts l)))) s := by
  have h := word_dict_ok hb hl
  obtain ⟨sl, ce⟩ := s
  subst hs
  have hi' : sl[i]? = some (some (.d (il l))) := hi
  generalize hZ : wM (grp (uts l)) = Z at h
  simp [x_bnd, x_ret, x_stuck, x_gets, x_fVar, x_fC, x_fOp, x_fNil, x_fCons, x_fCall, x_fDat, x_fCell, x_fLst, x_fTup, x_fTest, x_fTru, x_fAnd, x_fOr, x_fNot, x_fIf, x_asB, x_fAndV, x_fOrV, x_fNotV, x_fIsN, x_fNotN, x_frz, x_frzs0, x_frzs1, x_fFrz, x_fSeq, x_fNext, x_fExpr, x_fRet, x_fRetN, x_fAsg, x_kName, x_fPar, x_kNil, x_kCons, x_kTup, x_kSub, x_setIt, x_needL, x_upC, x_fApp, x_fPopAt, x_fPop, x_fSl, x_fNoP, x_fP, x_fDef, x_callD, x_fPerm, x_fIsi, x_fNeg, x_asL, x_asLt, x_asT, x_fItL, x_fItT, x_orI, x_fRng1, x_fRng2, x_fEnum, x_fZip, x_fFor, x_forL0, x_fAug, x_fYes, x_lcT, x_fRstT, x_fRstV, x_ite, oIx, cutC, kl, Ce.lone, x_fCellV, x_fAppV, x_needV, x_upV, oIxV, x_fDNew, x_fSetdL, x_needW, x_setdL, x_fSrtS, x_fToM, x_fItems, x_fGet2, x_fDSub, x_needD, oGet2, oDSub, dictOf, keyD, oSortG, oSortP, orF, oCatT, oStr, x_fCount, x_fIndex, x_fRev, x_fPar3, datL, dat, oAdd, orO, oI, oInt, oPowW, oIC, oMod, cPos, oDiv, cDiv, endF, oAddI, oSub, oLt, oLe, oGt, oGe, oMul, oMulG, oRepD, oRep, oI2, oMin2, oMax2, oMinL, oMaxL, oAll, oAny, oBools, oIn, oNotIn, oInD, oInSg, x_fChain, intsA, cellsOf, picks, renum, putB, Ce.alive, oSl, slOr, oSlD, oSlL, oLenG, orA, oLen, tru, permL, oSumL, oCatD, datO, oCat, oList, oRepr, oTuple, DL.isNon, oSlT, oSlS, oAddS, oEqG, oNeG, oEqS, oNeS, oEq, oNe, x_fRaise, x_fFrzL, x_frzL, x_fItemsI, x_fValsI, x_fKeysI, x_fDNewM, x_fDPut, x_putC, x_fL6, dsOf, oSortK, intKeys, x_fDSub, x_fTupC, x_fFrzN, oIxT, callT, endT, hi', h]
  rw [← hZ]
/-! the lists that come out -/
def qt (a f : List Int) : List Int := flw (gmap (dpG (grp (uts f))) (grp (uts a)))
def qtR (a f : List Int) : D := match fbad (grp (uts a)) (grp (uts f)) (srt ((grp (uts f)).map (·.1))) with
  | some (h, n) => .tuple [.str "leader", .int h, .int (n : Int)]
  | none => .tuple [.str "list", il (qt a f)]
theorem dpG_nil (P : Gp) (h : Int) : dpG P h [] = [] := List.drop_nil
theorem qt_sub (a f : List Int) : (qt a f).Sublist a := by
  have := flw_sub (f := dpG (grp (uts f))) (g := grp (uts a)) (dpG_nil _) (fun h w => List.drop_sublist _ _)
  rwa [flw_grp] at this
theorem qt_W (a f : List Int) (h : Int) : Wf (qt a f) h = (Wf a h).drop (Wf f h).length := by
  unfold qt
  rw [W_flw (gmap_gu (fun h w u hu => List.mem_of_mem_drop hu) (gu_grp a)), gmap_lk (dpG_nil _), lk_grp]
  show (Wf a h).drop (lk (grp (uts f)) h).length = _
  rw [lk_grp]
theorem eq_str (x y : Str) : PyData.eqv (.str x) (.str y) = decide (x = y) := by
  simp only [PyData.eqv]
  by_cases h : x = y <;> simp [h]
theorem ne_ll : ¬ (Str.ofString "leader" = Str.ofString "list") := by decide

/-- what quotient hands back: a new list in a tuple, or data -/
def qtV (a f : List Int) : FR := match fbad (grp (uts a)) (grp (uts f)) (srt ((grp (uts f)).map (·.1))) with
  | some (h, n) => .ok (.d (.tuple [.str "leader", .int h, .int (n : Int)])) []
  | none => .ok (.c 1) [.l ((qt a f).map .int), .t [.d (.str "list"), .c 0]]
theorem quotient_okc {a f : List Int} (ba : Bdd (10 ^ 30) a) (la : a.length ≤ 63) (bf : Bdd (10 ^ 30) f) (lf : f.length ≤ 63) : g_quotient [.d (il a), .d (il f)] [] = qtV a f := by
  have ga := grp_len a
  have gf := grp_len f
  have hd := divided_ok (W := grp (uts a)) (P := grp (uts f)) (gu_grp a).1 (by omega) (by omega)
  have h1 := wdict_at (i := 0) (s := ⟨[some (.d (il a)), some (.d (il f)), none], []⟩) ba (by omega) rfl rfl
  have h2 := wdict_at (i := 1) (s := ⟨[some (.d (il a)), some (.d (il f)), none], []⟩) bf (by omega) rfl rfl
  have hw := from_words_ok (g := gmap (dpG (grp (uts f))) (grp (uts a))) (by rw [gmap_len]; omega) (by have := (qt_sub a f).length_le; unfold qt at this; omega)
  have hs3 : body_quotient ⟨[some (.d (il a)), some (.d (il f)), none], []⟩ = (fRet (fIf (fTest (fOp oEqG (fOp oIx (fVar 2) (fC (.int 0))) (fC (.str "list")))) (fTupC (fCons (fC (.str "list")) (fCons (fDef g_from_words (fCons (fOp oIx (fVar 2) (fC (.int 1))) fNil)) fNil))) (fVar 2))) ⟨[some (.d (il a)), some (.d (il f)), some (.d (divR (grp (uts a)) (grp (uts f))))], []⟩ := by
    unfold body_quotient
    rw [fSeq_ok (s' := ⟨[some (.d (il a)), some (.d (il f)), none], []⟩) (by simp [x_bnd, x_ret, x_stuck, x_gets, x_fVar, x_fC, x_fOp, x_fNil, x_fCons, x_fCall, x_fDat, x_fCell, x_fLst, x_fTup, x_fTest, x_fTru, x_fAnd, x_fOr, x_fNot, x_fIf, x_asB, x_fAndV, x_fOrV, x_fNotV, x_fIsN, x_fNotN, x_frz, x_frzs0, x_frzs1, x_fFrz, x_fSeq, x_fNext, x_fExpr, x_fRet, x_fRetN, x_fAsg, x_kName, x_fPar, x_kNil, x_kCons, x_kTup, x_kSub, x_setIt, x_needL, x_upC, x_fApp, x_fPopAt, x_fPop, x_fSl, x_fNoP, x_fP, x_fDef, x_callD, x_fPerm, x_fIsi, x_fNeg, x_asL, x_asLt, x_asT, x_fItL, x_fItT, x_orI, x_fRng1, x_fRng2, x_fEnum, x_fZip, x_fFor, x_forL0, x_fAug, x_fYes, x_lcT, x_fRstT, x_fRstV, x_ite, oIx, cutC, kl, Ce.lone, x_fCellV, x_fAppV, x_needV, x_upV, oIxV, x_fDNew, x_fSetdL, x_needW, x_setdL, x_fSrtS, x_fToM, x_fItems, x_fGet2, x_fDSub, x_needD, oGet2, oDSub, dictOf, keyD, oSortG, oSortP, orF, oCatT, oStr, x_fCount, x_fIndex, x_fRev, x_fPar3, datL, dat, oAdd, orO, oI, oInt, oPowW, oIC, oMod, cPos, oDiv, cDiv, endF, oAddI, oSub, oLt, oLe, oGt, oGe, oMul, oMulG, oRepD, oRep, oI2, oMin2, oMax2, oMinL, oMaxL, oAll, oAny, oBools, oIn, oNotIn, oInD, oInSg, x_fChain, intsA, cellsOf, picks, renum, putB, Ce.alive, oSl, slOr, oSlD, oSlL, oLenG, orA, oLen, tru, permL, oSumL, oCatD, datO, oCat, oList, oRepr, oTuple, DL.isNon, oSlT, oSlS, oAddS, oEqG, oNeG, oEqS, oNeS, oEq, oNe, x_fRaise, x_fFrzL, x_frzL, x_fItemsI, x_fValsI, x_fKeysI, x_fDNewM, x_fDPut, x_putC, x_fL6, dsOf, oSortK, intKeys, x_fDSub, x_fTupC, x_fFrzN, oIxT, callT, endT, check_ok]), fSeq_ok (s' := ⟨[some (.d (il a)), some (.d (il f)), none], []⟩) (by simp [x_bnd, x_ret, x_stuck, x_gets, x_fVar, x_fC, x_fOp, x_fNil, x_fCons, x_fCall, x_fDat, x_fCell, x_fLst, x_fTup, x_fTest, x_fTru, x_fAnd, x_fOr, x_fNot, x_fIf, x_asB, x_fAndV, x_fOrV, x_fNotV, x_fIsN, x_fNotN, x_frz, x_frzs0, x_frzs1, x_fFrz, x_fSeq, x_fNext, x_fExpr, x_fRet, x_fRetN, x_fAsg, x_kName, x_fPar, x_kNil, x_kCons, x_kTup, x_kSub, x_setIt, x_needL, x_upC, x_fApp, x_fPopAt, x_fPop, x_fSl, x_fNoP, x_fP, x_fDef, x_callD, x_fPerm, x_fIsi, x_fNeg, x_asL, x_asLt, x_asT, x_fItL, x_fItT, x_orI, x_fRng1, x_fRng2, x_fEnum, x_fZip, x_fFor, x_forL0, x_fAug, x_fYes, x_lcT, x_fRstT, x_fRstV, x_ite, oIx, cutC, kl, Ce.lone, x_fCellV, x_fAppV, x_needV, x_upV, oIxV, x_fDNew, x_fSetdL, x_needW, x_setdL, x_fSrtS, x_fToM, x_fItems, x_fGet2, x_fDSub, x_needD, oGet2, oDSub, dictOf, keyD, oSortG, oSortP, orF, oCatT, oStr, x_fCount, x_fIndex, x_fRev, x_fPar3, datL, dat, oAdd, orO, oI, oInt, oPowW, oIC, oMod, cPos, oDiv, cDiv, endF, oAddI, oSub, oLt, oLe, oGt, oGe, oMul, oMulG, oRepD, oRep, oI2, oMin2, oMax2, oMinL, oMaxL, oAll, oAny, oBools, oIn, oNotIn, oInD, oInSg, x_fChain, intsA, cellsOf, picks, renum, putB, Ce.alive, oSl, slOr, oSlD, oSlL, oLenG, orA, oLen, tru, permL, oSumL, oCatD, datO, oCat, oList, oRepr, oTuple, DL.isNon, oSlT, oSlS, oAddS, oEqG, oNeG, oEqS, oNeS, oEq, oNe, x_fRaise, x_fFrzL, x_frzL, x_fItemsI, x_fValsI, x_fKeysI, x_fDNewM, x_fDPut, x_putC, x_fL6, dsOf, oSortK, intKeys, x_fDSub, x_fTupC, x_fFrzN, oIxT, callT, endT, check_ok]), fSeq_ok (s' := ⟨[some (.d (il a)), some (.d (il f)), some (.d (divR (grp (uts a)) (grp (uts f))))], []⟩) (by
      generalize divR (grp (uts a)) (grp (uts f)) = z at hd
      generalize dM (grp (uts a)) = A at h1 hd
      generalize dM (grp (uts f)) = F at h2 hd
      simp only [x_fAsg, x_bnd, x_fDef, x_fCons, h1, h2, x_fNil, x_ret, x_callD, cellsOf, List.filterMap_cons, List.filterMap_nil, List.nodup_nil, if_true, picks, List.map_cons, List.map_nil, renum, hd, putB, x_kName, List.set_cons_succ, List.set_cons_zero])]
  simp only [g_quotient, mkF, List.length_cons, List.length_nil, if_true, List.map_cons, List.map_nil, List.cons_append, List.nil_append, List.replicate]
  rw [hs3]
  unfold divR qtV qt
  cases fbad (grp (uts a)) (grp (uts f)) (srt ((grp (uts f)).map (·.1))) with
  | some q =>
    obtain ⟨h, n⟩ := q
    simp [x_bnd, x_ret, x_stuck, x_gets, x_fVar, x_fC, x_fOp, x_fNil, x_fCons, x_fCall, x_fDat, x_fCell, x_fLst, x_fTup, x_fTest, x_fTru, x_fAnd, x_fOr, x_fNot, x_fIf, x_asB, x_fAndV, x_fOrV, x_fNotV, x_fIsN, x_fNotN, x_frz, x_frzs0, x_frzs1, x_fFrz, x_fSeq, x_fNext, x_fExpr, x_fRet, x_fRetN, x_fAsg, x_kName, x_fPar, x_kNil, x_kCons, x_kTup, x_kSub, x_setIt, x_needL, x_upC, x_fApp, x_fPopAt, x_fPop, x_fSl, x_fNoP, x_fP, x_fDef, x_callD, x_fPerm, x_fIsi, x_fNeg, x_asL, x_asLt, x_asT, x_fItL, x_fItT, x_orI, x_fRng1, x_fRng2, x_fEnum, x_fZip, x_fFor, x_forL0, x_fAug, x_fYes, x_lcT, x_fRstT, x_fRstV, x_ite, oIx, cutC, kl, Ce.lone, x_fCellV, x_fAppV, x_needV, x_upV, oIxV, x_fDNew, x_fSetdL, x_needW, x_setdL, x_fSrtS, x_fToM, x_fItems, x_fGet2, x_fDSub, x_needD, oGet2, oDSub, dictOf, keyD, oSortG, oSortP, orF, oCatT, oStr, x_fCount, x_fIndex, x_fRev, x_fPar3, datL, dat, atI, ixN, oAdd, orO, oI, oInt, oPowW, oIC, oMod, cPos, oDiv, cDiv, endF, oAddI, oSub, oLt, oLe, oGt, oGe, oMul, oMulG, oRepD, oRep, oI2, oMin2, oMax2, oMinL, oMaxL, oAll, oAny, oBools, oIn, oNotIn, oInD, oInSg, x_fChain, intsA, cellsOf, picks, renum, putB, Ce.alive, oSl, slOr, oSlD, oSlL, oLenG, orA, oLen, tru, permL, oSumL, oCatD, datO, oCat, oList, oRepr, oTuple, DL.isNon, oSlT, oSlS, oAddS, oEqG, oNeG, oEqS, oNeS, oEq, oNe, x_fRaise, x_fFrzL, x_frzL, x_fItemsI, x_fValsI, x_fKeysI, x_fDNewM, x_fDPut, x_putC, x_fL6, dsOf, oSortK, intKeys, x_fDSub, x_fTupC, x_fFrzN, oIxT, callT, endT, eq_str, okE, noD, SeqAt.shaped, PyData.canLay0, PyData.depth, ne_ll]
  | none =>
    generalize dM (gmap (dpG (grp (uts f))) (grp (uts a))) = A at hw
    generalize flw (gmap (dpG (grp (uts f))) (grp (uts a))) = L at hw
    simp [x_bnd, x_ret, x_stuck, x_gets, x_fVar, x_fC, x_fOp, x_fNil, x_fCons, x_fCall, x_fDat, x_fCell, x_fLst, x_fTup, x_fTest, x_fTru, x_fAnd, x_fOr, x_fNot, x_fIf, x_asB, x_fAndV, x_fOrV, x_fNotV, x_fIsN, x_fNotN, x_frz, x_frzs0, x_frzs1, x_fFrz, x_fSeq, x_fNext, x_fExpr, x_fRet, x_fRetN, x_fAsg, x_kName, x_fPar, x_kNil, x_kCons, x_kTup, x_kSub, x_setIt, x_needL, x_upC, x_fApp, x_fPopAt, x_fPop, x_fSl, x_fNoP, x_fP, x_fDef, x_callD, x_fPerm, x_fIsi, x_fNeg, x_asL, x_asLt, x_asT, x_fItL, x_fItT, x_orI, x_fRng1, x_fRng2, x_fEnum, x_fZip, x_fFor, x_forL0, x_fAug, x_fYes, x_lcT, x_fRstT, x_fRstV, x_ite, oIx, cutC, kl, Ce.lone, x_fCellV, x_fAppV, x_needV, x_upV, oIxV, x_fDNew, x_fSetdL, x_needW, x_setdL, x_fSrtS, x_fToM, x_fItems, x_fGet2, x_fDSub, x_needD, oGet2, oDSub, dictOf, keyD, oSortG, oSortP, orF, oCatT, oStr, x_fCount, x_fIndex, x_fRev, x_fPar3, datL, dat, atI, ixN, oAdd, orO, oI, oInt, oPowW, oIC, oMod, cPos, oDiv, cDiv, endF, oAddI, oSub, oLt, oLe, oGt, oGe, oMul, oMulG, oRepD, oRep, oI2, oMin2, oMax2, oMinL, oMaxL, oAll, oAny, oBools, oIn, oNotIn, oInD, oInSg, x_fChain, intsA, cellsOf, picks, renum, putB, Ce.alive, oSl, slOr, oSlD, oSlL, oLenG, orA, oLen, tru, permL, oSumL, oCatD, datO, oCat, oList, oRepr, oTuple, DL.isNon, oSlT, oSlS, oAddS, oEqG, oNeG, oEqS, oNeS, oEq, oNe, x_fRaise, x_fFrzL, x_frzL, x_fItemsI, x_fValsI, x_fKeysI, x_fDNewM, x_fDPut, x_putC, x_fL6, dsOf, oSortK, intKeys, x_fDSub, x_fTupC, x_fFrzN, oIxT, callT, endT, hw]

theorem uts_max {l u : List Int} (h : (uts l).getLast? = some u) : (∀ z ∈ l, z ≤ u.headD 0) ∧ u.headD 0 ∈ l := by
  have hp := uts_heads l
  have hf := uts_flat l
  have hu := uts_cons (List.mem_of_getLast? h)
  obtain ⟨x, xs, rfl, _⟩ := hu
  obtain ⟨ws, hw⟩ : ∃ ws, uts l = ws ++ [x :: xs] := by
    rw [List.getLast?_eq_some_iff] at h
    exact h
  refine ⟨fun z hz => ?_, ?_⟩
  · rw [← hf] at hz
    obtain ⟨w, hw1, hw2⟩ := List.mem_flatten.mp hz
    have h1 : z ≤ w.headD 0 := by
      obtain ⟨y, ys, rfl, hy⟩ := uts_cons hw1
      rcases List.mem_cons.mp hw2 with q | q
      · rw [q]; exact Int.le_refl _
      · exact Int.le_of_lt (hy z q)
    rw [hw, List.map_append] at hp
    rw [hw] at hw1
    rcases List.mem_append.mp hw1 with q | q
    · have := (List.pairwise_append.mp hp).2.2 (w.headD 0) (List.mem_map.mpr ⟨w, q, rfl⟩) x (by simp)
      show z ≤ x
      omega
    · rw [List.mem_singleton.mp q] at h1
      exact h1
  · rw [← hf, hw]
    simp

/-! the law's own units, by the places of the leaders -/
def psum : Nat → List (List Int) → List Nat
  | _, [] => []
  | n, u :: us => n :: psum (n + u.length) us
theorem psum_snoc (u : List Int) : ∀ (us : List (List Int)) (n : Nat), psum n (us ++ [u]) = psum n us ++ [n + us.flatten.length]
  | [], n => by simp [psum]
  | v :: us, n => by
    simp only [List.cons_append, psum, psum_snoc u us, List.flatten_cons, List.length_append, Nat.add_assoc]
theorem psum_len : ∀ (us : List (List Int)) (n : Nat), (psum n us).length = us.length
  | [], n => rfl
  | v :: us, n => by simp [psum, psum_len us]
def hdq (l : List Int) (i : Nat) : Bool := decide ((l.take i).filter (fun z => decide (l.getD i 0 < z)) = [])
def hdp (l : List Int) : List Nat := (List.range l.length).filter (hdq l)
theorem hdp_snoc (l : List Int) (v : Int) : hdp (l ++ [v]) = hdp l ++ (if l.filter (fun z => decide (v < z)) = [] then [l.length] else []) := by
  unfold hdp
  rw [List.length_append, List.length_singleton, List.range_succ, List.filter_append]
  congr 1
  · refine List.filter_congr fun i hi => ?_
    have hi' := List.mem_range.mp hi
    unfold hdq
    rw [List.take_append_of_le_length (by omega)]
    have : (l ++ [v]).getD i 0 = l.getD i 0 := by
      simp only [List.getD_eq_getElem?_getD, List.getElem?_append_left hi']
    rw [this]
  · have e : hdq (l ++ [v]) l.length = decide (l.filter (fun z => decide (v < z)) = []) := by
      unfold hdq
      have : (l ++ [v]).getD l.length 0 = v := by
        simp [List.getD_eq_getElem?_getD]
      rw [this, List.take_append_of_le_length (Nat.le_refl _), List.take_length]
    by_cases h : l.filter (fun z => decide (v < z)) = []
    · rw [if_pos h, List.filter_cons_of_pos (by rw [e]; exact decide_eq_true h), List.filter_nil]
    · rw [if_neg h, List.filter_cons_of_neg (by rw [e]; simpa using h), List.filter_nil]
theorem hdp_psum (l : List Int) : hdp l = psum 0 (uts l) := by
  have key : ∀ n (l : List Int), l.length = n → hdp l = psum 0 (uts l) := fun n => by
    induction n with
    | zero =>
      intro l h
      rw [List.length_eq_zero_iff.mp h]
      simp [hdp, uts, prt_nil, psum]
    | succ n ih =>
      intro l h
      obtain ⟨m, v, rfl⟩ : ∃ m v, l = m ++ [v] := by
        rcases List.eq_nil_or_concat l with q | ⟨m, v, q⟩
        · rw [q] at h; simp at h
        · exact ⟨m, v, by simpa using q⟩
      have hm := ih m (by simpa using h)
      rw [hdp_snoc, uts_snoc, hm]
      unfold ustep
      cases hl : (uts m).getLast? with
      | none =>
        have h0 := List.getLast?_eq_none_iff.mp hl
        have hm0 : m = [] := by
          have := uts_flat m
          rw [h0] at this
          exact this.symm
        subst hm0
        simp [h0, psum]
      | some u =>
        have hmx := uts_max hl
        obtain ⟨ws, hw⟩ : ∃ ws, uts m = ws ++ [u] := List.getLast?_eq_some_iff.mp hl
        by_cases hc : u.headD 0 ≤ v
        · simp only [if_pos hc]
          have hf : m.filter (fun z => decide (v < z)) = [] := List.filter_eq_nil_iff.mpr fun z hz => by
            have := hmx.1 z hz
            simp only [decide_eq_true_eq]
            omega
          rw [if_pos hf, psum_snoc, uts_flat, Nat.zero_add]
        · simp only [if_neg hc]
          have hf : ¬ m.filter (fun z => decide (v < z)) = [] := fun z => by
            have := List.filter_eq_nil_iff.mp z _ hmx.2
            simp only [decide_eq_true_eq] at this
            omega
          rw [if_neg hf, List.append_nil, hw]
          simp only [List.dropLast_concat, psum_snoc]
  exact key _ l rfl
def zipE (H : List Nat) (n : Nat) : List (Nat × Nat) := H.zip (H.drop 1 ++ [n])
theorem cuts_back : ∀ (us : List (List Int)) (pre : List Int), (zipE (psum pre.length us) (pre ++ us.flatten).length).map (fun p => ((pre ++ us.flatten).take p.2).drop p.1) = us
  | [], pre => by simp [zipE, psum]
  | [u], pre => by
    simp only [zipE, psum, List.drop_succ_cons, List.drop_nil, List.nil_append, List.zip_cons_cons, List.zip_nil_left, List.map_cons, List.map_nil, List.flatten_cons, List.flatten_nil, List.append_nil, List.take_length, List.drop_left]
  | u :: w :: us, pre => by
    have ih := cuts_back (w :: us) (pre ++ u)
    rw [List.length_append] at ih
    unfold zipE at ih ⊢
    simp only [psum, List.drop_succ_cons, List.drop_zero, List.cons_append, List.zip_cons_cons, List.map_cons] at ih ⊢
    have e : pre ++ (u :: w :: us).flatten = pre ++ u ++ (w :: us).flatten := by simp
    rw [e]
    rw [ih]
    congr 1
    rw [List.take_append_of_le_length (by simp), List.take_of_length_le (by simp), List.drop_left]
theorem uts_cuts (l : List Int) : (zipE (hdp l) l.length).map (fun p => (l.take p.2).drop p.1) = uts l := by
  have := cuts_back (uts l) []
  simp only [List.length_nil, List.nil_append, uts_flat] at this
  rw [hdp_psum]
  exact this
theorem zipD_nat : ∀ (a b : List Nat), zipD (a.map nD) (b.map nD) = (a.zip b).map fun p => .tuple [nD p.1, nD p.2]
  | [], b => by simp [zipD]
  | x :: a, [] => by simp [zipD]
  | x :: a, y :: b => by simp [zipD, zipD_nat a b]
theorem rng_nat (n : Nat) : rng 0 n = (List.range n).map nD := by
  simp [rng, nD_def]
theorem lu_test {l : List Int} {i : Nat} (hi : i < l.length) (hl : l.length ≤ 1000) {a1 a2 a4 a5 a6 : Option Vl} : T1__law_units ⟨[some (.d (il l)), a1, a2, some (.d (nD i)), a4, a5, a6], []⟩ = .ok (hdq l i) ⟨[some (.d (il l)), a1, a2, some (.d (nD i)), a4, a5, a6], []⟩ := by
  have hI : I0__law_units ⟨[some (.d (il l)), a1, a2, some (.d (nD i)), a4, a5, a6], []⟩ = .ok ((l.take i).map .int) ⟨[some (.d (il l)), a1, a2, some (.d (nD i)), a4, a5, a6], []⟩ := by
    simp [x_bnd, x_ret, x_stuck, x_gets, x_fVar, x_fC, x_fOp, x_fNil, x_fCons, x_fCall, x_fDat, x_fCell, x_fLst, x_fTup, x_fTest, x_fTru, x_fAnd, x_fOr, x_fNot, x_fIf, x_asB, x_fAndV, x_fOrV, x_fNotV, x_fIsN, x_fNotN, x_frz, x_frzs0, x_frzs1, x_fFrz, x_fSeq, x_fNext, x_fExpr, x_fRet, x_fRetN, x_fAsg, x_kName, x_fPar, x_kNil, x_kCons, x_kTup, x_kSub, x_setIt, x_needL, x_upC, x_fApp, x_fPopAt, x_fPop, x_fSl, x_fNoP, x_fP, x_fDef, x_callD, x_fPerm, x_fIsi, x_fNeg, x_asL, x_asLt, x_asT, x_fItL, x_fItT, x_orI, x_fRng1, x_fRng2, x_fEnum, x_fZip, x_fFor, x_forL0, x_fAug, x_fYes, x_lcT, x_fRstT, x_fRstV, x_ite, oIx, cutC, kl, Ce.lone, x_fCellV, x_fAppV, x_needV, x_upV, oIxV, x_fDNew, x_fSetdL, x_needW, x_setdL, x_fSrtS, x_fToM, x_fItems, x_fGet2, x_fDSub, x_needD, oGet2, oDSub, dictOf, keyD, oSortG, oSortP, orF, oCatT, oStr, x_fCount, x_fIndex, x_fRev, x_fPar3, datL, dat, oAdd, orO, oI, oInt, oPowW, oIC, oMod, cPos, oDiv, cDiv, endF, oAddI, oSub, oLt, oLe, oGt, oGe, oMul, oMulG, oRepD, oRep, oI2, oMin2, oMax2, oMinL, oMaxL, oAll, oAny, oBools, oIn, oNotIn, oInD, oInSg, x_fChain, intsA, cellsOf, picks, renum, putB, Ce.alive, oSl, slOr, oSlD, oSlL, oLenG, orA, oLen, tru, permL, oSumL, oCatD, datO, oCat, oList, oRepr, oTuple, DL.isNon, oSlT, oSlS, oAddS, oEqG, oNeG, oEqS, oNeS, oEq, oNe, x_fRaise, x_fFrzL, x_frzL, x_fItemsI, x_fValsI, x_fKeysI, x_fDNewM, x_fDPut, x_putC, x_fL6, dsOf, oSortK, intKeys, x_fDSub, x_fTupC, x_fFrzN, oIxT, callT, endT, nD, cutJ]
  have ha := at_nat hi
  unfold hdq
  generalize l.getD i 0 = x at ha
  have hc := fLc_ok (k := K0__law_units) (t := T0__law_units) (e := E0__law_units) (vs := [6]) hI (by rw [List.length_map, List.length_take]; omega) (lcL_fl PyData.int (fun z => decide (x < z)) PyData.int fun z _ => by
    refine ⟨⟨[some (.d (il l)), a1, a2, some (.d (nD i)), a4, a5, some (.d (.int z))], []⟩, ?_, rfl⟩
    by_cases hz : x < z
    · simp [x_bnd, x_ret, x_stuck, x_gets, x_fVar, x_fC, x_fOp, x_fNil, x_fCons, x_fCall, x_fDat, x_fCell, x_fLst, x_fTup, x_fTest, x_fTru, x_fAnd, x_fOr, x_fNot, x_fIf, x_asB, x_fAndV, x_fOrV, x_fNotV, x_fIsN, x_fNotN, x_frz, x_frzs0, x_frzs1, x_fFrz, x_fSeq, x_fNext, x_fExpr, x_fRet, x_fRetN, x_fAsg, x_kName, x_fPar, x_kNil, x_kCons, x_kTup, x_kSub, x_setIt, x_needL, x_upC, x_fApp, x_fPopAt, x_fPop, x_fSl, x_fNoP, x_fP, x_fDef, x_callD, x_fPerm, x_fIsi, x_fNeg, x_asL, x_asLt, x_asT, x_fItL, x_fItT, x_orI, x_fRng1, x_fRng2, x_fEnum, x_fZip, x_fFor, x_forL0, x_fAug, x_fYes, x_lcT, x_fRstT, x_fRstV, x_ite, oIx, cutC, kl, Ce.lone, x_fCellV, x_fAppV, x_needV, x_upV, oIxV, x_fDNew, x_fSetdL, x_needW, x_setdL, x_fSrtS, x_fToM, x_fItems, x_fGet2, x_fDSub, x_needD, oGet2, oDSub, dictOf, keyD, oSortG, oSortP, orF, oCatT, oStr, x_fCount, x_fIndex, x_fRev, x_fPar3, datL, dat, oAdd, orO, oI, oInt, oPowW, oIC, oMod, cPos, oDiv, cDiv, endF, oAddI, oSub, oLt, oLe, oGt, oGe, oMul, oMulG, oRepD, oRep, oI2, oMin2, oMax2, oMinL, oMaxL, oAll, oAny, oBools, oIn, oNotIn, oInD, oInSg, x_fChain, intsA, cellsOf, picks, renum, putB, Ce.alive, oSl, slOr, oSlD, oSlL, oLenG, orA, oLen, tru, permL, oSumL, oCatD, datO, oCat, oList, oRepr, oTuple, DL.isNon, oSlT, oSlS, oAddS, oEqG, oNeG, oEqS, oNeS, oEq, oNe, x_fRaise, x_fFrzL, x_frzL, x_fItemsI, x_fValsI, x_fKeysI, x_fDNewM, x_fDPut, x_putC, x_fL6, dsOf, oSortK, intKeys, x_fDSub, x_fTupC, x_fFrzN, oIxT, callT, endT, x_lcT, wipeD, nD, ha, hz]
    · simp [x_bnd, x_ret, x_stuck, x_gets, x_fVar, x_fC, x_fOp, x_fNil, x_fCons, x_fCall, x_fDat, x_fCell, x_fLst, x_fTup, x_fTest, x_fTru, x_fAnd, x_fOr, x_fNot, x_fIf, x_asB, x_fAndV, x_fOrV, x_fNotV, x_fIsN, x_fNotN, x_frz, x_frzs0, x_frzs1, x_fFrz, x_fSeq, x_fNext, x_fExpr, x_fRet, x_fRetN, x_fAsg, x_kName, x_fPar, x_kNil, x_kCons, x_kTup, x_kSub, x_setIt, x_needL, x_upC, x_fApp, x_fPopAt, x_fPop, x_fSl, x_fNoP, x_fP, x_fDef, x_callD, x_fPerm, x_fIsi, x_fNeg, x_asL, x_asLt, x_asT, x_fItL, x_fItT, x_orI, x_fRng1, x_fRng2, x_fEnum, x_fZip, x_fFor, x_forL0, x_fAug, x_fYes, x_lcT, x_fRstT, x_fRstV, x_ite, oIx, cutC, kl, Ce.lone, x_fCellV, x_fAppV, x_needV, x_upV, oIxV, x_fDNew, x_fSetdL, x_needW, x_setdL, x_fSrtS, x_fToM, x_fItems, x_fGet2, x_fDSub, x_needD, oGet2, oDSub, dictOf, keyD, oSortG, oSortP, orF, oCatT, oStr, x_fCount, x_fIndex, x_fRev, x_fPar3, datL, dat, oAdd, orO, oI, oInt, oPowW, oIC, oMod, cPos, oDiv, cDiv, endF, oAddI, oSub, oLt, oLe, oGt, oGe, oMul, oMulG, oRepD, oRep, oI2, oMin2, oMax2, oMinL, oMaxL, oAll, oAny, oBools, oIn, oNotIn, oInD, oInSg, x_fChain, intsA, cellsOf, picks, renum, putB, Ce.alive, oSl, slOr, oSlD, oSlL, oLenG, orA, oLen, tru, permL, oSumL, oCatD, datO, oCat, oList, oRepr, oTuple, DL.isNon, oSlT, oSlS, oAddS, oEqG, oNeG, oEqS, oNeS, oEq, oNe, x_fRaise, x_fFrzL, x_frzL, x_fItemsI, x_fValsI, x_fKeysI, x_fDNewM, x_fDPut, x_putC, x_fL6, dsOf, oSortK, intKeys, x_fDSub, x_fTupC, x_fFrzN, oIxT, callT, endT, x_lcT, wipeD, nD, ha, hz])
  have e : (PyData.list (((l.take i).filter fun z => decide (x < z)).map .int)) = il ((l.take i).filter fun z => decide (x < z)) := rfl
  generalize (l.take i).filter (fun z => decide (x < z)) = F at hc e
  simp only [x_fTest, x_fOp, x_bnd, x_fDat, hc, x_fLst, x_fNil, x_ret, x_frzs0, x_gets, oEqG, orO, oEqS, oEq, dat, List.length_nil, Nat.zero_le, if_true]
  rw [e]
  simp [okE_il, okE_nil, eqv_il_nil, x_asB, x_ite, x_ret]
theorem law_units_ok {l : List Int} (hl : l.length ≤ 1000) : g__law_units [.d (il l)] [] = .ok (.d (.list ((uts l).map il))) [] := by
  have hI1 : I1__law_units ⟨[some (.d (il l)), none, none, none, none, none, none], []⟩ = .ok ((List.range l.length).map nD) ⟨[some (.d (il l)), none, none, none, none, none, none], []⟩ := by
    have hb : -1000000000 ≤ (l.length : Int) ∧ (l.length : Int) ≤ 1000000000 := by omega
    rw [← rng_nat]
    simp [x_bnd, x_ret, x_stuck, x_gets, x_fVar, x_fC, x_fOp, x_fNil, x_fCons, x_fCall, x_fDat, x_fCell, x_fLst, x_fTup, x_fTest, x_fTru, x_fAnd, x_fOr, x_fNot, x_fIf, x_asB, x_fAndV, x_fOrV, x_fNotV, x_fIsN, x_fNotN, x_frz, x_frzs0, x_frzs1, x_fFrz, x_fSeq, x_fNext, x_fExpr, x_fRet, x_fRetN, x_fAsg, x_kName, x_fPar, x_kNil, x_kCons, x_kTup, x_kSub, x_setIt, x_needL, x_upC, x_fApp, x_fPopAt, x_fPop, x_fSl, x_fNoP, x_fP, x_fDef, x_callD, x_fPerm, x_fIsi, x_fNeg, x_asL, x_asLt, x_asT, x_fItL, x_fItT, x_orI, x_fRng1, x_fRng2, x_fEnum, x_fZip, x_fFor, x_forL0, x_fAug, x_fYes, x_lcT, x_fRstT, x_fRstV, x_ite, oIx, cutC, kl, Ce.lone, x_fCellV, x_fAppV, x_needV, x_upV, oIxV, x_fDNew, x_fSetdL, x_needW, x_setdL, x_fSrtS, x_fToM, x_fItems, x_fGet2, x_fDSub, x_needD, oGet2, oDSub, dictOf, keyD, oSortG, oSortP, orF, oCatT, oStr, x_fCount, x_fIndex, x_fRev, x_fPar3, datL, dat, oAdd, orO, oI, oInt, oPowW, oIC, oMod, cPos, oDiv, cDiv, endF, oAddI, oSub, oLt, oLe, oGt, oGe, oMul, oMulG, oRepD, oRep, oI2, oMin2, oMax2, oMinL, oMaxL, oAll, oAny, oBools, oIn, oNotIn, oInD, oInSg, x_fChain, intsA, cellsOf, picks, renum, putB, Ce.alive, oSl, slOr, oSlD, oSlL, oLenG, orA, oLen, tru, permL, oSumL, oCatD, datO, oCat, oList, oRepr, oTuple, DL.isNon, oSlT, oSlS, oAddS, oEqG, oNeG, oEqS, oNeS, oEq, oNe, x_fRaise, x_fFrzL, x_frzL, x_fItemsI, x_fValsI, x_fKeysI, x_fDNewM, x_fDPut, x_putC, x_fL6, dsOf, oSortK, intKeys, x_fDSub, x_fTupC, x_fFrzN, oIxT, callT, endT, hb]
  have hc1 := fLc_ok (k := K1__law_units) (t := T1__law_units) (e := E1__law_units) (vs := [3]) hI1 (by rw [List.length_map, List.length_range]; omega) (lcL_fl nD (hdq l) nD fun i hi => by
    have ht := lu_test (List.mem_range.mp hi) hl (a1 := none) (a2 := none) (a4 := none) (a5 := none) (a6 := none)
    refine ⟨⟨[some (.d (il l)), none, none, some (.d (nD i)), none, none, none], []⟩, ?_, rfl⟩
    cases hq : hdq l i with
    | true => rw [hq] at ht; simp [-nD_def, x_lcT, x_bnd, x_kName, wipeD, ht, x_fFrz, x_fVar, x_ret, x_frz, cutC]
    | false => rw [hq] at ht; simp only [x_lcT, x_bnd, x_kName, wipeD, List.set_cons_succ, List.set_cons_zero, ht, x_ret, if_false, Bool.false_eq_true])
  have hc1' : (fLc I1__law_units K1__law_units T1__law_units E1__law_units [3]) ⟨[some (.d (il l)), none, none, none, none, none, none], []⟩ = .ok ((hdp l).map nD) ⟨[some (.d (il l)), none, none, none, none, none, none], []⟩ := hc1
  have hhl : (hdp l).length ≤ 1000 := by
    rw [hdp_psum, psum_len]
    exact Nat.le_trans (uts_len l) hl
  have hI2 : I2__law_units ⟨[some (.d (il l)), some (.d (nl (hdp l))), some (.d (nl ((hdp l).drop 1 ++ [l.length]))), none, none, none, none], []⟩ = .ok ((zipE (hdp l) l.length).map fun p => .tuple [nD p.1, nD p.2]) ⟨[some (.d (il l)), some (.d (nl (hdp l))), some (.d (nl ((hdp l).drop 1 ++ [l.length]))), none, none, none, none], []⟩ := by
    unfold zipE
    rw [← zipD_nat]
    simp only [x_fZip, x_fCons, x_bnd, x_fVar, List.getElem?_cons_zero, List.getElem?_cons_succ, x_fNil, x_ret, x_frz, x_asL]
  have hc2 := fLc_ok (k := K2__law_units) (t := T2__law_units) (e := E2__law_units) (vs := [4, 5]) hI2 (by rw [List.length_map]; unfold zipE; rw [List.length_zip]; omega) (lcL_mp (fun p : Nat × Nat => .tuple [nD p.1, nD p.2]) (fun p => il ((l.take p.2).drop p.1)) fun p _ => by
    refine ⟨⟨[some (.d (il l)), some (.d (nl (hdp l))), some (.d (nl ((hdp l).drop 1 ++ [l.length]))), none, some (.d (nD p.1)), some (.d (nD p.2)), none], []⟩, ?_, rfl⟩
    simp [x_bnd, x_ret, x_stuck, x_gets, x_fVar, x_fC, x_fOp, x_fNil, x_fCons, x_fCall, x_fDat, x_fCell, x_fLst, x_fTup, x_fTest, x_fTru, x_fAnd, x_fOr, x_fNot, x_fIf, x_asB, x_fAndV, x_fOrV, x_fNotV, x_fIsN, x_fNotN, x_frz, x_frzs0, x_frzs1, x_fFrz, x_fSeq, x_fNext, x_fExpr, x_fRet, x_fRetN, x_fAsg, x_kName, x_fPar, x_kNil, x_kCons, x_kTup, x_kSub, x_setIt, x_needL, x_upC, x_fApp, x_fPopAt, x_fPop, x_fSl, x_fNoP, x_fP, x_fDef, x_callD, x_fPerm, x_fIsi, x_fNeg, x_asL, x_asLt, x_asT, x_fItL, x_fItT, x_orI, x_fRng1, x_fRng2, x_fEnum, x_fZip, x_fFor, x_forL0, x_fAug, x_fYes, x_lcT, x_fRstT, x_fRstV, x_ite, oIx, cutC, kl, Ce.lone, x_fCellV, x_fAppV, x_needV, x_upV, oIxV, x_fDNew, x_fSetdL, x_needW, x_setdL, x_fSrtS, x_fToM, x_fItems, x_fGet2, x_fDSub, x_needD, oGet2, oDSub, dictOf, keyD, oSortG, oSortP, orF, oCatT, oStr, x_fCount, x_fIndex, x_fRev, x_fPar3, datL, dat, oAdd, orO, oI, oInt, oPowW, oIC, oMod, cPos, oDiv, cDiv, endF, oAddI, oSub, oLt, oLe, oGt, oGe, oMul, oMulG, oRepD, oRep, oI2, oMin2, oMax2, oMinL, oMaxL, oAll, oAny, oBools, oIn, oNotIn, oInD, oInSg, x_fChain, intsA, cellsOf, picks, renum, putB, Ce.alive, oSl, slOr, oSlD, oSlL, oLenG, orA, oLen, tru, permL, oSumL, oCatD, datO, oCat, oList, oRepr, oTuple, DL.isNon, oSlT, oSlS, oAddS, oEqG, oNeG, oEqS, oNeS, oEq, oNe, x_fRaise, x_fFrzL, x_frzL, x_fItemsI, x_fValsI, x_fKeysI, x_fDNewM, x_fDPut, x_putC, x_fL6, dsOf, oSortK, intKeys, x_fDSub, x_fTupC, x_fFrzN, oIxT, callT, endT, x_lcT, wipeD, nD, cutM])
  have e2 : ((zipE (hdp l) l.length).map fun p => il ((l.take p.2).drop p.1)) = (uts l).map il := by
    conv => rhs; rw [← uts_cuts l]
    rw [List.map_map]
    rfl
  rw [e2] at hc2
  have hcat : (fOp oAdd (fSl oSl (fVar 1) (fP (fC (.int 1))) fNoP) (fDat (fLst (fCons (fCall oLenG (fCons (fVar 0) fNil)) fNil)))) ⟨[some (.d (il l)), some (.d (nl (hdp l))), none, none, none, none, none], []⟩ = .ok (.d (nl ((hdp l).drop 1 ++ [l.length]))) ⟨[some (.d (il l)), some (.d (nl (hdp l))), none, none, none, none, none], []⟩ := by
    have hlen : (hdp l).length - 1 + 1 ≤ 1000000 := by omega
    generalize hdp l = H at hlen
    simp [x_bnd, x_ret, x_stuck, x_gets, x_fVar, x_fC, x_fOp, x_fNil, x_fCons, x_fCall, x_fDat, x_fCell, x_fLst, x_fTup, x_fTest, x_fTru, x_fAnd, x_fOr, x_fNot, x_fIf, x_asB, x_fAndV, x_fOrV, x_fNotV, x_fIsN, x_fNotN, x_frz, x_frzs0, x_frzs1, x_fFrz, x_fSeq, x_fNext, x_fExpr, x_fRet, x_fRetN, x_fAsg, x_kName, x_fPar, x_kNil, x_kCons, x_kTup, x_kSub, x_setIt, x_needL, x_upC, x_fApp, x_fPopAt, x_fPop, x_fSl, x_fNoP, x_fP, x_fDef, x_callD, x_fPerm, x_fIsi, x_fNeg, x_asL, x_asLt, x_asT, x_fItL, x_fItT, x_orI, x_fRng1, x_fRng2, x_fEnum, x_fZip, x_fFor, x_forL0, x_fAug, x_fYes, x_lcT, x_fRstT, x_fRstV, x_ite, oIx, cutC, kl, Ce.lone, x_fCellV, x_fAppV, x_needV, x_upV, oIxV, x_fDNew, x_fSetdL, x_needW, x_setdL, x_fSrtS, x_fToM, x_fItems, x_fGet2, x_fDSub, x_needD, oGet2, oDSub, dictOf, keyD, oSortG, oSortP, orF, oCatT, oStr, x_fCount, x_fIndex, x_fRev, x_fPar3, datL, dat, oAdd, orO, oI, oInt, oPowW, oIC, oMod, cPos, oDiv, cDiv, endF, oAddI, oSub, oLt, oLe, oGt, oGe, oMul, oMulG, oRepD, oRep, oI2, oMin2, oMax2, oMinL, oMaxL, oAll, oAny, oBools, oIn, oNotIn, oInD, oInSg, x_fChain, intsA, cellsOf, picks, renum, putB, Ce.alive, oSl, slOr, oSlD, oSlL, oLenG, orA, oLen, tru, permL, oSumL, oCatD, datO, oCat, oList, oRepr, oTuple, DL.isNon, oSlT, oSlS, oAddS, oEqG, oNeG, oEqS, oNeS, oEq, oNe, x_fRaise, x_fFrzL, x_frzL, x_fItemsI, x_fValsI, x_fKeysI, x_fDNewM, x_fDPut, x_putC, x_fL6, dsOf, oSortK, intKeys, x_fDSub, x_fTupC, x_fFrzN, oIxT, callT, endT, cut1b, nD, hlen]
  refine rt_body (v := .d (.list ((uts l).map il))) rfl ?_
  simp only [List.map_cons, List.map_nil, List.cons_append, List.nil_append, List.replicate]
  refine rt_seq (s' := ⟨[some (.d (il l)), some (.d (nl (hdp l))), none, none, none, none, none], []⟩) (by simp only [x_fAsg, x_bnd, x_fDat, hc1', x_ret, x_kName, List.set_cons_succ, List.set_cons_zero]) ?_
  refine rt_seq (s' := ⟨[some (.d (il l)), some (.d (nl (hdp l))), some (.d (nl ((hdp l).drop 1 ++ [l.length]))), none, none, none, none], []⟩) (by simp only [x_fAsg, x_bnd, hcat, x_ret, x_kName, List.set_cons_succ, List.set_cons_zero]) ?_
  simp only [x_fRet, x_fDat, x_bnd, hc2, x_ret]
  simp [Rt, endF, cutC]

/-! the law's own words, heads, lists of words -/
theorem law_word_ok {l : List Int} {h : Int} (hl : l.length ≤ 1000) : g__law_word [.d (il l), .d (.int h)] [] = .ok (.d (.list ((Wf l h).map il))) [] := by
  have hu := law_units_ok hl
  have hI : I0__law_word ⟨[some (.d (il l)), some (.d (.int h)), none], []⟩ = .ok ((uts l).map il) ⟨[some (.d (il l)), some (.d (.int h)), none], []⟩ := by
    generalize (uts l).map il = U at hu
    simp [x_bnd, x_ret, x_stuck, x_gets, x_fVar, x_fC, x_fOp, x_fNil, x_fCons, x_fCall, x_fDat, x_fCell, x_fLst, x_fTup, x_fTest, x_fTru, x_fAnd, x_fOr, x_fNot, x_fIf, x_asB, x_fAndV, x_fOrV, x_fNotV, x_fIsN, x_fNotN, x_frz, x_frzs0, x_frzs1, x_fFrz, x_fSeq, x_fNext, x_fExpr, x_fRet, x_fRetN, x_fAsg, x_kName, x_fPar, x_kNil, x_kCons, x_kTup, x_kSub, x_setIt, x_needL, x_upC, x_fApp, x_fPopAt, x_fPop, x_fSl, x_fNoP, x_fP, x_fDef, x_callD, x_fPerm, x_fIsi, x_fNeg, x_asL, x_asLt, x_asT, x_fItL, x_fItT, x_orI, x_fRng1, x_fRng2, x_fEnum, x_fZip, x_fFor, x_forL0, x_fAug, x_fYes, x_lcT, x_fRstT, x_fRstV, x_ite, oIx, cutC, kl, Ce.lone, x_fCellV, x_fAppV, x_needV, x_upV, oIxV, x_fDNew, x_fSetdL, x_needW, x_setdL, x_fSrtS, x_fToM, x_fItems, x_fGet2, x_fDSub, x_needD, oGet2, oDSub, dictOf, keyD, oSortG, oSortP, orF, oCatT, oStr, x_fCount, x_fIndex, x_fRev, x_fPar3, datL, dat, oAdd, orO, oI, oInt, oPowW, oIC, oMod, cPos, oDiv, cDiv, endF, oAddI, oSub, oLt, oLe, oGt, oGe, oMul, oMulG, oRepD, oRep, oI2, oMin2, oMax2, oMinL, oMaxL, oAll, oAny, oBools, oIn, oNotIn, oInD, oInSg, x_fChain, intsA, cellsOf, picks, renum, putB, Ce.alive, oSl, slOr, oSlD, oSlL, oLenG, orA, oLen, tru, permL, oSumL, oCatD, datO, oCat, oList, oRepr, oTuple, DL.isNon, oSlT, oSlS, oAddS, oEqG, oNeG, oEqS, oNeS, oEq, oNe, x_fRaise, x_fFrzL, x_frzL, x_fItemsI, x_fValsI, x_fKeysI, x_fDNewM, x_fDPut, x_putC, x_fL6, dsOf, oSortK, intKeys, x_fDSub, x_fTupC, x_fFrzN, oIxT, callT, endT, hu]
  have hc := fLc_ok (k := K0__law_word) (t := T0__law_word) (e := E0__law_word) (vs := [2]) hI (by rw [List.length_map]; exact Nat.le_trans (uts_len l) (by omega)) (lcL_fl il (fun u => decide (u.head? = some h)) il fun u hu => by
    obtain ⟨x, xs, rfl, _⟩ := uts_cons hu
    refine ⟨⟨[some (.d (il l)), some (.d (.int h)), some (.d (il (x :: xs)))], []⟩, ?_, rfl⟩
    by_cases e : x = h <;> simp [x_bnd, x_ret, x_stuck, x_gets, x_fVar, x_fC, x_fOp, x_fNil, x_fCons, x_fCall, x_fDat, x_fCell, x_fLst, x_fTup, x_fTest, x_fTru, x_fAnd, x_fOr, x_fNot, x_fIf, x_asB, x_fAndV, x_fOrV, x_fNotV, x_fIsN, x_fNotN, x_frz, x_frzs0, x_frzs1, x_fFrz, x_fSeq, x_fNext, x_fExpr, x_fRet, x_fRetN, x_fAsg, x_kName, x_fPar, x_kNil, x_kCons, x_kTup, x_kSub, x_setIt, x_needL, x_upC, x_fApp, x_fPopAt, x_fPop, x_fSl, x_fNoP, x_fP, x_fDef, x_callD, x_fPerm, x_fIsi, x_fNeg, x_asL, x_asLt, x_asT, x_fItL, x_fItT, x_orI, x_fRng1, x_fRng2, x_fEnum, x_fZip, x_fFor, x_forL0, x_fAug, x_fYes, x_lcT, x_fRstT, x_fRstV, x_ite, oIx, cutC, kl, Ce.lone, x_fCellV, x_fAppV, x_needV, x_upV, oIxV, x_fDNew, x_fSetdL, x_needW, x_setdL, x_fSrtS, x_fToM, x_fItems, x_fGet2, x_fDSub, x_needD, oGet2, oDSub, dictOf, keyD, oSortG, oSortP, orF, oCatT, oStr, x_fCount, x_fIndex, x_fRev, x_fPar3, datL, dat, atI, ixN, oAdd, orO, oI, oInt, oPowW, oIC, oMod, cPos, oDiv, cDiv, endF, oAddI, oSub, oLt, oLe, oGt, oGe, oMul, oMulG, oRepD, oRep, oI2, oMin2, oMax2, oMinL, oMaxL, oAll, oAny, oBools, oIn, oNotIn, oInD, oInSg, x_fChain, intsA, cellsOf, picks, renum, putB, Ce.alive, oSl, slOr, oSlD, oSlL, oLenG, orA, oLen, tru, permL, oSumL, oCatD, datO, oCat, oList, oRepr, oTuple, DL.isNon, oSlT, oSlS, oAddS, oEqG, oNeG, oEqS, oNeS, oEq, oNe, x_fRaise, x_fFrzL, x_frzL, x_fItemsI, x_fValsI, x_fKeysI, x_fDNewM, x_fDPut, x_putC, x_fL6, dsOf, oSortK, intKeys, x_fDSub, x_fTupC, x_fFrzN, oIxT, callT, endT, x_lcT, wipeD, okE_int, eqv_ii, e])
  have hc' : (fLc I0__law_word K0__law_word T0__law_word E0__law_word [2]) ⟨[some (.d (il l)), some (.d (.int h)), none], []⟩ = .ok ((Wf l h).map il) ⟨[some (.d (il l)), some (.d (.int h)), none], []⟩ := hc
  generalize (Wf l h).map il = Z at hc'
  simp [g__law_word, mkF, body__law_word, x_fRet, x_bnd, x_fDat, hc', x_ret, endF, cutC]
def hdl (l : List Int) : List Int := srtS ((uts l).map fun u => u.headD 0)
theorem law_heads_ok {l : List Int} (hl : l.length ≤ 63) : g__law_heads [.d (il l)] [] = .ok (.d (il (hdl l))) [] := by
  have hu := law_units_ok (l := l) (by omega)
  have hn := uts_len l
  have hI : I0__law_heads ⟨[some (.d (il l)), none], []⟩ = .ok ((uts l).map il) ⟨[some (.d (il l)), none], []⟩ := by
    generalize (uts l).map il = U at hu
    simp [x_bnd, x_ret, x_stuck, x_gets, x_fVar, x_fC, x_fOp, x_fNil, x_fCons, x_fCall, x_fDat, x_fCell, x_fLst, x_fTup, x_fTest, x_fTru, x_fAnd, x_fOr, x_fNot, x_fIf, x_asB, x_fAndV, x_fOrV, x_fNotV, x_fIsN, x_fNotN, x_frz, x_frzs0, x_frzs1, x_fFrz, x_fSeq, x_fNext, x_fExpr, x_fRet, x_fRetN, x_fAsg, x_kName, x_fPar, x_kNil, x_kCons, x_kTup, x_kSub, x_setIt, x_needL, x_upC, x_fApp, x_fPopAt, x_fPop, x_fSl, x_fNoP, x_fP, x_fDef, x_callD, x_fPerm, x_fIsi, x_fNeg, x_asL, x_asLt, x_asT, x_fItL, x_fItT, x_orI, x_fRng1, x_fRng2, x_fEnum, x_fZip, x_fFor, x_forL0, x_fAug, x_fYes, x_lcT, x_fRstT, x_fRstV, x_ite, oIx, cutC, kl, Ce.lone, x_fCellV, x_fAppV, x_needV, x_upV, oIxV, x_fDNew, x_fSetdL, x_needW, x_setdL, x_fSrtS, x_fToM, x_fItems, x_fGet2, x_fDSub, x_needD, oGet2, oDSub, dictOf, keyD, oSortG, oSortP, orF, oCatT, oStr, x_fCount, x_fIndex, x_fRev, x_fPar3, datL, dat, oAdd, orO, oI, oInt, oPowW, oIC, oMod, cPos, oDiv, cDiv, endF, oAddI, oSub, oLt, oLe, oGt, oGe, oMul, oMulG, oRepD, oRep, oI2, oMin2, oMax2, oMinL, oMaxL, oAll, oAny, oBools, oIn, oNotIn, oInD, oInSg, x_fChain, intsA, cellsOf, picks, renum, putB, Ce.alive, oSl, slOr, oSlD, oSlL, oLenG, orA, oLen, tru, permL, oSumL, oCatD, datO, oCat, oList, oRepr, oTuple, DL.isNon, oSlT, oSlS, oAddS, oEqG, oNeG, oEqS, oNeS, oEq, oNe, x_fRaise, x_fFrzL, x_frzL, x_fItemsI, x_fValsI, x_fKeysI, x_fDNewM, x_fDPut, x_putC, x_fL6, dsOf, oSortK, intKeys, x_fDSub, x_fTupC, x_fFrzN, oIxT, callT, endT, hu]
  have hc := fLc_ok (k := K0__law_heads) (t := T0__law_heads) (e := E0__law_heads) (vs := [1]) hI (by rw [List.length_map]; omega) (lcL_mp il (fun u => PyData.int (u.headD 0)) fun u hu => by
    obtain ⟨x, xs, rfl, _⟩ := uts_cons hu
    refine ⟨⟨[some (.d (il l)), some (.d (il (x :: xs)))], []⟩, ?_, rfl⟩
    simp [x_bnd, x_ret, x_stuck, x_gets, x_fVar, x_fC, x_fOp, x_fNil, x_fCons, x_fCall, x_fDat, x_fCell, x_fLst, x_fTup, x_fTest, x_fTru, x_fAnd, x_fOr, x_fNot, x_fIf, x_asB, x_fAndV, x_fOrV, x_fNotV, x_fIsN, x_fNotN, x_frz, x_frzs0, x_frzs1, x_fFrz, x_fSeq, x_fNext, x_fExpr, x_fRet, x_fRetN, x_fAsg, x_kName, x_fPar, x_kNil, x_kCons, x_kTup, x_kSub, x_setIt, x_needL, x_upC, x_fApp, x_fPopAt, x_fPop, x_fSl, x_fNoP, x_fP, x_fDef, x_callD, x_fPerm, x_fIsi, x_fNeg, x_asL, x_asLt, x_asT, x_fItL, x_fItT, x_orI, x_fRng1, x_fRng2, x_fEnum, x_fZip, x_fFor, x_forL0, x_fAug, x_fYes, x_lcT, x_fRstT, x_fRstV, x_ite, oIx, cutC, kl, Ce.lone, x_fCellV, x_fAppV, x_needV, x_upV, oIxV, x_fDNew, x_fSetdL, x_needW, x_setdL, x_fSrtS, x_fToM, x_fItems, x_fGet2, x_fDSub, x_needD, oGet2, oDSub, dictOf, keyD, oSortG, oSortP, orF, oCatT, oStr, x_fCount, x_fIndex, x_fRev, x_fPar3, datL, dat, atI, ixN, oAdd, orO, oI, oInt, oPowW, oIC, oMod, cPos, oDiv, cDiv, endF, oAddI, oSub, oLt, oLe, oGt, oGe, oMul, oMulG, oRepD, oRep, oI2, oMin2, oMax2, oMinL, oMaxL, oAll, oAny, oBools, oIn, oNotIn, oInD, oInSg, x_fChain, intsA, cellsOf, picks, renum, putB, Ce.alive, oSl, slOr, oSlD, oSlL, oLenG, orA, oLen, tru, permL, oSumL, oCatD, datO, oCat, oList, oRepr, oTuple, DL.isNon, oSlT, oSlS, oAddS, oEqG, oNeG, oEqS, oNeS, oEq, oNe, x_fRaise, x_fFrzL, x_frzL, x_fItemsI, x_fValsI, x_fKeysI, x_fDNewM, x_fDPut, x_putC, x_fL6, dsOf, oSortK, intKeys, x_fDSub, x_fTupC, x_fFrzN, oIxT, callT, endT, x_lcT, wipeD])
  have e : ((uts l).map fun u => PyData.int (u.headD 0)) = ((uts l).map fun u => u.headD 0).map .int := by rw [List.map_map]; rfl
  rw [e] at hc
  have hc' : (fLc I0__law_heads K0__law_heads T0__law_heads E0__law_heads [1]) ⟨[some (.d (il l)), none], []⟩ = .ok (((uts l).map fun u => u.headD 0).map .int) ⟨[some (.d (il l)), none], []⟩ := hc
  have hln : ((uts l).map fun u => u.headD 0).length ≤ 63 := by rw [List.length_map]; omega
  unfold hdl
  generalize (uts l).map (fun u => u.headD 0) = Z at hc' hln
  simp [g__law_heads, mkF, body__law_heads, x_fRet, x_bnd, x_fDat, x_fSrtS, hc', x_ret, x_gets, intsA, datL, dat, intsOf_map, hln, endF, cutC]
theorem law_of_words_ok {g : Gp} (hn : g.length < 64) (hl : (flw g).length ≤ 1000000) : g__law_of_words [.d (dM g)] [] = .ok (.d (il (flw g))) [] := by
  have hs := fun s => sortK_dM (g := g) hn s
  have hkl : (srt (g.map (·.1))).length < 64 := by rw [(srt_perm _).length_eq, List.length_map]; exact hn
  have hI : I0__law_of_words ⟨[some (.d (dM g)), none], []⟩ = .ok ((srt (g.map (·.1))).map .int) ⟨[some (.d (dM g)), none], []⟩ := by
    generalize (srt (g.map (·.1))).map PyData.int = Z at hs
    simp only [x_orI, x_fItL, x_bnd, x_fDat, x_fCall, x_fCons, x_fNil, x_fVar, List.getElem?_cons_zero, x_ret, x_gets, hs, x_frz, x_asL]
  have hc := fLc_ok (k := K0__law_of_words) (t := T0__law_of_words) (e := E0__law_of_words) (vs := [1]) hI (by rw [List.length_map]; omega) (lcL_mp PyData.int (fun k => il (lk g k).flatten) fun k hk => by
    have hk' := (srt_perm _).mem_iff.mp hk
    have h1 := sub_dM hk'
    have h2 := fun s => sum_il (lk g k) (Nat.le_trans (lk_part hk') hl) s
    refine ⟨⟨[some (.d (dM g)), some (.d (.int k))], []⟩, ?_, rfl⟩
    have h3 : (fDSub (fVar 0) (fVar 1)) ⟨[some (.d (dM g)), some (.d (.int k))], []⟩ = .ok (.d (.list ((lk g k).map il))) ⟨[some (.d (dM g)), some (.d (.int k))], []⟩ := by simp [x_bnd, x_ret, x_stuck, x_gets, x_fVar, x_fC, x_fOp, x_fNil, x_fCons, x_fCall, x_fDat, x_fCell, x_fLst, x_fTup, x_fTest, x_fTru, x_fAnd, x_fOr, x_fNot, x_fIf, x_asB, x_fAndV, x_fOrV, x_fNotV, x_fIsN, x_fNotN, x_frz, x_frzs0, x_frzs1, x_fFrz, x_fSeq, x_fNext, x_fExpr, x_fRet, x_fRetN, x_fAsg, x_kName, x_fPar, x_kNil, x_kCons, x_kTup, x_kSub, x_setIt, x_needL, x_upC, x_fApp, x_fPopAt, x_fPop, x_fSl, x_fNoP, x_fP, x_fDef, x_callD, x_fPerm, x_fIsi, x_fNeg, x_asL, x_asLt, x_asT, x_fItL, x_fItT, x_orI, x_fRng1, x_fRng2, x_fEnum, x_fZip, x_fFor, x_forL0, x_fAug, x_fYes, x_lcT, x_fRstT, x_fRstV, x_ite, oIx, cutC, kl, Ce.lone, x_fCellV, x_fAppV, x_needV, x_upV, oIxV, x_fDNew, x_fSetdL, x_needW, x_setdL, x_fSrtS, x_fToM, x_fItems, x_fGet2, x_fDSub, x_needD, oGet2, oDSub, dictOf, keyD, oSortG, oSortP, orF, oCatT, oStr, x_fCount, x_fIndex, x_fRev, x_fPar3, datL, dat, oAdd, orO, oI, oInt, oPowW, oIC, oMod, cPos, oDiv, cDiv, endF, oAddI, oSub, oLt, oLe, oGt, oGe, oMul, oMulG, oRepD, oRep, oI2, oMin2, oMax2, oMinL, oMaxL, oAll, oAny, oBools, oIn, oNotIn, oInD, oInSg, x_fChain, intsA, cellsOf, picks, renum, putB, Ce.alive, oSl, slOr, oSlD, oSlL, oLenG, orA, oLen, tru, permL, oSumL, oCatD, datO, oCat, oList, oRepr, oTuple, DL.isNon, oSlT, oSlS, oAddS, oEqG, oNeG, oEqS, oNeS, oEq, oNe, x_fRaise, x_fFrzL, x_frzL, x_fItemsI, x_fValsI, x_fKeysI, x_fDNewM, x_fDPut, x_putC, x_fL6, dsOf, oSortK, intKeys, x_fDSub, x_fTupC, x_fFrzN, oIxT, callT, endT, h1]
    generalize dM g = A at h3
    simp only [x_lcT, x_bnd, x_kName, wipeD, List.set_cons_succ, List.set_cons_zero, x_fYes, if_true, x_fFrz, x_fCall, x_fCons, h3, x_fDat, x_fLst, x_fNil, x_ret, x_frzs0, List.length_nil, Nat.zero_le, x_gets, h2, x_frz, cutC, List.take_nil, List.map_nil])
  have hsum := fun s => sum_il ((srt (g.map (·.1))).map fun k => (lk g k).flatten) (by
    have : ((srt (g.map (·.1))).map fun k => (lk g k).flatten).flatten = flw g := by
      unfold flw
      rw [List.flatten_flatten, List.map_map]
      rfl
    rw [this]
    exact hl) s
  have e1 : ((srt (g.map (·.1))).map fun k => (lk g k).flatten).flatten = flw g := by
    unfold flw
    rw [List.flatten_flatten, List.map_map]
    rfl
  rw [e1] at hsum
  rw [List.map_map] at hsum
  have hc' : (fLc I0__law_of_words K0__law_of_words T0__law_of_words E0__law_of_words [1]) ⟨[some (.d (dM g)), none], []⟩ = .ok ((srt (g.map (·.1))).map fun k => il (lk g k).flatten) ⟨[some (.d (dM g)), none], []⟩ := hc
  have e2 : ((srt (g.map (·.1))).map fun k => il (lk g k).flatten) = (srt (g.map (·.1))).map (il ∘ fun k => (lk g k).flatten) := rfl
  rw [e2] at hc'
  generalize (srt (g.map (·.1))).map (il ∘ fun k => (lk g k).flatten) = Z at hc' hsum
  simp only [g__law_of_words, mkF, body__law_of_words, List.length_cons, List.length_nil, if_true, List.map_cons, List.map_nil, List.cons_append, List.nil_append, List.replicate, x_fRet, x_bnd, x_fCall, x_fCons, x_fDat, hc', x_fLst, x_fNil, x_ret, x_frzs0, Nat.zero_le, x_gets, hsum, endF, cutC, List.take_nil]

/-! the law's own division: one leader -/
theorem okE_ll (us : List (List Int)) : okE (.list (us.map il)) = true := by
  have hk : ∀ u : List Int, noD (il u) = true ∧ (il u).canLay0 = true ∧ (il u).depth ≤ 1 := fun u => by
    refine ⟨noDs_of fun x hx => ?_, lay_of fun x hx => ?_, ?_⟩
    · obtain ⟨i, _, rfl⟩ := List.mem_map.mp hx; rfl
    · obtain ⟨i, _, rfl⟩ := List.mem_map.mp hx; rfl
    · simp only [PyData.depth]
      have := dep_of (k := 0) (xs := u.map PyData.int) fun x hx => by obtain ⟨i, _, rfl⟩ := List.mem_map.mp hx; exact Nat.le_refl _
      omega
  simp only [okE, SeqAt.shaped, Bool.and_eq_true, decide_eq_true_eq]
  refine ⟨noDs_of fun x hx => ?_, lay_of fun x hx => ?_, ?_⟩
  · obtain ⟨u, _, rfl⟩ := List.mem_map.mp hx; exact (hk u).1
  · obtain ⟨u, _, rfl⟩ := List.mem_map.mp hx; exact (hk u).2.1
  · simp only [PyData.depth]
    have := dep_of (k := 1) (xs := us.map il) fun x hx => by obtain ⟨u, _, rfl⟩ := List.mem_map.mp hx; exact (hk u).2.2
    omega
theorem eqv_11 (x u : List Int) : PyData.eqv (.list [il x]) (.list [il u]) = decide (x = u) := by
  have e := eqv_il x u
  generalize il x = X at e
  generalize il u = U at e
  simp [PyData.eqv, PyData.eqvAll, e]
theorem eqv_01 (u : List Int) : PyData.eqv (.list []) (.list [il u]) = false := by simp [PyData.eqv, PyData.eqvAll]
theorem cutM1 (xs : List D) (i : Nat) : DL.cutD xs (some (i : Int)) (some ((i : Int) + 1)) = (xs.take (i + 1)).drop i := cutM xs i (i + 1)
theorem sl_one {α : Type} : ∀ (xs : List α) (i : Nat), (xs.take (i + 1)).drop i = xs[i]?.toList
  | [], i => by simp
  | x :: xs, 0 => by simp
  | x :: xs, i + 1 => by simpa using sl_one xs i
theorem du_turn {w : List (List Int)} {P : D} {A F : Option Vl} {h : Int} {i : Nat} {u : List Int} {kvs : List (Key × D)} {a6 a7 : Option Vl} : bnd (K0__law_due (.d (.tuple [.int i, il u]))) (fun _ => B0__law_due) ⟨[A, F, some (.c 0), some (.d (.int h)), some (.d (.list (w.map il))), some (.d P), a6, a7], [.m kvs]⟩ = if w[i]? = some u then .ok .nx ⟨[A, F, some (.c 0), some (.d (.int h)), some (.d (.list (w.map il))), some (.d P), some (.d (.int i)), some (.d (il u))], [.m kvs]⟩ else .ok (.rt (.d (.tuple [.str "leader", .int h, .int i]))) ⟨[A, F, some (.c 0), some (.d (.int h)), some (.d (.list (w.map il))), some (.d P), some (.d (.int i)), some (.d (il u))], [.m kvs]⟩ := by
  have hs : (fSl oSl (fVar 4) (fP (fVar 6)) (fP (fOp oAdd (fVar 6) (fC (.int 1))))) ⟨[A, F, some (.c 0), some (.d (.int h)), some (.d (.list (w.map il))), some (.d P), some (.d (.int i)), some (.d (il u))], [.m kvs]⟩ = .ok (.d (.list (w[i]?.toList.map il))) ⟨[A, F, some (.c 0), some (.d (.int h)), some (.d (.list (w.map il))), some (.d P), some (.d (.int i)), some (.d (il u))], [.m kvs]⟩ := by
    have e : DL.cutD (w.map il) (some (i : Int)) (some ((i : Int) + 1)) = w[i]?.toList.map il := by
      rw [cutM1, ← sl_one, List.map_drop, List.map_take]
    simp [x_bnd, x_ret, x_stuck, x_gets, x_fVar, x_fC, x_fOp, x_fNil, x_fCons, x_fCall, x_fDat, x_fCell, x_fLst, x_fTup, x_fTest, x_fTru, x_fAnd, x_fOr, x_fNot, x_fIf, x_asB, x_fAndV, x_fOrV, x_fNotV, x_fIsN, x_fNotN, x_frz, x_frzs0, x_frzs1, x_fFrz, x_fSeq, x_fNext, x_fExpr, x_fRet, x_fRetN, x_fAsg, x_kName, x_fPar, x_kNil, x_kCons, x_kTup, x_kSub, x_setIt, x_needL, x_upC, x_fApp, x_fPopAt, x_fPop, x_fSl, x_fNoP, x_fP, x_fDef, x_callD, x_fPerm, x_fIsi, x_fNeg, x_asL, x_asLt, x_asT, x_fItL, x_fItT, x_orI, x_fRng1, x_fRng2, x_fEnum, x_fZip, x_fFor, x_forL0, x_fAug, x_fYes, x_lcT, x_fRstT, x_fRstV, x_ite, oIx, cutC, kl, Ce.lone, x_fCellV, x_fAppV, x_needV, x_upV, oIxV, x_fDNew, x_fSetdL, x_needW, x_setdL, x_fSrtS, x_fToM, x_fItems, x_fGet2, x_fDSub, x_needD, oGet2, oDSub, dictOf, keyD, oSortG, oSortP, orF, oCatT, oStr, x_fCount, x_fIndex, x_fRev, x_fPar3, datL, dat, oAdd, orO, oI, oInt, oPowW, oIC, oMod, cPos, oDiv, cDiv, endF, oAddI, oSub, oLt, oLe, oGt, oGe, oMul, oMulG, oRepD, oRep, oI2, oMin2, oMax2, oMinL, oMaxL, oAll, oAny, oBools, oIn, oNotIn, oInD, oInSg, x_fChain, intsA, cellsOf, picks, renum, putB, Ce.alive, oSl, slOr, oSlD, oSlL, oLenG, orA, oLen, tru, permL, oSumL, oCatD, datO, oCat, oList, oRepr, oTuple, DL.isNon, oSlT, oSlS, oAddS, oEqG, oNeG, oEqS, oNeS, oEq, oNe, x_fRaise, x_fFrzL, x_frzL, x_fItemsI, x_fValsI, x_fKeysI, x_fDNewM, x_fDPut, x_putC, x_fL6, dsOf, oSortK, intKeys, x_fDSub, x_fTupC, x_fFrzN, oIxT, callT, endT, e]
  have hl : (fDat (fLst (fCons (fVar 7) fNil))) ⟨[A, F, some (.c 0), some (.d (.int h)), some (.d (.list (w.map il))), some (.d P), some (.d (.int i)), some (.d (il u))], [.m kvs]⟩ = .ok (.d (.list [il u])) ⟨[A, F, some (.c 0), some (.d (.int h)), some (.d (.list (w.map il))), some (.d P), some (.d (.int i)), some (.d (il u))], [.m kvs]⟩ := by
    simp [x_bnd, x_ret, x_stuck, x_gets, x_fVar, x_fC, x_fOp, x_fNil, x_fCons, x_fCall, x_fDat, x_fCell, x_fLst, x_fTup, x_fTest, x_fTru, x_fAnd, x_fOr, x_fNot, x_fIf, x_asB, x_fAndV, x_fOrV, x_fNotV, x_fIsN, x_fNotN, x_frz, x_frzs0, x_frzs1, x_fFrz, x_fSeq, x_fNext, x_fExpr, x_fRet, x_fRetN, x_fAsg, x_kName, x_fPar, x_kNil, x_kCons, x_kTup, x_kSub, x_setIt, x_needL, x_upC, x_fApp, x_fPopAt, x_fPop, x_fSl, x_fNoP, x_fP, x_fDef, x_callD, x_fPerm, x_fIsi, x_fNeg, x_asL, x_asLt, x_asT, x_fItL, x_fItT, x_orI, x_fRng1, x_fRng2, x_fEnum, x_fZip, x_fFor, x_forL0, x_fAug, x_fYes, x_lcT, x_fRstT, x_fRstV, x_ite, oIx, cutC, kl, Ce.lone, x_fCellV, x_fAppV, x_needV, x_upV, oIxV, x_fDNew, x_fSetdL, x_needW, x_setdL, x_fSrtS, x_fToM, x_fItems, x_fGet2, x_fDSub, x_needD, oGet2, oDSub, dictOf, keyD, oSortG, oSortP, orF, oCatT, oStr, x_fCount, x_fIndex, x_fRev, x_fPar3, datL, dat, oAdd, orO, oI, oInt, oPowW, oIC, oMod, cPos, oDiv, cDiv, endF, oAddI, oSub, oLt, oLe, oGt, oGe, oMul, oMulG, oRepD, oRep, oI2, oMin2, oMax2, oMinL, oMaxL, oAll, oAny, oBools, oIn, oNotIn, oInD, oInSg, x_fChain, intsA, cellsOf, picks, renum, putB, Ce.alive, oSl, slOr, oSlD, oSlL, oLenG, orA, oLen, tru, permL, oSumL, oCatD, datO, oCat, oList, oRepr, oTuple, DL.isNon, oSlT, oSlS, oAddS, oEqG, oNeG, oEqS, oNeS, oEq, oNe, x_fRaise, x_fFrzL, x_frzL, x_fItemsI, x_fValsI, x_fKeysI, x_fDNewM, x_fDPut, x_putC, x_fL6, dsOf, oSortK, intKeys, x_fDSub, x_fTupC, x_fFrzN, oIxT, callT, endT]
  have k1 : okE (.list [il u]) = true := okE_ll [u]
  cases hg : w[i]? with
  | none =>
    rw [hg] at hs
    rw [if_neg (by simp)]
    simp only [x_bnd, x_kTup, x_kCons, x_kName, x_kNil, List.length_cons, List.length_nil, if_true, List.set_cons_succ, List.set_cons_zero, x_fIf, x_fTest, x_fOp, hs, hl, x_gets, oNeG, orO, oNeS, oNe, dat, Option.toList_none, List.map_nil, okE_nil, k1, Bool.and_self, eqv_01]
    simp [x_bnd, x_ret, x_stuck, x_gets, x_fVar, x_fC, x_fOp, x_fNil, x_fCons, x_fCall, x_fDat, x_fCell, x_fLst, x_fTup, x_fTest, x_fTru, x_fAnd, x_fOr, x_fNot, x_fIf, x_asB, x_fAndV, x_fOrV, x_fNotV, x_fIsN, x_fNotN, x_frz, x_frzs0, x_frzs1, x_fFrz, x_fSeq, x_fNext, x_fExpr, x_fRet, x_fRetN, x_fAsg, x_kName, x_fPar, x_kNil, x_kCons, x_kTup, x_kSub, x_setIt, x_needL, x_upC, x_fApp, x_fPopAt, x_fPop, x_fSl, x_fNoP, x_fP, x_fDef, x_callD, x_fPerm, x_fIsi, x_fNeg, x_asL, x_asLt, x_asT, x_fItL, x_fItT, x_orI, x_fRng1, x_fRng2, x_fEnum, x_fZip, x_fFor, x_forL0, x_fAug, x_fYes, x_lcT, x_fRstT, x_fRstV, x_ite, oIx, cutC, kl, Ce.lone, x_fCellV, x_fAppV, x_needV, x_upV, oIxV, x_fDNew, x_fSetdL, x_needW, x_setdL, x_fSrtS, x_fToM, x_fItems, x_fGet2, x_fDSub, x_needD, oGet2, oDSub, dictOf, keyD, oSortG, oSortP, orF, oCatT, oStr, x_fCount, x_fIndex, x_fRev, x_fPar3, datL, dat, oAdd, orO, oI, oInt, oPowW, oIC, oMod, cPos, oDiv, cDiv, endF, oAddI, oSub, oLt, oLe, oGt, oGe, oMul, oMulG, oRepD, oRep, oI2, oMin2, oMax2, oMinL, oMaxL, oAll, oAny, oBools, oIn, oNotIn, oInD, oInSg, x_fChain, intsA, cellsOf, picks, renum, putB, Ce.alive, oSl, slOr, oSlD, oSlL, oLenG, orA, oLen, tru, permL, oSumL, oCatD, datO, oCat, oList, oRepr, oTuple, DL.isNon, oSlT, oSlS, oAddS, oEqG, oNeG, oEqS, oNeS, oEq, oNe, x_fRaise, x_fFrzL, x_frzL, x_fItemsI, x_fValsI, x_fKeysI, x_fDNewM, x_fDPut, x_putC, x_fL6, dsOf, oSortK, intKeys, x_fDSub, x_fTupC, x_fFrzN, oIxT, callT, endT]
  | some x =>
    rw [hg] at hs
    have k2 : okE (.list [il x]) = true := okE_ll [x]
    simp only [x_bnd, x_kTup, x_kCons, x_kName, x_kNil, List.length_cons, List.length_nil, if_true, List.set_cons_succ, List.set_cons_zero, x_fIf, x_fTest, x_fOp, hs, hl, x_gets, oNeG, orO, oNeS, oNe, dat, Option.toList_some, List.map_cons, List.map_nil, k2, k1, Bool.and_self, eqv_11]
    by_cases e : x = u
    · rw [if_pos (by rw [e])]
      simp [x_bnd, x_ret, x_stuck, x_gets, x_fVar, x_fC, x_fOp, x_fNil, x_fCons, x_fCall, x_fDat, x_fCell, x_fLst, x_fTup, x_fTest, x_fTru, x_fAnd, x_fOr, x_fNot, x_fIf, x_asB, x_fAndV, x_fOrV, x_fNotV, x_fIsN, x_fNotN, x_frz, x_frzs0, x_frzs1, x_fFrz, x_fSeq, x_fNext, x_fExpr, x_fRet, x_fRetN, x_fAsg, x_kName, x_fPar, x_kNil, x_kCons, x_kTup, x_kSub, x_setIt, x_needL, x_upC, x_fApp, x_fPopAt, x_fPop, x_fSl, x_fNoP, x_fP, x_fDef, x_callD, x_fPerm, x_fIsi, x_fNeg, x_asL, x_asLt, x_asT, x_fItL, x_fItT, x_orI, x_fRng1, x_fRng2, x_fEnum, x_fZip, x_fFor, x_forL0, x_fAug, x_fYes, x_lcT, x_fRstT, x_fRstV, x_ite, oIx, cutC, kl, Ce.lone, x_fCellV, x_fAppV, x_needV, x_upV, oIxV, x_fDNew, x_fSetdL, x_needW, x_setdL, x_fSrtS, x_fToM, x_fItems, x_fGet2, x_fDSub, x_needD, oGet2, oDSub, dictOf, keyD, oSortG, oSortP, orF, oCatT, oStr, x_fCount, x_fIndex, x_fRev, x_fPar3, datL, dat, oAdd, orO, oI, oInt, oPowW, oIC, oMod, cPos, oDiv, cDiv, endF, oAddI, oSub, oLt, oLe, oGt, oGe, oMul, oMulG, oRepD, oRep, oI2, oMin2, oMax2, oMinL, oMaxL, oAll, oAny, oBools, oIn, oNotIn, oInD, oInSg, x_fChain, intsA, cellsOf, picks, renum, putB, Ce.alive, oSl, slOr, oSlD, oSlL, oLenG, orA, oLen, tru, permL, oSumL, oCatD, datO, oCat, oList, oRepr, oTuple, DL.isNon, oSlT, oSlS, oAddS, oEqG, oNeG, oEqS, oNeS, oEq, oNe, x_fRaise, x_fFrzL, x_frzL, x_fItemsI, x_fValsI, x_fKeysI, x_fDNewM, x_fDPut, x_putC, x_fL6, dsOf, oSortK, intKeys, x_fDSub, x_fTupC, x_fFrzN, oIxT, callT, endT, e]
    · rw [if_neg (fun z => e (Option.some.inj z))]
      simp [x_bnd, x_ret, x_stuck, x_gets, x_fVar, x_fC, x_fOp, x_fNil, x_fCons, x_fCall, x_fDat, x_fCell, x_fLst, x_fTup, x_fTest, x_fTru, x_fAnd, x_fOr, x_fNot, x_fIf, x_asB, x_fAndV, x_fOrV, x_fNotV, x_fIsN, x_fNotN, x_frz, x_frzs0, x_frzs1, x_fFrz, x_fSeq, x_fNext, x_fExpr, x_fRet, x_fRetN, x_fAsg, x_kName, x_fPar, x_kNil, x_kCons, x_kTup, x_kSub, x_setIt, x_needL, x_upC, x_fApp, x_fPopAt, x_fPop, x_fSl, x_fNoP, x_fP, x_fDef, x_callD, x_fPerm, x_fIsi, x_fNeg, x_asL, x_asLt, x_asT, x_fItL, x_fItT, x_orI, x_fRng1, x_fRng2, x_fEnum, x_fZip, x_fFor, x_forL0, x_fAug, x_fYes, x_lcT, x_fRstT, x_fRstV, x_ite, oIx, cutC, kl, Ce.lone, x_fCellV, x_fAppV, x_needV, x_upV, oIxV, x_fDNew, x_fSetdL, x_needW, x_setdL, x_fSrtS, x_fToM, x_fItems, x_fGet2, x_fDSub, x_needD, oGet2, oDSub, dictOf, keyD, oSortG, oSortP, orF, oCatT, oStr, x_fCount, x_fIndex, x_fRev, x_fPar3, datL, dat, oAdd, orO, oI, oInt, oPowW, oIC, oMod, cPos, oDiv, cDiv, endF, oAddI, oSub, oLt, oLe, oGt, oGe, oMul, oMulG, oRepD, oRep, oI2, oMin2, oMax2, oMinL, oMaxL, oAll, oAny, oBools, oIn, oNotIn, oInD, oInSg, x_fChain, intsA, cellsOf, picks, renum, putB, Ce.alive, oSl, slOr, oSlD, oSlL, oLenG, orA, oLen, tru, permL, oSumL, oCatD, datO, oCat, oList, oRepr, oTuple, DL.isNon, oSlT, oSlS, oAddS, oEqG, oNeG, oEqS, oNeS, oEq, oNe, x_fRaise, x_fFrzL, x_frzL, x_fItemsI, x_fValsI, x_fKeysI, x_fDNewM, x_fDPut, x_putC, x_fL6, dsOf, oSortK, intKeys, x_fDSub, x_fTupC, x_fFrzN, oIxT, callT, endT, e]
theorem du_loop {P : D} {A F : Option Vl} {h : Int} {kvs : List (Key × D)} (w : List (List Int)) : ∀ (p : List (List Int)) (i : Nat) (a6 a7 : Option Vl), ∃ a6' a7', forL K0__law_due B0__law_due (enumD i (p.map il)) ⟨[A, F, some (.c 0), some (.d (.int h)), some (.d (.list (w.map il))), some (.d P), a6, a7], [.m kvs]⟩ = (match pdif (w.drop i) p with
    | none => .ok .nx ⟨[A, F, some (.c 0), some (.d (.int h)), some (.d (.list (w.map il))), some (.d P), a6', a7'], [.m kvs]⟩
    | some n => .ok (.rt (.d (.tuple [.str "leader", .int h, .int ((i + n : Nat) : Int)]))) ⟨[A, F, some (.c 0), some (.d (.int h)), some (.d (.list (w.map il))), some (.d P), a6', a7'], [.m kvs]⟩)
  | [], i, a6, a7 => ⟨a6, a7, by cases h : w.drop i <;> rfl⟩
  | u :: p, i, a6, a7 => by
    have ht := du_turn (w := w) (P := P) (A := A) (F := F) (h := h) (i := i) (u := u) (kvs := kvs) (a6 := a6) (a7 := a7)
    by_cases hi : i < w.length
    · have hd : w.drop i = w[i] :: w.drop (i + 1) := List.drop_eq_getElem_cons hi
      have hg : w[i]? = some w[i] := List.getElem?_eq_getElem hi
      generalize w[i] = x at hd hg
      by_cases e : x = u
      · subst e
        rw [if_pos hg] at ht
        obtain ⟨b2, b3, hr⟩ := du_loop (P := P) (A := A) (F := F) (h := h) (kvs := kvs) w p (i + 1) (some (.d (.int i))) (some (.d (il x)))
        refine ⟨b2, b3, ?_⟩
        rw [List.map_cons, enumD, forL_step ht, hr, hd, pdif, if_pos rfl]
        cases pdif (w.drop (i + 1)) p with
        | none => rfl
        | some n =>
          have ec : i + 1 + n = i + (n + 1) := by omega
          simp only [Option.map_some, ec]
      · rw [if_neg (by rw [hg]; exact fun z => e (Option.some.inj z))] at ht
        refine ⟨some (.d (.int i)), some (.d (il u)), ?_⟩
        rw [List.map_cons, enumD, hd, pdif, if_neg e]
        simp only [forL, ht]
        rfl
    · have hd : w.drop i = [] := List.drop_eq_nil_of_le (by omega)
      rw [if_neg (by rw [List.getElem?_eq_none (by omega)]; simp)] at ht
      refine ⟨some (.d (.int i)), some (.d (il u)), ?_⟩
      rw [List.map_cons, enumD, hd, pdif]
      simp only [forL, ht]
      rfl
/-! which leader bars, which words are left -/
def dbad (X Y : Int → List (List Int)) : List Int → Option (Int × Nat)
  | [] => none
  | h :: ks => match pdif (X h) (Y h) with
    | some n => some (h, n)
    | none => dbad X Y ks
theorem pdif_nil (w : List (List Int)) : pdif w [] = none := pdif_none.mpr (List.nil_prefix)
theorem dbad_filter (X Y : Int → List (List Int)) : ∀ ks : List Int, dbad X Y (ks.filter fun h => decide (Y h ≠ [])) = dbad X Y ks
  | [] => rfl
  | h :: ks => by
    by_cases e : Y h = []
    · rw [List.filter_cons_of_neg (by simp [e]), dbad_filter X Y ks, dbad, e, pdif_nil]
    · rw [List.filter_cons_of_pos (by simp [e]), dbad, dbad, dbad_filter X Y ks]
theorem dbad_same {X Y : Int → List (List Int)} {ks ks' : List Int} (h1 : ks.Pairwise (· < ·)) (h2 : ks'.Pairwise (· < ·)) (m1 : ∀ h, Y h ≠ [] → h ∈ ks) (m2 : ∀ h, Y h ≠ [] → h ∈ ks') : dbad X Y ks = dbad X Y ks' := by
  have e : (ks.filter fun h => decide (Y h ≠ [])) = ks'.filter fun h => decide (Y h ≠ []) := lt_eq (h1.filter _) (h2.filter _) fun k => by
    simp only [List.mem_filter, decide_eq_true_eq]
    exact ⟨fun q => ⟨m2 k q.2, q.2⟩, fun q => ⟨m1 k q.2, q.2⟩⟩
  rw [← dbad_filter X Y ks, ← dbad_filter X Y ks', e]
theorem fbad_dbad (W P : Gp) : ∀ ks : List Int, fbad W P ks = dbad (lk W) (lk P) ks
  | [] => rfl
  | h :: ks => by
    (rw [fbad, dbad, fbad_dbad W P ks]) <;> cases pdif (lk W h) (lk P h) <;> rfl
theorem W_hdl {l : List Int} {h : Int} (hw : Wf l h ≠ []) : h ∈ hdl l := by
  obtain ⟨u, hu⟩ := List.exists_mem_of_ne_nil _ hw
  obtain ⟨h1, h2⟩ := List.mem_filter.mp hu
  obtain ⟨x, xs, rfl, _⟩ := uts_cons h1
  simp only [List.head?_cons, decide_eq_true_eq, Option.some.injEq] at h2
  subst h2
  unfold hdl
  rw [srtS_mem]
  exact List.mem_map.mpr ⟨_, h1, rfl⟩
theorem lk_mapf (G : Int → List (List Int)) (h : Int) : ∀ ks : List Int, lk (ks.map fun k => (k, G k)) h = if h ∈ ks then G h else []
  | [] => by simp [lk]
  | k :: ks => by
    rw [List.map_cons, lk, lk_mapf G h ks]
    by_cases e : k = h
    · subst e; simp
    · have e' : ¬ h = k := fun z => e z.symm
      simp [e, e']
theorem W_units (l : List Int) (h : Int) : ∀ u ∈ Wf l h, ∃ xs, u = h :: xs ∧ ∀ z ∈ xs, z < h := by
  have := lk_units (gu_grp l).2 h
  rwa [lk_grp] at this
theorem nd_len : ∀ {l m : List Int}, l.Nodup → (∀ z ∈ l, z ∈ m) → l.length ≤ m.length
  | [], m, _, _ => Nat.zero_le _
  | x :: l, m, hn, hs => by
    have hx := hs x List.mem_cons_self
    obtain ⟨n1, n2⟩ := List.nodup_cons.mp hn
    have h2 := nd_len (l := l) (m := m.erase x) n2 fun z hz => (List.mem_erase_of_ne (by intro e; subst e; exact n1 hz)).mpr (hs z (List.mem_cons_of_mem _ hz))
    have h3 := List.length_erase_of_mem hx
    have h4 := List.length_pos_of_mem hx
    rw [List.length_cons]
    omega
theorem srtS_len (ns : List Int) : (srtS ns).length ≤ ns.length := nd_len ((srtS_lt ns).imp fun h => by omega) fun z hz => (srtS_mem ns z).mp hz
/-- few values -/
def Hb (l : List Int) : Prop := ∃ A : List Int, A.length ≤ 16 ∧ ∀ z ∈ l, z ∈ A ∨ (3 ≤ z ∧ z ≤ 15)
theorem Hb.heads {l : List Int} (h : Hb l) : (hdl l).length ≤ 29 := by
  obtain ⟨A, hA, hz⟩ := h
  have := nd_len (l := hdl l) (m := A ++ [3, 4, 5, 6, 7, 8, 9, 10, 11, 12, 13, 14, 15]) ((srtS_lt _).imp fun h => by omega) fun z hz' => by
    obtain ⟨u, hu, e⟩ := List.mem_map.mp ((srtS_mem _ z).mp hz')
    obtain ⟨x, xs, rfl, _⟩ := uts_cons hu
    have e' : x = z := e
    subst e'
    rcases hz x ((uts_mem hu).1 x List.mem_cons_self) with q | q
    · exact List.mem_append_left _ q
    · refine List.mem_append_right _ ?_
      simp only [List.mem_cons, List.not_mem_nil, or_false]
      omega
  rw [List.length_append] at this
  simp only [List.length_cons, List.length_nil] at this
  omega
theorem Hb.sub {l m : List Int} (h : Hb l) (hs : ∀ z ∈ m, z ∈ l) : Hb m := by
  obtain ⟨A, hA, hz⟩ := h
  exact ⟨A, hA, fun z q => hz z (hs z q)⟩
theorem Hb.small {l : List Int} (h : l.length ≤ 16) : Hb l := ⟨l, h, fun z hz => .inl hz⟩
theorem Hb.row {l : List Int} (h : Rg l) : Hb l := ⟨[], by simp, fun z hz => .inr (h z hz)⟩
theorem Hb.merge {l m : List Int} (h : Hb l) (hm : Rg m) : Hb (mrg l m) := by
  obtain ⟨A, hA, hz⟩ := h
  refine ⟨A, hA, fun z q => ?_⟩
  rcases List.mem_append.mp ((mrg_perm _ l m rfl).mem_iff.mp q) with q | q
  · exact hz z q
  · exact .inr (hm z q)

def dleft (a f : List Int) (ks : List Int) : Gp := ks.map fun h => (h, (Wf a h).drop (Wf f h).length)
theorem do_turn {a f : List Int} (la : a.length ≤ 63) (lf : f.length ≤ 63) {h : Int} {kvs : List (Key × D)} (hk : kvs.length < 1000000) (hnew : ∀ q ∈ kvs, q.1 ≠ .inl h) {a3 a4 a5 a6 a7 : Option Vl} : ∃ a6' a7', bnd (K1__law_due (.d (.int h))) (fun _ => B1__law_due) ⟨[some (.d (il a)), some (.d (il f)), some (.c 0), a3, a4, a5, a6, a7], [.m kvs]⟩ = (match pdif (Wf a h) (Wf f h) with
    | none => .ok .nx ⟨[some (.d (il a)), some (.d (il f)), some (.c 0), some (.d (.int h)), some (.d (.list ((Wf a h).map il))), some (.d (.list ((Wf f h).map il))), a6', a7'], [.m (kvs ++ [(.inl h, .list (((Wf a h).drop (Wf f h).length).map il))])]⟩
    | some n => .ok (.rt (.d (.tuple [.str "leader", .int h, .int (n : Int)]))) ⟨[some (.d (il a)), some (.d (il f)), some (.c 0), some (.d (.int h)), some (.d (.list ((Wf a h).map il))), some (.d (.list ((Wf f h).map il))), a6', a7'], [.m kvs]⟩) := by
  have h1 := law_word_ok (l := a) (h := h) (by omega)
  have h2 := law_word_ok (l := f) (h := h) (by omega)
  obtain ⟨b6, b7, hl⟩ := du_loop (P := .list ((Wf f h).map il)) (A := some (.d (il a))) (F := some (.d (il f))) (h := h) (kvs := kvs) (Wf a h) (Wf f h) 0 a6 a7
  rw [List.drop_zero] at hl
  refine ⟨b6, b7, ?_⟩
  have hI : I0__law_due ⟨[some (.d (il a)), some (.d (il f)), some (.c 0), some (.d (.int h)), some (.d (.list ((Wf a h).map il))), some (.d (.list ((Wf f h).map il))), a6, a7], [.m kvs]⟩ = .ok (enumD 0 ((Wf f h).map il)) ⟨[some (.d (il a)), some (.d (il f)), some (.c 0), some (.d (.int h)), some (.d (.list ((Wf a h).map il))), some (.d (.list ((Wf f h).map il))), a6, a7], [.m kvs]⟩ := by
    generalize (Wf f h).map il = Z
    simp [x_bnd, x_ret, x_stuck, x_gets, x_fVar, x_fC, x_fOp, x_fNil, x_fCons, x_fCall, x_fDat, x_fCell, x_fLst, x_fTup, x_fTest, x_fTru, x_fAnd, x_fOr, x_fNot, x_fIf, x_asB, x_fAndV, x_fOrV, x_fNotV, x_fIsN, x_fNotN, x_frz, x_frzs0, x_frzs1, x_fFrz, x_fSeq, x_fNext, x_fExpr, x_fRet, x_fRetN, x_fAsg, x_kName, x_fPar, x_kNil, x_kCons, x_kTup, x_kSub, x_setIt, x_needL, x_upC, x_fApp, x_fPopAt, x_fPop, x_fSl, x_fNoP, x_fP, x_fDef, x_callD, x_fPerm, x_fIsi, x_fNeg, x_asL, x_asLt, x_asT, x_fItL, x_fItT, x_orI, x_fRng1, x_fRng2, x_fEnum, x_fZip, x_fFor, x_forL0, x_fAug, x_fYes, x_lcT, x_fRstT, x_fRstV, x_ite, oIx, cutC, kl, Ce.lone, x_fCellV, x_fAppV, x_needV, x_upV, oIxV, x_fDNew, x_fSetdL, x_needW, x_setdL, x_fSrtS, x_fToM, x_fItems, x_fGet2, x_fDSub, x_needD, oGet2, oDSub, dictOf, keyD, oSortG, oSortP, orF, oCatT, oStr, x_fCount, x_fIndex, x_fRev, x_fPar3, datL, dat, oAdd, orO, oI, oInt, oPowW, oIC, oMod, cPos, oDiv, cDiv, endF, oAddI, oSub, oLt, oLe, oGt, oGe, oMul, oMulG, oRepD, oRep, oI2, oMin2, oMax2, oMinL, oMaxL, oAll, oAny, oBools, oIn, oNotIn, oInD, oInSg, x_fChain, intsA, cellsOf, picks, renum, putB, Ce.alive, oSl, slOr, oSlD, oSlL, oLenG, orA, oLen, tru, permL, oSumL, oCatD, datO, oCat, oList, oRepr, oTuple, DL.isNon, oSlT, oSlS, oAddS, oEqG, oNeG, oEqS, oNeS, oEq, oNe, x_fRaise, x_fFrzL, x_frzL, x_fItemsI, x_fValsI, x_fKeysI, x_fDNewM, x_fDPut, x_putC, x_fL6, dsOf, oSortK, intKeys, x_fDSub, x_fTupC, x_fFrzN, oIxT, callT, endT]
  have hf := fFor_ok hI hl
  have hput := fun d => putD_new (d := d) hnew
  have s1 : (fPar 4 5 (fCons (fDef g__law_word (fCons (fVar 0) (fCons (fVar 3) fNil))) (fCons (fDef g__law_word (fCons (fVar 1) (fCons (fVar 3) fNil))) fNil))) ⟨[some (.d (il a)), some (.d (il f)), some (.c 0), some (.d (.int h)), a4, a5, a6, a7], [.m kvs]⟩ = .ok .nx ⟨[some (.d (il a)), some (.d (il f)), some (.c 0), some (.d (.int h)), some (.d (.list ((Wf a h).map il))), some (.d (.list ((Wf f h).map il))), a6, a7], [.m kvs]⟩ := by
    generalize (Wf a h).map il = X at h1
    generalize (Wf f h).map il = Y at h2
    simp [x_bnd, x_ret, x_stuck, x_gets, x_fVar, x_fC, x_fOp, x_fNil, x_fCons, x_fCall, x_fDat, x_fCell, x_fLst, x_fTup, x_fTest, x_fTru, x_fAnd, x_fOr, x_fNot, x_fIf, x_asB, x_fAndV, x_fOrV, x_fNotV, x_fIsN, x_fNotN, x_frz, x_frzs0, x_frzs1, x_fFrz, x_fSeq, x_fNext, x_fExpr, x_fRet, x_fRetN, x_fAsg, x_kName, x_fPar, x_kNil, x_kCons, x_kTup, x_kSub, x_setIt, x_needL, x_upC, x_fApp, x_fPopAt, x_fPop, x_fSl, x_fNoP, x_fP, x_fDef, x_callD, x_fPerm, x_fIsi, x_fNeg, x_asL, x_asLt, x_asT, x_fItL, x_fItT, x_orI, x_fRng1, x_fRng2, x_fEnum, x_fZip, x_fFor, x_forL0, x_fAug, x_fYes, x_lcT, x_fRstT, x_fRstV, x_ite, oIx, cutC, kl, Ce.lone, x_fCellV, x_fAppV, x_needV, x_upV, oIxV, x_fDNew, x_fSetdL, x_needW, x_setdL, x_fSrtS, x_fToM, x_fItems, x_fGet2, x_fDSub, x_needD, oGet2, oDSub, dictOf, keyD, oSortG, oSortP, orF, oCatT, oStr, x_fCount, x_fIndex, x_fRev, x_fPar3, datL, dat, oAdd, orO, oI, oInt, oPowW, oIC, oMod, cPos, oDiv, cDiv, endF, oAddI, oSub, oLt, oLe, oGt, oGe, oMul, oMulG, oRepD, oRep, oI2, oMin2, oMax2, oMinL, oMaxL, oAll, oAny, oBools, oIn, oNotIn, oInD, oInSg, x_fChain, intsA, cellsOf, picks, renum, putB, Ce.alive, oSl, slOr, oSlD, oSlL, oLenG, orA, oLen, tru, permL, oSumL, oCatD, datO, oCat, oList, oRepr, oTuple, DL.isNon, oSlT, oSlS, oAddS, oEqG, oNeG, oEqS, oNeS, oEq, oNe, x_fRaise, x_fFrzL, x_frzL, x_fItemsI, x_fValsI, x_fKeysI, x_fDNewM, x_fDPut, x_putC, x_fL6, dsOf, oSortK, intKeys, x_fDSub, x_fTupC, x_fFrzN, oIxT, callT, endT, h1, h2]
  have s3 : ∀ b6 b7 : Option Vl, (fDPut (fVar 2) (fVar 3) (fSl oSl (fVar 4) (fP (fCall oLenG (fCons (fVar 5) fNil))) fNoP)) ⟨[some (.d (il a)), some (.d (il f)), some (.c 0), some (.d (.int h)), some (.d (.list ((Wf a h).map il))), some (.d (.list ((Wf f h).map il))), b6, b7], [.m kvs]⟩ = .ok .nx ⟨[some (.d (il a)), some (.d (il f)), some (.c 0), some (.d (.int h)), some (.d (.list ((Wf a h).map il))), some (.d (.list ((Wf f h).map il))), b6, b7], [.m (kvs ++ [(.inl h, .list (((Wf a h).drop (Wf f h).length).map il))])]⟩ := fun b6 b7 => by
    have hc : DL.cutD ((Wf a h).map il) (some ((Wf f h).length : Int)) none = ((Wf a h).drop (Wf f h).length).map il := by rw [cutI, List.map_drop]
    generalize ((Wf a h).drop (Wf f h).length).map il = Z at hc
    generalize (Wf a h).map il = X at hc
    generalize Wf f h = Y at hc
    simp [x_bnd, x_ret, x_stuck, x_gets, x_fVar, x_fC, x_fOp, x_fNil, x_fCons, x_fCall, x_fDat, x_fCell, x_fLst, x_fTup, x_fTest, x_fTru, x_fAnd, x_fOr, x_fNot, x_fIf, x_asB, x_fAndV, x_fOrV, x_fNotV, x_fIsN, x_fNotN, x_frz, x_frzs0, x_frzs1, x_fFrz, x_fSeq, x_fNext, x_fExpr, x_fRet, x_fRetN, x_fAsg, x_kName, x_fPar, x_kNil, x_kCons, x_kTup, x_kSub, x_setIt, x_needL, x_upC, x_fApp, x_fPopAt, x_fPop, x_fSl, x_fNoP, x_fP, x_fDef, x_callD, x_fPerm, x_fIsi, x_fNeg, x_asL, x_asLt, x_asT, x_fItL, x_fItT, x_orI, x_fRng1, x_fRng2, x_fEnum, x_fZip, x_fFor, x_forL0, x_fAug, x_fYes, x_lcT, x_fRstT, x_fRstV, x_ite, oIx, cutC, kl, Ce.lone, x_fCellV, x_fAppV, x_needV, x_upV, oIxV, x_fDNew, x_fSetdL, x_needW, x_setdL, x_fSrtS, x_fToM, x_fItems, x_fGet2, x_fDSub, x_needD, oGet2, oDSub, dictOf, keyD, oSortG, oSortP, orF, oCatT, oStr, x_fCount, x_fIndex, x_fRev, x_fPar3, datL, dat, oAdd, orO, oI, oInt, oPowW, oIC, oMod, cPos, oDiv, cDiv, endF, oAddI, oSub, oLt, oLe, oGt, oGe, oMul, oMulG, oRepD, oRep, oI2, oMin2, oMax2, oMinL, oMaxL, oAll, oAny, oBools, oIn, oNotIn, oInD, oInSg, x_fChain, intsA, cellsOf, picks, renum, putB, Ce.alive, oSl, slOr, oSlD, oSlL, oLenG, orA, oLen, tru, permL, oSumL, oCatD, datO, oCat, oList, oRepr, oTuple, DL.isNon, oSlT, oSlS, oAddS, oEqG, oNeG, oEqS, oNeS, oEq, oNe, x_fRaise, x_fFrzL, x_frzL, x_fItemsI, x_fValsI, x_fKeysI, x_fDNewM, x_fDPut, x_putC, x_fL6, dsOf, oSortK, intKeys, x_fDSub, x_fTupC, x_fFrzN, oIxT, callT, endT, hc, hk, hput]
  simp only [x_bnd, x_kName, List.set_cons_succ, List.set_cons_zero, x_fSeq, s1, hf]
  cases pdif (Wf a h) (Wf f h) with
  | none => simp only [s3]
  | some n => simp only [Nat.zero_add]
theorem do_loop {a f : List Int} (la : a.length ≤ 63) (lf : f.length ≤ 63) : ∀ (ks : List Int) (g : Gp) (a3 a4 a5 a6 a7 : Option Vl), ks.Nodup → (∀ k ∈ ks, k ∉ g.map (·.1)) → g.length + ks.length < 1000 → ∃ a3' a4' a5' a6' a7' M, forL K1__law_due B1__law_due (ks.map .int) ⟨[some (.d (il a)), some (.d (il f)), some (.c 0), a3, a4, a5, a6, a7], [.m (wM g)]⟩ = (match dbad (Wf a) (Wf f) ks with
    | none => .ok .nx ⟨[some (.d (il a)), some (.d (il f)), some (.c 0), a3', a4', a5', a6', a7'], [.m (wM (g ++ dleft a f ks))]⟩
    | some (h, n) => .ok (.rt (.d (.tuple [.str "leader", .int h, .int (n : Int)]))) ⟨[some (.d (il a)), some (.d (il f)), some (.c 0), a3', a4', a5', a6', a7'], [.m M]⟩)
  | [], g, a3, a4, a5, a6, a7, _, _, _ => ⟨a3, a4, a5, a6, a7, [], by simp [dleft, dbad, forL]; rfl⟩
  | h :: ks, g, a3, a4, a5, a6, a7, hn, hd, hl => by
    have hnew : ∀ q ∈ wM g, q.1 ≠ .inl h := fun q hq e => by
      have := List.mem_map_of_mem (f := (·.1)) hq
      rw [wM_keys, e] at this
      obtain ⟨k, hk, e2⟩ := List.mem_map.mp this
      cases e2
      exact hd _ List.mem_cons_self hk
    obtain ⟨b6, b7, ht⟩ := do_turn (a := a) (f := f) la lf (h := h) (kvs := wM g) (by simp [wM]; simp at hl; omega) hnew (a3 := a3) (a4 := a4) (a5 := a5) (a6 := a6) (a7 := a7)
    obtain ⟨n1, n2⟩ := List.nodup_cons.mp hn
    cases hp : pdif (Wf a h) (Wf f h) with
    | none =>
      rw [hp] at ht
      have hw : wM g ++ [((.inl h : Key), PyData.list (((Wf a h).drop (Wf f h).length).map il))] = wM (g ++ [(h, (Wf a h).drop (Wf f h).length)]) := by simp [wM]
      simp only [hw] at ht
      obtain ⟨b3, b4, b5, b6', b7', M, hr⟩ := do_loop la lf ks (g ++ [(h, (Wf a h).drop (Wf f h).length)]) (some (.d (.int h))) (some (.d (.list ((Wf a h).map il)))) (some (.d (.list ((Wf f h).map il)))) b6 b7 n2 (fun k hk z => by
        rw [List.map_append] at z
        rcases List.mem_append.mp z with q | q
        · exact hd k (List.mem_cons_of_mem _ hk) q
        · have : k = h := by simpa using q
          exact n1 (this ▸ hk)) (by simp at hl ⊢; omega)
      refine ⟨b3, b4, b5, b6', b7', M, ?_⟩
      rw [List.map_cons, forL_step ht, hr, dbad, hp]
      simp only [List.append_assoc, List.singleton_append, dleft, List.map_cons]
    | some n =>
      rw [hp] at ht
      refine ⟨some (.d (.int h)), some (.d (.list ((Wf a h).map il))), some (.d (.list ((Wf f h).map il))), b6, b7, wM g, ?_⟩
      rw [List.map_cons, dbad, hp]
      simp only [forL, ht]
theorem dleft_qt {a f : List Int} {ks : List Int} (hs : ks.Pairwise (· < ·)) (hm : ∀ h, Wf a h ≠ [] → h ∈ ks) : flw (dleft a f ks) = qt a f := W_ext fun h => by
  have hg : Gu (dleft a f ks) := ⟨by
    have : (dleft a f ks).map (·.1) = ks := by simp [dleft, Function.comp_def]
    rw [this]
    exact hs.imp fun h => by omega, fun p hp u hu => by
    obtain ⟨k, _, rfl⟩ := List.mem_map.mp hp
    exact W_units a k u (List.mem_of_mem_drop hu)⟩
  rw [W_flw hg, qt_W, dleft, lk_mapf]
  by_cases e : h ∈ ks
  · rw [if_pos e]
  · rw [if_neg e]
    have : Wf a h = [] := Classical.byContradiction fun z => e (hm h z)
    rw [this, List.drop_nil]
theorem law_due_ok {a f : List Int} (la : a.length ≤ 63) (lf : f.length ≤ 63) (hh : (hdl a).length + (hdl f).length ≤ 63) : g__law_due [.d (il a), .d (il f)] [] = .ok (.d (qtR a f)) [] := by
  have h1 := law_heads_ok la
  have h2 := law_heads_ok lf
  have hks : ∀ h, h ∈ srtS (hdl a ++ hdl f) ↔ h ∈ hdl a ∨ h ∈ hdl f := fun h => by rw [srtS_mem, List.mem_append]
  have hkl := srtS_len (hdl a ++ hdl f)
  rw [List.length_append] at hkl
  have hsrt := srtS_lt (hdl a ++ hdl f)
  have hI : I1__law_due ⟨[some (.d (il a)), some (.d (il f)), some (.c 0), none, none, none, none, none], [.m (wM [])]⟩ = .ok ((srtS (hdl a ++ hdl f)).map .int) ⟨[some (.d (il a)), some (.d (il f)), some (.c 0), none, none, none, none, none], [.m (wM [])]⟩ := by
    have hl1 : (hdl a).length + (hdl f).length ≤ 1000000 := by omega
    generalize hdl a = X at *
    generalize hdl f = Y at *
    have e : X.map PyData.int ++ Y.map PyData.int = (X ++ Y).map .int := List.map_append.symm
    have e2 : (X ++ Y).length ≤ 63 := by rw [List.length_append]; exact hh
    simp [-List.map_append, x_bnd, x_ret, x_stuck, x_gets, x_fVar, x_fC, x_fOp, x_fNil, x_fCons, x_fCall, x_fDat, x_fCell, x_fLst, x_fTup, x_fTest, x_fTru, x_fAnd, x_fOr, x_fNot, x_fIf, x_asB, x_fAndV, x_fOrV, x_fNotV, x_fIsN, x_fNotN, x_frz, x_frzs0, x_frzs1, x_fFrz, x_fSeq, x_fNext, x_fExpr, x_fRet, x_fRetN, x_fAsg, x_kName, x_fPar, x_kNil, x_kCons, x_kTup, x_kSub, x_setIt, x_needL, x_upC, x_fApp, x_fPopAt, x_fPop, x_fSl, x_fNoP, x_fP, x_fDef, x_callD, x_fPerm, x_fIsi, x_fNeg, x_asL, x_asLt, x_asT, x_fItL, x_fItT, x_orI, x_fRng1, x_fRng2, x_fEnum, x_fZip, x_fFor, x_forL0, x_fAug, x_fYes, x_lcT, x_fRstT, x_fRstV, x_ite, oIx, cutC, kl, Ce.lone, x_fCellV, x_fAppV, x_needV, x_upV, oIxV, x_fDNew, x_fSetdL, x_needW, x_setdL, x_fSrtS, x_fToM, x_fItems, x_fGet2, x_fDSub, x_needD, oGet2, oDSub, dictOf, keyD, oSortG, oSortP, orF, oCatT, oStr, x_fCount, x_fIndex, x_fRev, x_fPar3, datL, dat, oAdd, orO, oI, oInt, oPowW, oIC, oMod, cPos, oDiv, cDiv, endF, oAddI, oSub, oLt, oLe, oGt, oGe, oMul, oMulG, oRepD, oRep, oI2, oMin2, oMax2, oMinL, oMaxL, oAll, oAny, oBools, oIn, oNotIn, oInD, oInSg, x_fChain, intsA, cellsOf, picks, renum, putB, Ce.alive, oSl, slOr, oSlD, oSlL, oLenG, orA, oLen, tru, permL, oSumL, oCatD, datO, oCat, oList, oRepr, oTuple, DL.isNon, oSlT, oSlS, oAddS, oEqG, oNeG, oEqS, oNeS, oEq, oNe, x_fRaise, x_fFrzL, x_frzL, x_fItemsI, x_fValsI, x_fKeysI, x_fDNewM, x_fDPut, x_putC, x_fL6, dsOf, oSortK, intKeys, x_fDSub, x_fTupC, x_fFrzN, oIxT, callT, endT, h1, h2, hl1, e, intsOf_map, hh]
  have hdb : dbad (Wf a) (Wf f) (srtS (hdl a ++ hdl f)) = fbad (grp (uts a)) (grp (uts f)) (srt ((grp (uts f)).map (·.1))) := by
    rw [fbad_dbad]
    have e1 : lk (grp (uts a)) = Wf a := funext fun h => lk_grp a h
    have e2 : lk (grp (uts f)) = Wf f := funext fun h => lk_grp f h
    rw [e1, e2]
    refine dbad_same hsrt (srt_keys (gu_grp f)) (fun h hw => (hks h).mpr (.inr (W_hdl hw))) fun h hw => (srt_perm _).mem_iff.mpr (Classical.byContradiction fun z => hw ?_)
    rw [← lk_grp]
    exact lk_none z
  have hq : flw (dleft a f (srtS (hdl a ++ hdl f))) = qt a f := dleft_qt hsrt fun h hw => (hks h).mpr (.inl (W_hdl hw))
  obtain ⟨b3, b4, b5, b6, b7, M, hloop⟩ := do_loop la lf (srtS (hdl a ++ hdl f)) [] none none none none none (hsrt.imp fun h => by omega) (by simp) (by simp; omega)
  rw [hdb, List.nil_append] at hloop
  have hw := law_of_words_ok (g := dleft a f (srtS (hdl a ++ hdl f))) (by simp [dleft]; omega) (by rw [hq]; have := (qt_sub a f).length_le; omega)
  rw [hq] at hw
  have hf := fFor_ok hI hloop
  refine rt_body (v := .d (qtR a f)) rfl ?_
  simp only [List.map_cons, List.map_nil, List.cons_append, List.nil_append, List.replicate]
  refine rt_seq (s' := ⟨[some (.d (il a)), some (.d (il f)), some (.c 0), none, none, none, none, none], [.m (wM [])]⟩) (by simp [x_bnd, x_ret, x_stuck, x_gets, x_fVar, x_fC, x_fOp, x_fNil, x_fCons, x_fCall, x_fDat, x_fCell, x_fLst, x_fTup, x_fTest, x_fTru, x_fAnd, x_fOr, x_fNot, x_fIf, x_asB, x_fAndV, x_fOrV, x_fNotV, x_fIsN, x_fNotN, x_frz, x_frzs0, x_frzs1, x_fFrz, x_fSeq, x_fNext, x_fExpr, x_fRet, x_fRetN, x_fAsg, x_kName, x_fPar, x_kNil, x_kCons, x_kTup, x_kSub, x_setIt, x_needL, x_upC, x_fApp, x_fPopAt, x_fPop, x_fSl, x_fNoP, x_fP, x_fDef, x_callD, x_fPerm, x_fIsi, x_fNeg, x_asL, x_asLt, x_asT, x_fItL, x_fItT, x_orI, x_fRng1, x_fRng2, x_fEnum, x_fZip, x_fFor, x_forL0, x_fAug, x_fYes, x_lcT, x_fRstT, x_fRstV, x_ite, oIx, cutC, kl, Ce.lone, x_fCellV, x_fAppV, x_needV, x_upV, oIxV, x_fDNew, x_fSetdL, x_needW, x_setdL, x_fSrtS, x_fToM, x_fItems, x_fGet2, x_fDSub, x_needD, oGet2, oDSub, dictOf, keyD, oSortG, oSortP, orF, oCatT, oStr, x_fCount, x_fIndex, x_fRev, x_fPar3, datL, dat, oAdd, orO, oI, oInt, oPowW, oIC, oMod, cPos, oDiv, cDiv, endF, oAddI, oSub, oLt, oLe, oGt, oGe, oMul, oMulG, oRepD, oRep, oI2, oMin2, oMax2, oMinL, oMaxL, oAll, oAny, oBools, oIn, oNotIn, oInD, oInSg, x_fChain, intsA, cellsOf, picks, renum, putB, Ce.alive, oSl, slOr, oSlD, oSlL, oLenG, orA, oLen, tru, permL, oSumL, oCatD, datO, oCat, oList, oRepr, oTuple, DL.isNon, oSlT, oSlS, oAddS, oEqG, oNeG, oEqS, oNeS, oEq, oNe, x_fRaise, x_fFrzL, x_frzL, x_fItemsI, x_fValsI, x_fKeysI, x_fDNewM, x_fDPut, x_putC, x_fL6, dsOf, oSortK, intKeys, x_fDSub, x_fTupC, x_fFrzN, oIxT, callT, endT, wM]) ?_
  unfold qtR
  cases hb : fbad (grp (uts a)) (grp (uts f)) (srt ((grp (uts f)).map (·.1))) with
  | some q =>
    obtain ⟨h, n⟩ := q
    rw [hb] at hf
    simp only at hf
    simp only [x_fSeq, hf]
    simp [Rt, endF, cutC]
  | none =>
    rw [hb] at hf
    simp only at hf
    refine rt_seq hf ?_
    generalize hZ : wM (dleft a f (srtS (hdl a ++ hdl f))) = Z at *
    have e : dM (dleft a f (srtS (hdl a ++ hdl f))) = .dict (Z.map fun p => (kD p.1, p.2)) := by rw [← hZ]
    rw [e] at hw
    generalize qt a f = L at hw
    simp [x_bnd, x_ret, x_stuck, x_gets, x_fVar, x_fC, x_fOp, x_fNil, x_fCons, x_fCall, x_fDat, x_fCell, x_fLst, x_fTup, x_fTest, x_fTru, x_fAnd, x_fOr, x_fNot, x_fIf, x_asB, x_fAndV, x_fOrV, x_fNotV, x_fIsN, x_fNotN, x_frz, x_frzs0, x_frzs1, x_fFrz, x_fSeq, x_fNext, x_fExpr, x_fRet, x_fRetN, x_fAsg, x_kName, x_fPar, x_kNil, x_kCons, x_kTup, x_kSub, x_setIt, x_needL, x_upC, x_fApp, x_fPopAt, x_fPop, x_fSl, x_fNoP, x_fP, x_fDef, x_callD, x_fPerm, x_fIsi, x_fNeg, x_asL, x_asLt, x_asT, x_fItL, x_fItT, x_orI, x_fRng1, x_fRng2, x_fEnum, x_fZip, x_fFor, x_forL0, x_fAug, x_fYes, x_lcT, x_fRstT, x_fRstV, x_ite, oIx, cutC, kl, Ce.lone, x_fCellV, x_fAppV, x_needV, x_upV, oIxV, x_fDNew, x_fSetdL, x_needW, x_setdL, x_fSrtS, x_fToM, x_fItems, x_fGet2, x_fDSub, x_needD, oGet2, oDSub, dictOf, keyD, oSortG, oSortP, orF, oCatT, oStr, x_fCount, x_fIndex, x_fRev, x_fPar3, datL, dat, oAdd, orO, oI, oInt, oPowW, oIC, oMod, cPos, oDiv, cDiv, endF, oAddI, oSub, oLt, oLe, oGt, oGe, oMul, oMulG, oRepD, oRep, oI2, oMin2, oMax2, oMinL, oMaxL, oAll, oAny, oBools, oIn, oNotIn, oInD, oInSg, x_fChain, intsA, cellsOf, picks, renum, putB, Ce.alive, oSl, slOr, oSlD, oSlL, oLenG, orA, oLen, tru, permL, oSumL, oCatD, datO, oCat, oList, oRepr, oTuple, DL.isNon, oSlT, oSlS, oAddS, oEqG, oNeG, oEqS, oNeS, oEq, oNe, x_fRaise, x_fFrzL, x_frzL, x_fItemsI, x_fValsI, x_fKeysI, x_fDNewM, x_fDPut, x_putC, x_fL6, dsOf, oSortK, intKeys, x_fDSub, x_fTupC, x_fFrzN, oIxT, callT, endT, hw, Rt, flat]

theorem fbad_none {W P : Gp} : ∀ {ks : List Int}, (∀ h ∈ ks, lk P h <+: lk W h) → fbad W P ks = none
  | [], _ => rfl
  | h :: ks, hp => by
    unfold fbad
    rw [pdif_none.mpr (hp h List.mem_cons_self)]
    exact fbad_none fun j hj => hp j (List.mem_cons_of_mem _ hj)

theorem fbad_some {W P : Gp} {h : Int} {n : Nat} : ∀ {ks : List Int}, fbad W P ks = some (h, n) → pdif (lk W h) (lk P h) = some n
  | [], e => by cases e
  | k :: ks, e => by
    unfold fbad at e
    cases hp : pdif (lk W k) (lk P k) with
    | none => rw [hp] at e; exact fbad_some e
    | some m => rw [hp] at e; cases e; exact hp
theorem pdif_lt : ∀ {w p : List (List Int)} {n : Nat}, pdif w p = some n → n < p.length
  | w, [], n, e => by rw [pdif_nil] at e; cases e
  | [], u :: p, n, e => by simp [pdif] at e; subst e; simp
  | x :: w, u :: p, n, e => by
    rw [pdif] at e
    split at e
    · cases hp : pdif w p with
      | none => rw [hp] at e; cases e
      | some m =>
        rw [hp] at e
        cases e
        have := pdif_lt hp
        simp only [List.length_cons]
        omega
    · cases e
      simp
theorem W_len (l : List Int) (h : Int) : (Wf l h).length ≤ l.length := Nat.le_trans (List.length_filter_le _ _) (uts_len l)
theorem W_in {l : List Int} {h : Int} (hw : Wf l h ≠ []) : h ∈ l := by
  obtain ⟨u, hu⟩ := List.exists_mem_of_ne_nil _ hw
  obtain ⟨h1, h2⟩ := List.mem_filter.mp hu
  obtain ⟨x, xs, rfl, _⟩ := uts_cons h1
  simp only [List.head?_cons, decide_eq_true_eq, Option.some.injEq] at h2
  subst h2
  exact (uts_mem h1).1 x List.mem_cons_self
theorem sm_str1 : Sm 0 42 (.str "list") := ⟨by simp [noD], by simp only [PyData.canLay0]; decide +kernel, by simp [PyData.depth], by decide +kernel, by decide +kernel⟩
theorem sm_str2 : Sm 0 42 (.str "leader") := ⟨by simp [noD], by simp only [PyData.canLay0]; decide +kernel, by simp [PyData.depth], by decide +kernel, by decide +kernel⟩
theorem sm_lead {h : Int} {n : Nat} (hh : h.natAbs ≤ 10 ^ 30) (hn : n ≤ 1000) : Sm 2 6000 (.tuple [.str "leader", .int h, .int (n : Int)]) := by
  refine (Sm.tuple (k := 0) (w := 42) (n := 3) (fun x hx => ?_) (by simp)).mono (by decide) (by decide)
  simp only [List.mem_cons, List.not_mem_nil, or_false] at hx
  rcases hx with rfl | rfl | rfl
  · exact sm_str2
  · exact Sm.int (Nat.lt_of_le_of_lt hh (by decide))
  · exact Sm.int (Nat.lt_of_le_of_lt (by omega : (n : Int).natAbs ≤ 1000) (by decide))
theorem sm_lst {L : List Int} (hb : Bdd (10 ^ 30) L) (hl : L.length ≤ 63) : Sm 2 6000 (.tuple [.str "list", il L]) := by
  refine (Sm.tuple (k := 1) (w := 2775) (n := 2) (fun x hx => ?_) (by simp)).mono (by decide) (by decide)
  simp only [List.mem_cons, List.not_mem_nil, or_false] at hx
  rcases hx with rfl | rfl
  · exact sm_str1.mono (by decide) (by decide)
  · exact (Sm.il hb hl).mono (by decide) (by decide)
theorem eqv_lst (L : List Int) : PyData.eqv (.tuple [.str "list", il L]) (.tuple [.str "list", il L]) = true := by
  have e := eqv_il L L
  rw [decide_eq_true rfl] at e
  generalize il L = x at e
  simp [PyData.eqv, PyData.eqvAll, e]
theorem eqv_lead (h n : Int) : PyData.eqv (.tuple [.str "leader", .int h, .int n]) (.tuple [.str "leader", .int h, .int n]) = true := by
  simp [PyData.eqv, PyData.eqvAll]
/-! a tuple's cells -/
theorem frz_t {sl : List (Option Vl)} {P : List Ce} {L : List D} {Y : List Ce} : frz (.c (P.length + 1)) ⟨sl, P ++ (.l L :: .t [.d (.str "list"), .c P.length] :: Y)⟩ = .ok (.tuple [.str "list", .list L]) ⟨sl, P ++ (.f L :: .t [.d (.str "list"), .c P.length] :: Y)⟩ := by
  have g1 : (P ++ (Ce.l L :: Ce.t [.d (.str "list"), .c P.length] :: Y))[P.length + 1]? = some (.t [.d (.str "list"), .c P.length]) := by
    rw [List.getElem?_append_right (by omega)]
    simp
  have g0 : (P ++ (Ce.l L :: Ce.t [.d (.str "list"), .c P.length] :: Y))[P.length]? = some (.l L) := by
    rw [List.getElem?_append_right (by omega)]
    simp
  have g2 : (P ++ (Ce.l L :: Ce.t [.d (.str "list"), .c P.length] :: Y)).set P.length (.f L) = P ++ (.f L :: .t [.d (.str "list"), .c P.length] :: Y) := by
    rw [List.set_append_right _ _ (by omega)]
    simp
  simp only [frz, g1, frzs0, frz0, bnd, g0, g2, DL.ret]
def tC (P : List Ce) (L : List D) : List Ce := [.l L, .t [.d (.str "list"), .c P.length]]
theorem quo_at {f : M (List Vl)} {s s1 : S} {a o : List Int} (hf : f s = .ok [.d (il a), .d (il o)] s1) (ba : Bdd (10 ^ 30) a) (la : a.length ≤ 63) (bo : Bdd (10 ^ 30) o) (lo : o.length ≤ 63) : (fDef g_quotient f) s = (match fbad (grp (uts a)) (grp (uts o)) (srt ((grp (uts o)).map (·.1))) with
    | some (h, n) => .ok (.d (.tuple [.str "leader", .int h, .int (n : Int)])) s1
    | none => .ok (.c (s1.ce.length + 1)) ⟨s1.sl, s1.ce ++ tC s1.ce ((qt a o).map .int)⟩) := by
  have hq := quotient_okc ba la bo lo
  unfold qtV at hq
  obtain ⟨sl, ce⟩ := s1
  cases hb : fbad (grp (uts a)) (grp (uts o)) (srt ((grp (uts o)).map (·.1))) with
  | some q =>
    obtain ⟨h, n⟩ := q
    rw [hb] at hq
    simp only at hq
    simp [x_fDef, x_bnd, hf, x_callD, cellsOf, picks, renum, hq, putB]
  | none =>
    rw [hb] at hq
    simp only at hq
    simp [x_fDef, x_bnd, hf, x_callD, cellsOf, picks, renum, hq, putB, callT, tC]
theorem frz_quo {f : M (List Vl)} {s s1 : S} {a o : List Int} (hf : f s = .ok [.d (il a), .d (il o)] s1) (hs : s1 = s) (ba : Bdd (10 ^ 30) a) (la : a.length ≤ 63) (bo : Bdd (10 ^ 30) o) (lo : o.length ≤ 63) : (fFrz (fDef g_quotient f)) s = .ok (.d (qtR a o)) ⟨s.sl, s.ce.map kl⟩ := by
  have h := quo_at hf ba la bo lo
  subst hs
  obtain ⟨sl, ce⟩ := s1
  unfold qtR
  cases hb : fbad (grp (uts a)) (grp (uts o)) (srt ((grp (uts o)).map (·.1))) with
  | some q =>
    obtain ⟨k, n⟩ := q
    rw [hb] at h
    simp only at h
    simp [x_fFrz, x_bnd, h, x_frz, cutC]
  | none =>
    rw [hb] at h
    simp only at h
    have hz := frz_t (sl := sl) (P := ce) (L := (qt a o).map .int) (Y := [])
    have e : ce ++ tC ce ((qt a o).map .int) = ce ++ (.l ((qt a o).map .int) :: .t [.d (.str "list"), .c ce.length] :: []) := rfl
    rw [e] at h
    simp only [x_fFrz, x_bnd, h, hz]
    simp [cutC]
theorem frzN_quo {f : M (List Vl)} {s s1 : S} {a o : List Int} (hf : f s = .ok [.d (il a), .d (il o)] s1) (ba : Bdd (10 ^ 30) a) (la : a.length ≤ 63) (bo : Bdd (10 ^ 30) o) (lo : o.length ≤ 63) : ∃ Y, (fFrzN (fDef g_quotient f)) s = .ok (.d (qtR a o)) ⟨s1.sl, s1.ce ++ Y⟩ := by
  have h := quo_at hf ba la bo lo
  obtain ⟨sl, ce⟩ := s1
  unfold qtR
  cases hb : fbad (grp (uts a)) (grp (uts o)) (srt ((grp (uts o)).map (·.1))) with
  | some q =>
    obtain ⟨k, n⟩ := q
    rw [hb] at h
    simp only at h
    exact ⟨[], by simp [x_fFrzN, x_bnd, h, x_frz, x_ret]⟩
  | none =>
    rw [hb] at h
    simp only at h
    have hz := frz_t (sl := sl) (P := ce) (L := (qt a o).map .int) (Y := [])
    have e : ce ++ tC ce ((qt a o).map .int) = ce ++ (.l ((qt a o).map .int) :: .t [.d (.str "list"), .c ce.length] :: []) := rfl
    rw [e] at h
    exact ⟨_, by simp only [x_fFrzN, x_bnd, h, hz, x_ret]; rfl⟩

theorem kl_kl (c : Ce) : kl (kl c) = kl c := by cases c <;> rfl
theorem rst_app {sl sl' : List (Option Vl)} {P Q Y Z : List Ce} (h : P.length = Q.length) : DL.rst ⟨sl, P ++ Y⟩ ⟨sl', Q ++ Z⟩ = ⟨sl, List.zipWith rstC P Q ++ List.zipWith rstC Y Z⟩ := by
  unfold DL.rst
  rw [List.zipWith_append h]
theorem rst_st {st : List D} (h : st.all flat = true) (ex : List Ce) : List.zipWith rstC (.l st :: ex) ((Ce.l st :: ex).map kl) = .l st :: List.zipWith rstC ex (ex.map kl) := by
  simp [kl, rstC, h]
theorem ints_flat (L : List Int) : (L.map PyData.int).all flat = true := by
  rw [List.all_eq_true]
  intro x hx
  obtain ⟨i, _, rfl⟩ := List.mem_map.mp hx
  rfl
/-- both texts are alike -/
theorem tst_ok {x0 x1 x2 x7 x9 : Option Vl} {wh ot q : D} {C C' : List Ce} (hk : okR (.list [wh, ot]) = true) (hq : okR (.list [q, q]) = true)
    (hz : (fFrz (fVar 7)) ⟨[x0, x1, x2, some (.d wh), some (.d ot), some (.d (.str (PyData.list [wh, ot]).shown)), some (.d q), x7, some (.d q), x9], C⟩ = .ok (.d q) ⟨[x0, x1, x2, some (.d wh), some (.d ot), some (.d (.str (PyData.list [wh, ot]).shown)), some (.d q), x7, some (.d q), x9], C'⟩) :
    (fIf (fRstT (fOr (fTest (fOp oNeG (fCall oRepr (fCons (fDat (fLst (fCons (fFrz (fVar 7)) (fCons (fVar 8) fNil)))) fNil)) (fCall oRepr (fCons (fDat (fLst (fCons (fVar 6) (fCons (fVar 6) fNil)))) fNil)))) (fTest (fOp oNeG (fCall oRepr (fCons (fDat (fLst (fCons (fVar 3) (fCons (fVar 4) fNil)))) fNil)) (fVar 5))))) (fRet (fC (.bool false))) fNext) ⟨[x0, x1, x2, some (.d wh), some (.d ot), some (.d (.str (PyData.list [wh, ot]).shown)), some (.d q), x7, some (.d q), x9], C⟩ = .ok .nx (DL.rst ⟨[x0, x1, x2, some (.d wh), some (.d ot), some (.d (.str (PyData.list [wh, ot]).shown)), some (.d q), x7, some (.d q), x9], C⟩ ⟨[x0, x1, x2, some (.d wh), some (.d ot), some (.d (.str (PyData.list [wh, ot]).shown)), some (.d q), x7, some (.d q), x9], C'⟩) := by
  generalize hS : (PyData.list [wh, ot]).shown = k at *
  have t1 : ∀ (f g : M Vl) (s s' : S) (t : Str), f s = .ok (.d (.str t)) s' → g s' = .ok (.d (.str t)) s' → (fTest (fOp oNeG f g)) s = .ok false s' := fun f g s s' t e1 e2 => by
    simp [x_fTest, x_fOp, x_bnd, e1, e2, x_gets, oNeG, orO, oNeS, x_asB, x_ret]
  generalize hT : (PyData.list [q, q]).shown = t
  have r1 : (fCall oRepr (fCons (fDat (fLst (fCons (fFrz (fVar 7)) (fCons (fVar 8) fNil)))) fNil)) ⟨[x0, x1, x2, some (.d wh), some (.d ot), some (.d (.str k)), some (.d q), x7, some (.d q), x9], C⟩ = .ok (.d (.str t)) ⟨[x0, x1, x2, some (.d wh), some (.d ot), some (.d (.str k)), some (.d q), x7, some (.d q), x9], C'⟩ := by
    simp [x_fCall, x_bnd, x_fCons, x_fDat, x_fLst, hz, x_fVar, x_fNil, x_ret, x_frzs1, x_frzs0, x_frz, x_gets, oRepr, dat, hq, hT]
  have r2 : (fCall oRepr (fCons (fDat (fLst (fCons (fVar 6) (fCons (fVar 6) fNil)))) fNil)) ⟨[x0, x1, x2, some (.d wh), some (.d ot), some (.d (.str k)), some (.d q), x7, some (.d q), x9], C'⟩ = .ok (.d (.str t)) ⟨[x0, x1, x2, some (.d wh), some (.d ot), some (.d (.str k)), some (.d q), x7, some (.d q), x9], C'⟩ := by
    simp [x_fCall, x_bnd, x_fCons, x_fDat, x_fLst, x_fVar, x_fNil, x_ret, x_frzs1, x_frzs0, x_frz, x_gets, oRepr, dat, hq, hT]
  have r3 : (fCall oRepr (fCons (fDat (fLst (fCons (fVar 3) (fCons (fVar 4) fNil)))) fNil)) ⟨[x0, x1, x2, some (.d wh), some (.d ot), some (.d (.str k)), some (.d q), x7, some (.d q), x9], C'⟩ = .ok (.d (.str k)) ⟨[x0, x1, x2, some (.d wh), some (.d ot), some (.d (.str k)), some (.d q), x7, some (.d q), x9], C'⟩ := by
    simp [x_fCall, x_bnd, x_fCons, x_fDat, x_fLst, x_fVar, x_fNil, x_ret, x_frzs1, x_frzs0, x_frz, x_gets, oRepr, dat, hk, hS]
  have u1 := t1 _ _ _ _ _ r1 r2
  have u2 := t1 _ (fVar 5) _ _ _ r3 (by simp [x_fVar])
  simp only [x_fIf, x_bnd, x_fRstT, x_fOr, u1, u2, Bool.false_eq_true, if_false, x_fNext]
theorem tst2_ok {x0 x1 x2 x7 x9 : Option Vl} {wh ot q : D} {C : List Ce} (hk : okR (.list [wh, ot]) = true) (hq : okE q = true) (he : PyData.eqv q q = true) :
    (fIf (fOr (fTest (fOp oNeG (fVar 8) (fVar 6))) (fTest (fOp oNeG (fCall oRepr (fCons (fDat (fLst (fCons (fVar 3) (fCons (fVar 4) fNil)))) fNil)) (fVar 5)))) (fRet (fC (.bool false))) fNext) ⟨[x0, x1, x2, some (.d wh), some (.d ot), some (.d (.str (PyData.list [wh, ot]).shown)), some (.d q), x7, some (.d q), x9], C⟩ = .ok .nx ⟨[x0, x1, x2, some (.d wh), some (.d ot), some (.d (.str (PyData.list [wh, ot]).shown)), some (.d q), x7, some (.d q), x9], C⟩ := by
  generalize hS : (PyData.list [wh, ot]).shown = k at *
  have hn : ∀ s : S, oNeG (.d q) (.d q) s = some (.d (.bool false)) := fun s => by
    cases q <;> simp [oNeG, orO, oNeS, oNe, dat, hq, he]
  have u1 : (fTest (fOp oNeG (fVar 8) (fVar 6))) ⟨[x0, x1, x2, some (.d wh), some (.d ot), some (.d (.str k)), some (.d q), x7, some (.d q), x9], C⟩ = .ok false ⟨[x0, x1, x2, some (.d wh), some (.d ot), some (.d (.str k)), some (.d q), x7, some (.d q), x9], C⟩ := by
    simp [x_fTest, x_fOp, x_bnd, x_fVar, x_gets, hn, x_asB, x_ret]
  have u2 : (fTest (fOp oNeG (fCall oRepr (fCons (fDat (fLst (fCons (fVar 3) (fCons (fVar 4) fNil)))) fNil)) (fVar 5))) ⟨[x0, x1, x2, some (.d wh), some (.d ot), some (.d (.str k)), some (.d q), x7, some (.d q), x9], C⟩ = .ok false ⟨[x0, x1, x2, some (.d wh), some (.d ot), some (.d (.str k)), some (.d q), x7, some (.d q), x9], C⟩ := by
    simp [x_fTest, x_fOp, x_fCall, x_bnd, x_fCons, x_fDat, x_fLst, x_fVar, x_fNil, x_ret, x_frzs1, x_frzs0, x_frz, x_gets, oRepr, dat, hk, hS, oNeG, orO, oNeS, x_asB]
  simp only [x_fIf, x_bnd, x_fOr, u1, u2, Bool.false_eq_true, if_false, x_fNext]
theorem par_ok {i j : Nat} {f g : M Vl} {s s1 s2 : S} {x y : Vl} (h1 : f s = .ok x s1) (h2 : g s1 = .ok y s2) : fPar i j (fCons f (fCons g fNil)) s = .ok .nx ⟨(s2.sl.set i (some x)).set j (some y), s2.ce⟩ := by
  simp [x_fPar, x_bnd, x_fCons, h1, h2, x_fNil, x_ret, x_kName]
def Good (l : List Int) : Prop := l.length ≤ 63 ∧ Bdd (10 ^ 30) l ∧ Hb l
theorem okR_2 {a b : List Int} (ha : Good a) (hb : Good b) : okR (.list [il a, il b]) = true := by
  have : Sm 2 6000 (.list [il a, il b]) := by
    refine (Sm.list (k := 1) (w := 2775) (n := 2) (fun x hx => ?_) (by simp)).mono (by decide) (by decide)
    simp only [List.mem_cons, List.not_mem_nil, or_false] at hx
    rcases hx with rfl | rfl
    · exact (Sm.il ha.2.1 ha.1).mono (by decide) (by decide)
    · exact (Sm.il hb.2.1 hb.1).mono (by decide) (by decide)
  exact this.reprOk
theorem okR_qq {q : D} (h : Sm 2 6000 q) : okR (.list [q, q]) = true := by
  have : Sm 3 13000 (.list [q, q]) := by
    refine (Sm.list (k := 2) (w := 6000) (n := 2) (fun x hx => ?_) (by simp)).mono (by decide) (by decide)
    simp only [List.mem_cons, List.not_mem_nil, or_false] at hx
    rcases hx with rfl | rfl <;> exact h
  exact this.reprOk
theorem bdd_sub {b : Nat} {l m : List Int} (h : Bdd b l) (hs : m.Sublist l) : Bdd b m := fun z hz => h z (hs.subset hz)
/-- one turn of the loop -/
theorem one_turn {a o : List Int} {A F : D} (ga : Good a) (go : Good o) {st : List D} (hst : st.all flat = true) {ex : List Ce} {a4 a5 a6 a7 a8 a9 : Option Vl} : ∃ b7 b9 ex', bnd (K0__law_right (.d (il o))) (fun _ => B0__law_right) ⟨[some (.c 0), some (.d A), some (.d F), some (.d (il a)), a4, a5, a6, a7, a8, a9], .l st :: ex⟩ = .ok .nx ⟨[some (.c 0), some (.d A), some (.d F), some (.d (il a)), some (.d (il o)), some (.d (.str (PyData.list [il a, il o]).shown)), some (.d (qtR a o)), b7, some (.d (qtR a o)), b9], .l st :: ex'⟩ := by
  obtain ⟨la, ba, ha⟩ := id ga
  obtain ⟨lo, bo, ho⟩ := id go
  have hd := law_due_ok la lo (by have := ha.heads; have := ho.heads; omega)
  have hk := okR_2 ga go
  have s1 : (fAsg (fCall oRepr (fCons (fDat (fLst (fCons (fVar 3) (fCons (fVar 4) fNil)))) fNil)) (kName 5)) ⟨[some (.c 0), some (.d A), some (.d F), some (.d (il a)), some (.d (il o)), a5, a6, a7, a8, a9], .l st :: ex⟩ = .ok .nx ⟨[some (.c 0), some (.d A), some (.d F), some (.d (il a)), some (.d (il o)), some (.d (.str (PyData.list [il a, il o]).shown)), a6, a7, a8, a9], .l st :: ex⟩ := by
    generalize hX : il a = X at *
    generalize hY : il o = Y at *
    simp [x_fAsg, x_fCall, x_bnd, x_fCons, x_fDat, x_fLst, x_fVar, x_fNil, x_ret, x_frzs1, x_frzs0, x_frz, x_gets, oRepr, dat, hk, x_kName]
  generalize hS : (PyData.list [il a, il o]).shown = k at *
  have s2 : (fAsg (fDef g__law_due (fCons (fVar 3) (fCons (fVar 4) fNil))) (kName 6)) ⟨[some (.c 0), some (.d A), some (.d F), some (.d (il a)), some (.d (il o)), some (.d (.str k)), a6, a7, a8, a9], .l st :: ex⟩ = .ok .nx ⟨[some (.c 0), some (.d A), some (.d F), some (.d (il a)), some (.d (il o)), some (.d (.str k)), some (.d (qtR a o)), a7, a8, a9], .l st :: ex⟩ := by
    generalize qtR a o = q at *
    simp [x_bnd, x_ret, x_stuck, x_gets, x_fVar, x_fC, x_fOp, x_fNil, x_fCons, x_fCall, x_fDat, x_fCell, x_fLst, x_fTup, x_fTest, x_fTru, x_fAnd, x_fOr, x_fNot, x_fIf, x_asB, x_fAndV, x_fOrV, x_fNotV, x_fIsN, x_fNotN, x_frz, x_frzs0, x_frzs1, x_fFrz, x_fSeq, x_fNext, x_fExpr, x_fRet, x_fRetN, x_fAsg, x_kName, x_fPar, x_kNil, x_kCons, x_kTup, x_kSub, x_setIt, x_needL, x_upC, x_fApp, x_fPopAt, x_fPop, x_fSl, x_fNoP, x_fP, x_fDef, x_callD, x_fPerm, x_fIsi, x_fNeg, x_asL, x_asLt, x_asT, x_fItL, x_fItT, x_orI, x_fRng1, x_fRng2, x_fEnum, x_fZip, x_fFor, x_forL0, x_fAug, x_fYes, x_lcT, x_fRstT, x_fRstV, x_ite, oIx, cutC, kl, Ce.lone, x_fCellV, x_fAppV, x_needV, x_upV, oIxV, x_fDNew, x_fSetdL, x_needW, x_setdL, x_fSrtS, x_fToM, x_fItems, x_fGet2, x_fDSub, x_needD, oGet2, oDSub, dictOf, keyD, oSortG, oSortP, orF, oCatT, oStr, x_fCount, x_fIndex, x_fRev, x_fPar3, datL, dat, oAdd, orO, oI, oInt, oPowW, oIC, oMod, cPos, oDiv, cDiv, endF, oAddI, oSub, oLt, oLe, oGt, oGe, oMul, oMulG, oRepD, oRep, oI2, oMin2, oMax2, oMinL, oMaxL, oAll, oAny, oBools, oIn, oNotIn, oInD, oInSg, x_fChain, intsA, cellsOf, picks, renum, putB, Ce.alive, oSl, slOr, oSlD, oSlL, oLenG, orA, oLen, tru, permL, oSumL, oCatD, datO, oCat, oList, oRepr, oTuple, DL.isNon, oSlT, oSlS, oAddS, oEqG, oNeG, oEqS, oNeS, oEq, oNe, x_fRaise, x_fFrzL, x_frzL, x_fItemsI, x_fValsI, x_fKeysI, x_fDNewM, x_fDPut, x_putC, x_fL6, dsOf, oSortK, intKeys, x_fDSub, x_fTupC, x_fFrzN, oIxT, callT, endT, hd]
  have f1 : (fCons (fVar 3) (fCons (fVar 4) fNil)) ⟨[some (.c 0), some (.d A), some (.d F), some (.d (il a)), some (.d (il o)), some (.d (.str k)), some (.d (qtR a o)), a7, a8, a9], .l st :: ex⟩ = .ok [.d (il a), .d (il o)] ⟨[some (.c 0), some (.d A), some (.d F), some (.d (il a)), some (.d (il o)), some (.d (.str k)), some (.d (qtR a o)), a7, a8, a9], .l st :: ex⟩ := by
    simp [x_fCons, x_bnd, x_fVar, x_fNil, x_ret]
  have q1 := quo_at f1 ba la bo lo
  have f2 : ∀ C, (fPerm [1, 0] (fCons (fVar 4) (fCons (fVar 3) fNil))) ⟨[some (.c 0), some (.d A), some (.d F), some (.d (il a)), some (.d (il o)), some (.d (.str k)), some (.d (qtR a o)), a7, a8, a9], C⟩ = .ok [.d (il a), .d (il o)] ⟨[some (.c 0), some (.d A), some (.d F), some (.d (il a)), some (.d (il o)), some (.d (.str k)), some (.d (qtR a o)), a7, a8, a9], C⟩ := fun C => by
    simp [x_fPerm, x_fCons, x_bnd, x_fVar, x_fNil, x_ret, permL]
  have q2 := fun C => frzN_quo (f2 C) ba la bo lo
  simp only [x_bnd, x_kName, List.set_cons_succ, List.set_cons_zero, B0__law_right, x_fSeq, s1, s2]
  have hz7 : ∀ (x : Vl) (C : List Ce), (fVar 7) ⟨[some (.c 0), some (.d A), some (.d F), some (.d (il a)), some (.d (il o)), some (.d (.str k)), some (.d (qtR a o)), some x, some (.d (qtR a o)), a9], C⟩ = .ok x ⟨[some (.c 0), some (.d A), some (.d F), some (.d (il a)), some (.d (il o)), some (.d (.str k)), some (.d (qtR a o)), some x, some (.d (qtR a o)), a9], C⟩ := fun x C => by simp [x_fVar]
  cases hb : fbad (grp (uts a)) (grp (uts o)) (srt ((grp (uts o)).map (·.1))) with
  | some p =>
    obtain ⟨h, n⟩ := p
    have eq : qtR a o = .tuple [.str "leader", .int h, .int (n : Int)] := by unfold qtR; rw [hb]
    have hp := fbad_some hb
    rw [lk_grp, lk_grp] at hp
    have hn := pdif_lt hp
    have hn2 := W_len o h
    have hh : h ∈ o := W_in (fun z => by rw [z] at hn; simp at hn)
    have sm : Sm 2 6000 (qtR a o) := by rw [eq]; exact sm_lead (bo h hh) (by omega)
    have ee : PyData.eqv (qtR a o) (qtR a o) = true := by rw [eq]; exact eqv_lead h n
    rw [hb] at q1
    simp only [← eq] at q1
    obtain ⟨Y, q2'⟩ := q2 (.l st :: ex)
    have s3 : (fPar 7 8 (fCons (fDef g_quotient (fCons (fVar 3) (fCons (fVar 4) fNil))) (fCons (fFrzN (fDef g_quotient (fPerm [1, 0] (fCons (fVar 4) (fCons (fVar 3) fNil))))) fNil))) ⟨[some (.c 0), some (.d A), some (.d F), some (.d (il a)), some (.d (il o)), some (.d (.str k)), some (.d (qtR a o)), a7, a8, a9], .l st :: ex⟩ = .ok .nx ⟨[some (.c 0), some (.d A), some (.d F), some (.d (il a)), some (.d (il o)), some (.d (.str k)), some (.d (qtR a o)), some (.d (qtR a o)), some (.d (qtR a o)), a9], .l st :: (ex ++ Y)⟩ := by
      refine (par_ok q1 q2').trans ?_
      simp [List.cons_append]
    have s4 := tst_ok (x0 := some (.c 0)) (x1 := some (.d A)) (x2 := some (.d F)) (x7 := some (.d (qtR a o))) (x9 := a9) (wh := il a) (ot := il o) (q := qtR a o) (C := .l st :: (ex ++ Y)) (C' := (Ce.l st :: (ex ++ Y)).map kl) hk (okR_qq sm) (by
      rw [hS]
      simp only [x_fFrz, x_bnd, hz7, x_frz, cutC]
      rw [List.take_of_length_le (Nat.le_refl _)])
    have s6 := fun C => tst2_ok (x0 := some (.c 0)) (x1 := some (.d A)) (x2 := some (.d F)) (x7 := some (.d (qtR a o))) (x9 := a9) (wh := il a) (ot := il o) (q := qtR a o) (C := C) hk sm.eqOk ee
    rw [hS] at s4
    simp only [hS] at s6
    refine ⟨some (.d (qtR a o)), a9, List.zipWith rstC (ex ++ Y) ((ex ++ Y).map kl), ?_⟩
    have s4' : DL.rst ⟨[some (.c 0), some (.d A), some (.d F), some (.d (il a)), some (.d (il o)), some (.d (.str k)), some (.d (qtR a o)), some (.d (qtR a o)), some (.d (qtR a o)), a9], .l st :: (ex ++ Y)⟩ ⟨[some (.c 0), some (.d A), some (.d F), some (.d (il a)), some (.d (il o)), some (.d (.str k)), some (.d (qtR a o)), some (.d (qtR a o)), some (.d (qtR a o)), a9], (Ce.l st :: (ex ++ Y)).map kl⟩ = ⟨[some (.c 0), some (.d A), some (.d F), some (.d (il a)), some (.d (il o)), some (.d (.str k)), some (.d (qtR a o)), some (.d (qtR a o)), some (.d (qtR a o)), a9], .l st :: List.zipWith rstC (ex ++ Y) ((ex ++ Y).map kl)⟩ := by
      unfold DL.rst
      rw [rst_st hst]
    rw [s4'] at s4
    have s5 : ∀ C, (fIf (fTest (fOp oEqG (fOp oIxT (fVar 7) (fC (.int 0))) (fC (.str "list")))) (fSeq (fAsg (fOp oIxT (fVar 7) (fC (.int 1))) (kName 9)) (fExpr (fApp (fVar 9) (fC .none)))) fNext) ⟨[some (.c 0), some (.d A), some (.d F), some (.d (il a)), some (.d (il o)), some (.d (.str k)), some (.d (qtR a o)), some (.d (qtR a o)), some (.d (qtR a o)), a9], C⟩ = .ok .nx ⟨[some (.c 0), some (.d A), some (.d F), some (.d (il a)), some (.d (il o)), some (.d (.str k)), some (.d (qtR a o)), some (.d (qtR a o)), some (.d (qtR a o)), a9], C⟩ := fun C => by
      have e7 : (fOp oIxT (fVar 7) (fC (.int 0))) ⟨[some (.c 0), some (.d A), some (.d F), some (.d (il a)), some (.d (il o)), some (.d (.str k)), some (.d (qtR a o)), some (.d (qtR a o)), some (.d (qtR a o)), a9], C⟩ = .ok (.d (.str "leader")) ⟨[some (.c 0), some (.d A), some (.d F), some (.d (il a)), some (.d (il o)), some (.d (.str k)), some (.d (qtR a o)), some (.d (qtR a o)), some (.d (qtR a o)), a9], C⟩ := by
        simp only [x_fOp, x_bnd, hz7]
        rw [eq]
        simp [x_bnd, x_ret, x_stuck, x_gets, x_fVar, x_fC, x_fOp, x_fNil, x_fCons, x_fCall, x_fDat, x_fCell, x_fLst, x_fTup, x_fTest, x_fTru, x_fAnd, x_fOr, x_fNot, x_fIf, x_asB, x_fAndV, x_fOrV, x_fNotV, x_fIsN, x_fNotN, x_frz, x_frzs0, x_frzs1, x_fFrz, x_fSeq, x_fNext, x_fExpr, x_fRet, x_fRetN, x_fAsg, x_kName, x_fPar, x_kNil, x_kCons, x_kTup, x_kSub, x_setIt, x_needL, x_upC, x_fApp, x_fPopAt, x_fPop, x_fSl, x_fNoP, x_fP, x_fDef, x_callD, x_fPerm, x_fIsi, x_fNeg, x_asL, x_asLt, x_asT, x_fItL, x_fItT, x_orI, x_fRng1, x_fRng2, x_fEnum, x_fZip, x_fFor, x_forL0, x_fAug, x_fYes, x_lcT, x_fRstT, x_fRstV, x_ite, oIx, cutC, kl, Ce.lone, x_fCellV, x_fAppV, x_needV, x_upV, oIxV, x_fDNew, x_fSetdL, x_needW, x_setdL, x_fSrtS, x_fToM, x_fItems, x_fGet2, x_fDSub, x_needD, oGet2, oDSub, dictOf, keyD, oSortG, oSortP, orF, oCatT, oStr, x_fCount, x_fIndex, x_fRev, x_fPar3, datL, dat, atI, ixN, oAdd, orO, oI, oInt, oPowW, oIC, oMod, cPos, oDiv, cDiv, endF, oAddI, oSub, oLt, oLe, oGt, oGe, oMul, oMulG, oRepD, oRep, oI2, oMin2, oMax2, oMinL, oMaxL, oAll, oAny, oBools, oIn, oNotIn, oInD, oInSg, x_fChain, intsA, cellsOf, picks, renum, putB, Ce.alive, oSl, slOr, oSlD, oSlL, oLenG, orA, oLen, tru, permL, oSumL, oCatD, datO, oCat, oList, oRepr, oTuple, DL.isNon, oSlT, oSlS, oAddS, oEqG, oNeG, oEqS, oNeS, oEq, oNe, x_fRaise, x_fFrzL, x_frzL, x_fItemsI, x_fValsI, x_fKeysI, x_fDNewM, x_fDPut, x_putC, x_fL6, dsOf, oSortK, intKeys, x_fDSub, x_fTupC, x_fFrzN, oIxT, callT, endT]
      simp only [x_fIf, x_fTest, x_bnd, x_fOp] at e7 ⊢
      simp only [e7]
      simp [x_bnd, x_ret, x_stuck, x_gets, x_fVar, x_fC, x_fOp, x_fNil, x_fCons, x_fCall, x_fDat, x_fCell, x_fLst, x_fTup, x_fTest, x_fTru, x_fAnd, x_fOr, x_fNot, x_fIf, x_asB, x_fAndV, x_fOrV, x_fNotV, x_fIsN, x_fNotN, x_frz, x_frzs0, x_frzs1, x_fFrz, x_fSeq, x_fNext, x_fExpr, x_fRet, x_fRetN, x_fAsg, x_kName, x_fPar, x_kNil, x_kCons, x_kTup, x_kSub, x_setIt, x_needL, x_upC, x_fApp, x_fPopAt, x_fPop, x_fSl, x_fNoP, x_fP, x_fDef, x_callD, x_fPerm, x_fIsi, x_fNeg, x_asL, x_asLt, x_asT, x_fItL, x_fItT, x_orI, x_fRng1, x_fRng2, x_fEnum, x_fZip, x_fFor, x_forL0, x_fAug, x_fYes, x_lcT, x_fRstT, x_fRstV, x_ite, oIx, cutC, kl, Ce.lone, x_fCellV, x_fAppV, x_needV, x_upV, oIxV, x_fDNew, x_fSetdL, x_needW, x_setdL, x_fSrtS, x_fToM, x_fItems, x_fGet2, x_fDSub, x_needD, oGet2, oDSub, dictOf, keyD, oSortG, oSortP, orF, oCatT, oStr, x_fCount, x_fIndex, x_fRev, x_fPar3, datL, dat, atI, ixN, oAdd, orO, oI, oInt, oPowW, oIC, oMod, cPos, oDiv, cDiv, endF, oAddI, oSub, oLt, oLe, oGt, oGe, oMul, oMulG, oRepD, oRep, oI2, oMin2, oMax2, oMinL, oMaxL, oAll, oAny, oBools, oIn, oNotIn, oInD, oInSg, x_fChain, intsA, cellsOf, picks, renum, putB, Ce.alive, oSl, slOr, oSlD, oSlL, oLenG, orA, oLen, tru, permL, oSumL, oCatD, datO, oCat, oList, oRepr, oTuple, DL.isNon, oSlT, oSlS, oAddS, oEqG, oNeG, oEqS, oNeS, oEq, oNe, x_fRaise, x_fFrzL, x_frzL, x_fItemsI, x_fValsI, x_fKeysI, x_fDNewM, x_fDPut, x_putC, x_fL6, dsOf, oSortK, intKeys, x_fDSub, x_fTupC, x_fFrzN, oIxT, callT, endT, eq_str, okE, noD, SeqAt.shaped, PyData.canLay0, PyData.depth, ne_ll]
    simp only [s3, s4, s5, s6]
  | none =>
    have eq : qtR a o = .tuple [.str "list", il (qt a o)] := by unfold qtR; rw [hb]
    have hsub := qt_sub a o
    have hln := hsub.length_le
    have sm : Sm 2 6000 (qtR a o) := by rw [eq]; exact sm_lst (bdd_sub ba hsub) (by omega)
    have ee : PyData.eqv (qtR a o) (qtR a o) = true := by rw [eq]; exact eqv_lst _
    rw [hb] at q1
    simp only at q1
    obtain ⟨Y, q2'⟩ := q2 (Ce.l st :: ex ++ tC (.l st :: ex) ((qt a o).map .int))
    generalize hL : (qt a o).map PyData.int = L at *
    have hfl : L.all flat = true := by rw [← hL]; exact ints_flat _
    have eq' : qtR a o = .tuple [.str "list", .list L] := by rw [eq, ← hL]
    have lL : L.length < 1000000 := by rw [← hL, List.length_map]; omega
    generalize hP : Ce.l st :: ex = P at *
    have s3 : (fPar 7 8 (fCons (fDef g_quotient (fCons (fVar 3) (fCons (fVar 4) fNil))) (fCons (fFrzN (fDef g_quotient (fPerm [1, 0] (fCons (fVar 4) (fCons (fVar 3) fNil))))) fNil))) ⟨[some (.c 0), some (.d A), some (.d F), some (.d (il a)), some (.d (il o)), some (.d (.str k)), some (.d (qtR a o)), a7, a8, a9], P⟩ = .ok .nx ⟨[some (.c 0), some (.d A), some (.d F), some (.d (il a)), some (.d (il o)), some (.d (.str k)), some (.d (qtR a o)), some (.c (P.length + 1)), some (.d (qtR a o)), a9], P ++ (.l L :: .t [.d (.str "list"), .c P.length] :: Y)⟩ := by
      refine (par_ok q1 q2').trans ?_
      simp [tC]
    have hz := frz_t (sl := [some (.c 0), some (.d A), some (.d F), some (.d (il a)), some (.d (il o)), some (.d (.str k)), some (.d (qtR a o)), some (.c (P.length + 1)), some (.d (qtR a o)), a9]) (P := P) (L := L) (Y := Y)
    have s4 := tst_ok (x0 := some (.c 0)) (x1 := some (.d A)) (x2 := some (.d F)) (x7 := some (.c (P.length + 1))) (x9 := a9) (wh := il a) (ot := il o) (q := qtR a o) (C := P ++ (.l L :: .t [.d (.str "list"), .c P.length] :: Y)) (C' := P.map kl ++ (.f L :: .g :: Y.map kl)) hk (okR_qq sm) (by
      rw [hS]
      simp only [x_fFrz, x_bnd, hz7, hz, ← eq']
      congr 2
      unfold cutC
      rw [List.take_of_length_le (by simp)]
      simp [kl])
    rw [hS] at s4
    rw [rst_app (by simp)] at s4
    have s6 := fun C x9 => tst2_ok (x0 := some (.c 0)) (x1 := some (.d A)) (x2 := some (.d F)) (x7 := some (.c (P.length + 1))) (x9 := x9) (wh := il a) (ot := il o) (q := qtR a o) (C := C) hk sm.eqOk ee
    simp only [hS] at s6
    obtain ⟨R, hR⟩ : ∃ R, List.zipWith rstC P (P.map kl) = .l st :: R := ⟨_, by rw [← hP]; exact rst_st hst ex⟩
    have hRl : (Ce.l st :: R).length = P.length := by rw [← hR]; simp
    have s5z : List.zipWith rstC (.l L :: .t [.d (.str "list"), .c P.length] :: Y) (.f L :: .g :: Y.map kl) = .l L :: .t [.d (.str "list"), .c P.length] :: List.zipWith rstC Y (Y.map kl) := by
      simp [rstC, hfl]
    rw [hR, s5z] at s4
    refine ⟨some (.c (P.length + 1)), some (.c P.length), R ++ (.l (L ++ [.none]) :: .t [.d (.str "list"), .c P.length] :: List.zipWith rstC Y (Y.map kl)), ?_⟩
    generalize List.zipWith rstC Y (Y.map kl) = Z at s4 ⊢
    have s5 : (fIf (fTest (fOp oEqG (fOp oIxT (fVar 7) (fC (.int 0))) (fC (.str "list")))) (fSeq (fAsg (fOp oIxT (fVar 7) (fC (.int 1))) (kName 9)) (fExpr (fApp (fVar 9) (fC .none)))) fNext) ⟨[some (.c 0), some (.d A), some (.d F), some (.d (il a)), some (.d (il o)), some (.d (.str k)), some (.d (qtR a o)), some (.c (P.length + 1)), some (.d (qtR a o)), a9], Ce.l st :: R ++ (.l L :: .t [.d (.str "list"), .c P.length] :: Z)⟩ = .ok .nx ⟨[some (.c 0), some (.d A), some (.d F), some (.d (il a)), some (.d (il o)), some (.d (.str k)), some (.d (qtR a o)), some (.c (P.length + 1)), some (.d (qtR a o)), some (.c P.length)], Ce.l st :: R ++ (.l (L ++ [.none]) :: .t [.d (.str "list"), .c P.length] :: Z)⟩ := by
      generalize Ce.l st :: R = Q at hRl ⊢
      have g1 : (Q ++ (Ce.l L :: Ce.t [.d (.str "list"), .c P.length] :: Z))[P.length + 1]? = some (.t [.d (.str "list"), .c P.length]) := by
        rw [List.getElem?_append_right (by omega), hRl]
        simp
      have g0 : (Q ++ (Ce.l L :: Ce.t [.d (.str "list"), .c P.length] :: Z))[P.length]? = some (.l L) := by
        rw [List.getElem?_append_right (by omega), hRl]
        simp
      have g2 : ∀ c, (Q ++ (Ce.l L :: Ce.t [.d (.str "list"), .c P.length] :: Z)).set P.length c = Q ++ (c :: .t [.d (.str "list"), .c P.length] :: Z) := fun c => by
        rw [List.set_append_right _ _ (by omega), hRl]
        simp
      generalize qtR a o = q at *
      generalize Q ++ (Ce.l L :: Ce.t [.d (.str "list"), .c P.length] :: Z) = C at g0 g1 g2 ⊢
      simp [x_bnd, x_ret, x_stuck, x_gets, x_fVar, x_fC, x_fOp, x_fNil, x_fCons, x_fCall, x_fDat, x_fCell, x_fLst, x_fTup, x_fTest, x_fTru, x_fAnd, x_fOr, x_fNot, x_fIf, x_asB, x_fAndV, x_fOrV, x_fNotV, x_fIsN, x_fNotN, x_frz, x_frzs0, x_frzs1, x_fFrz, x_fSeq, x_fNext, x_fExpr, x_fRet, x_fRetN, x_fAsg, x_kName, x_fPar, x_kNil, x_kCons, x_kTup, x_kSub, x_setIt, x_needL, x_upC, x_fApp, x_fPopAt, x_fPop, x_fSl, x_fNoP, x_fP, x_fDef, x_callD, x_fPerm, x_fIsi, x_fNeg, x_asL, x_asLt, x_asT, x_fItL, x_fItT, x_orI, x_fRng1, x_fRng2, x_fEnum, x_fZip, x_fFor, x_forL0, x_fAug, x_fYes, x_lcT, x_fRstT, x_fRstV, x_ite, oIx, cutC, kl, Ce.lone, x_fCellV, x_fAppV, x_needV, x_upV, oIxV, x_fDNew, x_fSetdL, x_needW, x_setdL, x_fSrtS, x_fToM, x_fItems, x_fGet2, x_fDSub, x_needD, oGet2, oDSub, dictOf, keyD, oSortG, oSortP, orF, oCatT, oStr, x_fCount, x_fIndex, x_fRev, x_fPar3, datL, dat, atI, ixN, oAdd, orO, oI, oInt, oPowW, oIC, oMod, cPos, oDiv, cDiv, endF, oAddI, oSub, oLt, oLe, oGt, oGe, oMul, oMulG, oRepD, oRep, oI2, oMin2, oMax2, oMinL, oMaxL, oAll, oAny, oBools, oIn, oNotIn, oInD, oInSg, x_fChain, intsA, cellsOf, picks, renum, putB, Ce.alive, oSl, slOr, oSlD, oSlL, oLenG, orA, oLen, tru, permL, oSumL, oCatD, datO, oCat, oList, oRepr, oTuple, DL.isNon, oSlT, oSlS, oAddS, oEqG, oNeG, oEqS, oNeS, oEq, oNe, x_fRaise, x_fFrzL, x_frzL, x_fItemsI, x_fValsI, x_fKeysI, x_fDNewM, x_fDPut, x_putC, x_fL6, dsOf, oSortK, intKeys, x_fDSub, x_fTupC, x_fFrzN, oIxT, callT, endT, g0, g1, g2, lL, eq_str, okE, noD, SeqAt.shaped, PyData.canLay0, PyData.depth]
    simp only [s3, s4, s5, s6]
    rfl

theorem cut_neg (xs : List D) : DL.cutD xs none (some (-1)) = xs.dropLast := by
  rcases List.eq_nil_or_concat xs with rfl | ⟨ys, y, rfl⟩
  · simp [DL.cutD]
  · rw [List.concat_eq_append, cut_last, List.dropLast_concat]
theorem rg_bdd {l : List Int} (h : Rg l) : Bdd (10 ^ 30) l := fun z hz => by
  have := h z hz
  have h1 : z.natAbs ≤ 15 := by omega
  exact Nat.le_trans h1 (by decide)
theorem dr_flat {n : Nat} {st : List D} (h : Dr n st) : st.all flat = true := by
  obtain ⟨x, k, b, rfl, _⟩ := h
  rfl
theorem qtR_pre {a f : List Int} (h : ∀ k, Wf f k <+: Wf a k) : qtR a f = .tuple [.str "list", il (qt a f)] := by
  unfold qtR
  rw [fbad_none fun k _ => by rw [lk_grp, lk_grp]; exact h k]
theorem qt_mrg (p m : List Int) : qtR (mrg p m) p = .tuple [.str "list", il m] := by
  rw [qtR_pre fun k => by rw [W_mrg]; exact List.prefix_append _ _]
  have : qt (mrg p m) p = m := W_ext fun h => by rw [qt_W, W_mrg, List.drop_left]
  rw [this]
theorem qt_self (p : List Int) : qtR p p = .tuple [.str "list", .list []] := by
  rw [qtR_pre fun k => List.prefix_refl _]
  have : qt p p = [] := W_ext fun h => by rw [qt_W, List.drop_length, W_nil]
  rw [this]
  rfl
theorem right_ok {n : Nat} {st : List D} (h : Dr (n + 492) st) : ∃ st', g__law_right [.c 0] [.l st] = .ok (.d (.bool true)) [.l st'] ∧ Dr n st' := by
  obtain ⟨v, st0, e0, _, _, d0⟩ := next_ok (n := n + 491) h
  obtain ⟨p, st1, e1, lp, bp, hp, d1⟩ : ∃ p st1, (fIf (fTest (fOp oEqG (fOp oMod (fCall oInt (fCons (fDef g__law_next (fCons (fVar 0) fNil)) fNil)) (fC (.int 3))) (fC (.int 0)))) (fDef g__law_drawn (fCons (fVar 0) (fCons (fC (.int 16)) fNil))) (fDef g__law_row (fCons (fVar 0) (fCons (fC (.int 6)) fNil)))) ⟨[some (.c 0), none, none, none, none, none, none, none, none, none], [.l st]⟩ = .ok (.d (il p)) ⟨[some (.c 0), none, none, none, none, none, none, none, none, none], [.l st1]⟩ ∧ p.length ≤ 18 ∧ Bdd (10 ^ 30) p ∧ Hb p ∧ Dr (n + 361) st1 := by
    by_cases hv : v % 3 = 0
    · obtain ⟨y, st5, f1, f2, f3, f4⟩ := drawn_ok (n := n + 361) (m := 16) (by decide) (by decide) (d0.mono (by omega))
      exact ⟨y, st5, by simp [x_bnd, x_ret, x_stuck, x_gets, x_fVar, x_fC, x_fOp, x_fNil, x_fCons, x_fCall, x_fDat, x_fCell, x_fLst, x_fTup, x_fTest, x_fTru, x_fAnd, x_fOr, x_fNot, x_fIf, x_asB, x_fAndV, x_fOrV, x_fNotV, x_fIsN, x_fNotN, x_frz, x_frzs0, x_frzs1, x_fFrz, x_fSeq, x_fNext, x_fExpr, x_fRet, x_fRetN, x_fAsg, x_kName, x_fPar, x_kNil, x_kCons, x_kTup, x_kSub, x_setIt, x_needL, x_upC, x_fApp, x_fPopAt, x_fPop, x_fSl, x_fNoP, x_fP, x_fDef, x_callD, x_fPerm, x_fIsi, x_fNeg, x_asL, x_asLt, x_asT, x_fItL, x_fItT, x_orI, x_fRng1, x_fRng2, x_fEnum, x_fZip, x_fFor, x_forL0, x_fAug, x_fYes, x_lcT, x_fRstT, x_fRstV, x_ite, oIx, cutC, kl, Ce.lone, x_fCellV, x_fAppV, x_needV, x_upV, oIxV, x_fDNew, x_fSetdL, x_needW, x_setdL, x_fSrtS, x_fToM, x_fItems, x_fGet2, x_fDSub, x_needD, oGet2, oDSub, dictOf, keyD, oSortG, oSortP, orF, oCatT, oStr, x_fCount, x_fIndex, x_fRev, x_fPar3, datL, dat, oAdd, orO, oI, oInt, oPowW, oIC, oMod, cPos, oDiv, cDiv, endF, oAddI, oSub, oLt, oLe, oGt, oGe, oMul, oMulG, oRepD, oRep, oI2, oMin2, oMax2, oMinL, oMaxL, oAll, oAny, oBools, oIn, oNotIn, oInD, oInSg, x_fChain, intsA, cellsOf, picks, renum, putB, Ce.alive, oSl, slOr, oSlD, oSlL, oLenG, orA, oLen, tru, permL, oSumL, oCatD, datO, oCat, oList, oRepr, oTuple, DL.isNon, oSlT, oSlS, oAddS, oEqG, oNeG, oEqS, oNeS, oEq, oNe, x_fRaise, x_fFrzL, x_frzL, x_fItemsI, x_fValsI, x_fKeysI, x_fDNewM, x_fDPut, x_putC, x_fL6, dsOf, oSortK, intKeys, x_fDSub, x_fTupC, x_fFrzN, oIxT, callT, endT, e0, hv, okE_int, eqv_ii, f1], by omega, bdd_mono f3 (by decide), Hb.small (by omega), f4⟩
    · obtain ⟨y, st5, f1, f2, f3, f4⟩ := row_ok (n := n + 361) (m := 6) (by decide) (by decide) (d0.mono (by omega))
      exact ⟨y, st5, by simp [x_bnd, x_ret, x_stuck, x_gets, x_fVar, x_fC, x_fOp, x_fNil, x_fCons, x_fCall, x_fDat, x_fCell, x_fLst, x_fTup, x_fTest, x_fTru, x_fAnd, x_fOr, x_fNot, x_fIf, x_asB, x_fAndV, x_fOrV, x_fNotV, x_fIsN, x_fNotN, x_frz, x_frzs0, x_frzs1, x_fFrz, x_fSeq, x_fNext, x_fExpr, x_fRet, x_fRetN, x_fAsg, x_kName, x_fPar, x_kNil, x_kCons, x_kTup, x_kSub, x_setIt, x_needL, x_upC, x_fApp, x_fPopAt, x_fPop, x_fSl, x_fNoP, x_fP, x_fDef, x_callD, x_fPerm, x_fIsi, x_fNeg, x_asL, x_asLt, x_asT, x_fItL, x_fItT, x_orI, x_fRng1, x_fRng2, x_fEnum, x_fZip, x_fFor, x_forL0, x_fAug, x_fYes, x_lcT, x_fRstT, x_fRstV, x_ite, oIx, cutC, kl, Ce.lone, x_fCellV, x_fAppV, x_needV, x_upV, oIxV, x_fDNew, x_fSetdL, x_needW, x_setdL, x_fSrtS, x_fToM, x_fItems, x_fGet2, x_fDSub, x_needD, oGet2, oDSub, dictOf, keyD, oSortG, oSortP, orF, oCatT, oStr, x_fCount, x_fIndex, x_fRev, x_fPar3, datL, dat, oAdd, orO, oI, oInt, oPowW, oIC, oMod, cPos, oDiv, cDiv, endF, oAddI, oSub, oLt, oLe, oGt, oGe, oMul, oMulG, oRepD, oRep, oI2, oMin2, oMax2, oMinL, oMaxL, oAll, oAny, oBools, oIn, oNotIn, oInD, oInSg, x_fChain, intsA, cellsOf, picks, renum, putB, Ce.alive, oSl, slOr, oSlD, oSlL, oLenG, orA, oLen, tru, permL, oSumL, oCatD, datO, oCat, oList, oRepr, oTuple, DL.isNon, oSlT, oSlS, oAddS, oEqG, oNeG, oEqS, oNeS, oEq, oNe, x_fRaise, x_fFrzL, x_frzL, x_fItemsI, x_fValsI, x_fKeysI, x_fDNewM, x_fDPut, x_putC, x_fL6, dsOf, oSortK, intKeys, x_fDSub, x_fTupC, x_fFrzN, oIxT, callT, endT, e0, hv, okE_int, eqv_ii, f1], by omega, rg_bdd f3, Hb.row f3, f4⟩
  obtain ⟨m, st2, e2, lm, rm, d2⟩ := row_ok (n := n + 231) (m := 8) (by decide) (by decide) d1
  obtain ⟨r, st3, e3, lr, rr, d3⟩ := row_ok (n := n + 101) (m := 5) (by decide) (by decide) d2
  obtain ⟨d, st4, e4, ld, bd, d4⟩ := drawn_ok (n := n) (m := 6) (by decide) (by decide) d3
  refine ⟨st4, ?_, d4⟩
  have hm := lmerged_ok (xs := p) (ys := m) (by omega)
  have bm := rg_bdd rm
  have gw : Good (mrg p m) := ⟨by rw [mrg_len]; omega, mrg_bdd bp bm, hp.merge rm⟩
  have gp : Good p := ⟨by omega, bp, hp⟩
  have ee := eqv_lst m
  have ke := (sm_lst bm (by omega)).eqOk
  have q1 := frz_quo (f := fCons (fVar 3) (fCons (fVar 1) fNil)) (s := ⟨[some (.c 0), some (.d (il p)), some (.d (il m)), some (.d (il (mrg p m))), none, none, none, none, none, none], [.l st2]⟩) (a := mrg p m) (o := p) (by simp [x_fCons, x_bnd, x_fVar, x_fNil, x_ret]) rfl gw.2.1 gw.1 bp (by omega)
  rw [qt_mrg] at q1
  refine rt_body (v := .d (.bool true)) rfl ?_
  simp only [List.map_cons, List.map_nil, List.cons_append, List.nil_append, List.replicate]
  refine rt_seq (s' := ⟨[some (.c 0), some (.d (il p)), none, none, none, none, none, none, none, none], [.l st1]⟩) (by simp only [x_fAsg, x_bnd, e1, x_kName, x_ret, List.set_cons_succ, List.set_cons_zero]) ?_
  refine rt_seq (s' := ⟨[some (.c 0), some (.d (il p)), some (.d (il m)), none, none, none, none, none, none, none], [.l st2]⟩) (by simp [x_bnd, x_ret, x_stuck, x_gets, x_fVar, x_fC, x_fOp, x_fNil, x_fCons, x_fCall, x_fDat, x_fCell, x_fLst, x_fTup, x_fTest, x_fTru, x_fAnd, x_fOr, x_fNot, x_fIf, x_asB, x_fAndV, x_fOrV, x_fNotV, x_fIsN, x_fNotN, x_frz, x_frzs0, x_frzs1, x_fFrz, x_fSeq, x_fNext, x_fExpr, x_fRet, x_fRetN, x_fAsg, x_kName, x_fPar, x_kNil, x_kCons, x_kTup, x_kSub, x_setIt, x_needL, x_upC, x_fApp, x_fPopAt, x_fPop, x_fSl, x_fNoP, x_fP, x_fDef, x_callD, x_fPerm, x_fIsi, x_fNeg, x_asL, x_asLt, x_asT, x_fItL, x_fItT, x_orI, x_fRng1, x_fRng2, x_fEnum, x_fZip, x_fFor, x_forL0, x_fAug, x_fYes, x_lcT, x_fRstT, x_fRstV, x_ite, oIx, cutC, kl, Ce.lone, x_fCellV, x_fAppV, x_needV, x_upV, oIxV, x_fDNew, x_fSetdL, x_needW, x_setdL, x_fSrtS, x_fToM, x_fItems, x_fGet2, x_fDSub, x_needD, oGet2, oDSub, dictOf, keyD, oSortG, oSortP, orF, oCatT, oStr, x_fCount, x_fIndex, x_fRev, x_fPar3, datL, dat, oAdd, orO, oI, oInt, oPowW, oIC, oMod, cPos, oDiv, cDiv, endF, oAddI, oSub, oLt, oLe, oGt, oGe, oMul, oMulG, oRepD, oRep, oI2, oMin2, oMax2, oMinL, oMaxL, oAll, oAny, oBools, oIn, oNotIn, oInD, oInSg, x_fChain, intsA, cellsOf, picks, renum, putB, Ce.alive, oSl, slOr, oSlD, oSlL, oLenG, orA, oLen, tru, permL, oSumL, oCatD, datO, oCat, oList, oRepr, oTuple, DL.isNon, oSlT, oSlS, oAddS, oEqG, oNeG, oEqS, oNeS, oEq, oNe, x_fRaise, x_fFrzL, x_frzL, x_fItemsI, x_fValsI, x_fKeysI, x_fDNewM, x_fDPut, x_putC, x_fL6, dsOf, oSortK, intKeys, x_fDSub, x_fTupC, x_fFrzN, oIxT, callT, endT, e2]) ?_
  refine rt_seq (s' := ⟨[some (.c 0), some (.d (il p)), some (.d (il m)), some (.d (il (mrg p m))), none, none, none, none, none, none], [.l st2]⟩) (by simp [x_bnd, x_ret, x_stuck, x_gets, x_fVar, x_fC, x_fOp, x_fNil, x_fCons, x_fCall, x_fDat, x_fCell, x_fLst, x_fTup, x_fTest, x_fTru, x_fAnd, x_fOr, x_fNot, x_fIf, x_asB, x_fAndV, x_fOrV, x_fNotV, x_fIsN, x_fNotN, x_frz, x_frzs0, x_frzs1, x_fFrz, x_fSeq, x_fNext, x_fExpr, x_fRet, x_fRetN, x_fAsg, x_kName, x_fPar, x_kNil, x_kCons, x_kTup, x_kSub, x_setIt, x_needL, x_upC, x_fApp, x_fPopAt, x_fPop, x_fSl, x_fNoP, x_fP, x_fDef, x_callD, x_fPerm, x_fIsi, x_fNeg, x_asL, x_asLt, x_asT, x_fItL, x_fItT, x_orI, x_fRng1, x_fRng2, x_fEnum, x_fZip, x_fFor, x_forL0, x_fAug, x_fYes, x_lcT, x_fRstT, x_fRstV, x_ite, oIx, cutC, kl, Ce.lone, x_fCellV, x_fAppV, x_needV, x_upV, oIxV, x_fDNew, x_fSetdL, x_needW, x_setdL, x_fSrtS, x_fToM, x_fItems, x_fGet2, x_fDSub, x_needD, oGet2, oDSub, dictOf, keyD, oSortG, oSortP, orF, oCatT, oStr, x_fCount, x_fIndex, x_fRev, x_fPar3, datL, dat, oAdd, orO, oI, oInt, oPowW, oIC, oMod, cPos, oDiv, cDiv, endF, oAddI, oSub, oLt, oLe, oGt, oGe, oMul, oMulG, oRepD, oRep, oI2, oMin2, oMax2, oMinL, oMaxL, oAll, oAny, oBools, oIn, oNotIn, oInD, oInSg, x_fChain, intsA, cellsOf, picks, renum, putB, Ce.alive, oSl, slOr, oSlD, oSlL, oLenG, orA, oLen, tru, permL, oSumL, oCatD, datO, oCat, oList, oRepr, oTuple, DL.isNon, oSlT, oSlS, oAddS, oEqG, oNeG, oEqS, oNeS, oEq, oNe, x_fRaise, x_fFrzL, x_frzL, x_fItemsI, x_fValsI, x_fKeysI, x_fDNewM, x_fDPut, x_putC, x_fL6, dsOf, oSortK, intKeys, x_fDSub, x_fTupC, x_fFrzN, oIxT, callT, endT, hm]) ?_
  refine rt_seq (s' := ⟨[some (.c 0), some (.d (il p)), some (.d (il m)), some (.d (il (mrg p m))), none, none, none, none, none, none], [.l st2]⟩) (by
    have ht : (fTup (fCons (fC (.str "list")) (fCons (fVar 2) fNil))) ⟨[some (.c 0), some (.d (il p)), some (.d (il m)), some (.d (il (mrg p m))), none, none, none, none, none, none], [Ce.l st2].map kl⟩ = .ok (.d (.tuple [.str "list", il m])) ⟨[some (.c 0), some (.d (il p)), some (.d (il m)), some (.d (il (mrg p m))), none, none, none, none, none, none], [.l st2]⟩ := by simp [x_bnd, x_ret, x_stuck, x_gets, x_fVar, x_fC, x_fOp, x_fNil, x_fCons, x_fCall, x_fDat, x_fCell, x_fLst, x_fTup, x_fTest, x_fTru, x_fAnd, x_fOr, x_fNot, x_fIf, x_asB, x_fAndV, x_fOrV, x_fNotV, x_fIsN, x_fNotN, x_frz, x_frzs0, x_frzs1, x_fFrz, x_fSeq, x_fNext, x_fExpr, x_fRet, x_fRetN, x_fAsg, x_kName, x_fPar, x_kNil, x_kCons, x_kTup, x_kSub, x_setIt, x_needL, x_upC, x_fApp, x_fPopAt, x_fPop, x_fSl, x_fNoP, x_fP, x_fDef, x_callD, x_fPerm, x_fIsi, x_fNeg, x_asL, x_asLt, x_asT, x_fItL, x_fItT, x_orI, x_fRng1, x_fRng2, x_fEnum, x_fZip, x_fFor, x_forL0, x_fAug, x_fYes, x_lcT, x_fRstT, x_fRstV, x_ite, oIx, cutC, kl, Ce.lone, x_fCellV, x_fAppV, x_needV, x_upV, oIxV, x_fDNew, x_fSetdL, x_needW, x_setdL, x_fSrtS, x_fToM, x_fItems, x_fGet2, x_fDSub, x_needD, oGet2, oDSub, dictOf, keyD, oSortG, oSortP, orF, oCatT, oStr, x_fCount, x_fIndex, x_fRev, x_fPar3, datL, dat, oAdd, orO, oI, oInt, oPowW, oIC, oMod, cPos, oDiv, cDiv, endF, oAddI, oSub, oLt, oLe, oGt, oGe, oMul, oMulG, oRepD, oRep, oI2, oMin2, oMax2, oMinL, oMaxL, oAll, oAny, oBools, oIn, oNotIn, oInD, oInSg, x_fChain, intsA, cellsOf, picks, renum, putB, Ce.alive, oSl, slOr, oSlD, oSlL, oLenG, orA, oLen, tru, permL, oSumL, oCatD, datO, oCat, oList, oRepr, oTuple, DL.isNon, oSlT, oSlS, oAddS, oEqG, oNeG, oEqS, oNeS, oEq, oNe, x_fRaise, x_fFrzL, x_frzL, x_fItemsI, x_fValsI, x_fKeysI, x_fDNewM, x_fDPut, x_putC, x_fL6, dsOf, oSortK, intKeys, x_fDSub, x_fTupC, x_fFrzN, oIxT, callT, endT, kl]
    simp only [x_fIf, x_fTest, x_fOp, x_bnd, q1, ht, x_gets, oNeG, orO, oNeS, oNe, dat, ke, Bool.and_self, if_true, ee]
    simp [x_asB, x_ret, x_fNext]) ?_
  have hI : I0__law_right ⟨[some (.c 0), some (.d (il p)), some (.d (il m)), some (.d (il (mrg p m))), none, none, none, none, none, none], [.l st2]⟩ = .ok ([p, r, m, p.drop 1, p.dropLast, mrg p m, [], d].map il) ⟨[some (.c 0), some (.d (il p)), some (.d (il m)), some (.d (il (mrg p m))), none, none, none, none, none, none], [.l st4]⟩ := by
    have c1 : DL.cutD (p.map PyData.int) none (some (-1)) = (p.dropLast).map .int := by rw [cut_neg, List.map_dropLast]
    simp [x_bnd, x_ret, x_stuck, x_gets, x_fVar, x_fC, x_fOp, x_fNil, x_fCons, x_fCall, x_fDat, x_fCell, x_fLst, x_fTup, x_fTest, x_fTru, x_fAnd, x_fOr, x_fNot, x_fIf, x_asB, x_fAndV, x_fOrV, x_fNotV, x_fIsN, x_fNotN, x_frz, x_frzs0, x_frzs1, x_fFrz, x_fSeq, x_fNext, x_fExpr, x_fRet, x_fRetN, x_fAsg, x_kName, x_fPar, x_kNil, x_kCons, x_kTup, x_kSub, x_setIt, x_needL, x_upC, x_fApp, x_fPopAt, x_fPop, x_fSl, x_fNoP, x_fP, x_fDef, x_callD, x_fPerm, x_fIsi, x_fNeg, x_asL, x_asLt, x_asT, x_fItL, x_fItT, x_orI, x_fRng1, x_fRng2, x_fEnum, x_fZip, x_fFor, x_forL0, x_fAug, x_fYes, x_lcT, x_fRstT, x_fRstV, x_ite, oIx, cutC, kl, Ce.lone, x_fCellV, x_fAppV, x_needV, x_upV, oIxV, x_fDNew, x_fSetdL, x_needW, x_setdL, x_fSrtS, x_fToM, x_fItems, x_fGet2, x_fDSub, x_needD, oGet2, oDSub, dictOf, keyD, oSortG, oSortP, orF, oCatT, oStr, x_fCount, x_fIndex, x_fRev, x_fPar3, datL, dat, oAdd, orO, oI, oInt, oPowW, oIC, oMod, cPos, oDiv, cDiv, endF, oAddI, oSub, oLt, oLe, oGt, oGe, oMul, oMulG, oRepD, oRep, oI2, oMin2, oMax2, oMinL, oMaxL, oAll, oAny, oBools, oIn, oNotIn, oInD, oInSg, x_fChain, intsA, cellsOf, picks, renum, putB, Ce.alive, oSl, slOr, oSlD, oSlL, oLenG, orA, oLen, tru, permL, oSumL, oCatD, datO, oCat, oList, oRepr, oTuple, DL.isNon, oSlT, oSlS, oAddS, oEqG, oNeG, oEqS, oNeS, oEq, oNe, x_fRaise, x_fFrzL, x_frzL, x_fItemsI, x_fValsI, x_fKeysI, x_fDNewM, x_fDPut, x_putC, x_fL6, dsOf, oSortK, intKeys, x_fDSub, x_fTupC, x_fFrzN, oIxT, callT, endT, e3, e4, cut1b, c1]
  obtain ⟨s', hf, a4, a5, a6, a7, a8, a9, ex, rfl⟩ := forL_inv (k := K0__law_right) (b := B0__law_right) (xs := [p, r, m, p.drop 1, p.dropLast, mrg p m, [], d].map il) (I := fun _ s => ∃ a4 a5 a6 a7 a8 a9 ex, s = ⟨[some (.c 0), some (.d (il p)), some (.d (il m)), some (.d (il (mrg p m))), a4, a5, a6, a7, a8, a9], .l st4 :: ex⟩) (fun i x s hx ⟨a4, a5, a6, a7, a8, a9, ex, e⟩ => by
      subst e
      obtain ⟨o, ho, rfl⟩ := List.mem_map.mp (List.mem_of_getElem? hx)
      have go : Good o := by
        simp only [List.mem_cons, List.not_mem_nil, or_false] at ho
        rcases ho with rfl | rfl | rfl | rfl | rfl | rfl | rfl | rfl
        · exact gp
        · exact ⟨by omega, rg_bdd rr, Hb.row rr⟩
        · exact ⟨by omega, bm, Hb.row rm⟩
        · exact ⟨by rw [List.length_drop]; omega, bdd_sub bp (List.drop_sublist _ _), hp.sub fun z hz => List.mem_of_mem_drop hz⟩
        · exact ⟨by rw [List.length_dropLast]; omega, bdd_sub bp (List.dropLast_sublist _), hp.sub fun z hz => (List.dropLast_sublist _).subset hz⟩
        · exact gw
        · exact ⟨by simp, fun z hz => by simp at hz, Hb.small (by simp)⟩
        · exact ⟨by omega, bdd_mono bd (by decide), Hb.small (by omega)⟩
      obtain ⟨b7, b9, ex', ht⟩ := one_turn (a := mrg p m) (o := o) (A := il p) (F := il m) gw go (dr_flat d4) (ex := ex) (a4 := a4) (a5 := a5) (a6 := a6) (a7 := a7) (a8 := a8) (a9 := a9)
      exact ⟨_, ht, _, _, _, _, _, _, _, rfl⟩)
    ⟨[some (.c 0), some (.d (il p)), some (.d (il m)), some (.d (il (mrg p m))), none, none, none, none, none, none], [.l st4]⟩ ⟨none, none, none, none, none, none, [], rfl⟩
  refine rt_seq (fFor_ok hI hf) ?_
  have q9 := frz_quo (f := fCons (fVar 3) (fCons (fVar 3) fNil)) (s := ⟨[some (.c 0), some (.d (il p)), some (.d (il m)), some (.d (il (mrg p m))), a4, a5, a6, a7, a8, a9], .l st4 :: ex⟩) (a := mrg p m) (o := mrg p m) (by simp [x_fCons, x_bnd, x_fVar, x_fNil, x_ret]) rfl gw.2.1 gw.1 gw.2.1 gw.1
  rw [qt_self] at q9
  have ht : (fTup (fCons (fC (.str "list")) (fCons (fDat (fLst fNil)) fNil))) ⟨[some (.c 0), some (.d (il p)), some (.d (il m)), some (.d (il (mrg p m))), a4, a5, a6, a7, a8, a9], (Ce.l st4 :: ex).map kl⟩ = .ok (.d (.tuple [.str "list", .list []])) ⟨[some (.c 0), some (.d (il p)), some (.d (il m)), some (.d (il (mrg p m))), a4, a5, a6, a7, a8, a9], (Ce.l st4 :: ex).map kl⟩ := by simp [x_bnd, x_ret, x_stuck, x_gets, x_fVar, x_fC, x_fOp, x_fNil, x_fCons, x_fCall, x_fDat, x_fCell, x_fLst, x_fTup, x_fTest, x_fTru, x_fAnd, x_fOr, x_fNot, x_fIf, x_asB, x_fAndV, x_fOrV, x_fNotV, x_fIsN, x_fNotN, x_frz, x_frzs0, x_frzs1, x_fFrz, x_fSeq, x_fNext, x_fExpr, x_fRet, x_fRetN, x_fAsg, x_kName, x_fPar, x_kNil, x_kCons, x_kTup, x_kSub, x_setIt, x_needL, x_upC, x_fApp, x_fPopAt, x_fPop, x_fSl, x_fNoP, x_fP, x_fDef, x_callD, x_fPerm, x_fIsi, x_fNeg, x_asL, x_asLt, x_asT, x_fItL, x_fItT, x_orI, x_fRng1, x_fRng2, x_fEnum, x_fZip, x_fFor, x_forL0, x_fAug, x_fYes, x_lcT, x_fRstT, x_fRstV, x_ite, oIx, cutC, kl, Ce.lone, x_fCellV, x_fAppV, x_needV, x_upV, oIxV, x_fDNew, x_fSetdL, x_needW, x_setdL, x_fSrtS, x_fToM, x_fItems, x_fGet2, x_fDSub, x_needD, oGet2, oDSub, dictOf, keyD, oSortG, oSortP, orF, oCatT, oStr, x_fCount, x_fIndex, x_fRev, x_fPar3, datL, dat, oAdd, orO, oI, oInt, oPowW, oIC, oMod, cPos, oDiv, cDiv, endF, oAddI, oSub, oLt, oLe, oGt, oGe, oMul, oMulG, oRepD, oRep, oI2, oMin2, oMax2, oMinL, oMaxL, oAll, oAny, oBools, oIn, oNotIn, oInD, oInSg, x_fChain, intsA, cellsOf, picks, renum, putB, Ce.alive, oSl, slOr, oSlD, oSlL, oLenG, orA, oLen, tru, permL, oSumL, oCatD, datO, oCat, oList, oRepr, oTuple, DL.isNon, oSlT, oSlS, oAddS, oEqG, oNeG, oEqS, oNeS, oEq, oNe, x_fRaise, x_fFrzL, x_frzL, x_fItemsI, x_fValsI, x_fKeysI, x_fDNewM, x_fDPut, x_putC, x_fL6, dsOf, oSortK, intKeys, x_fDSub, x_fTupC, x_fFrzN, oIxT, callT, endT]
  have ke0 : okE (.tuple [.str "list", .list []]) = true := (sm_lst (L := []) (fun z hz => by simp at hz) (by simp)).eqOk
  have ee0 : PyData.eqv (.tuple [.str "list", .list []]) (.tuple [.str "list", .list []]) = true := eqv_lst []
  simp only [x_fRet, x_fOp, x_bnd, q9, ht, x_gets, oEqG, orO, oEqS, oEq, dat, ke0, Bool.and_self, if_true, ee0, x_ret]
  simp [Rt, endF, cutC, kl]
theorem law_hD : ∀ c : Int, g__law_draws [.d (.int c)] [] = .ok (.c 0) [.l (drInit c)] := draws_ok
theorem law_hf : ∀ c : Int, (drInit c).all flat = true := init_flat
theorem law_h0 : ∀ c : Int, Dr 2000 (drInit c) := fun c => (dr_init c).mono (by decide)
theorem law_step : ∀ st : List D, Dr 2000 st → ∃ s', fb_law ⟨(List.replicate N_law.length none).set 1 (some (.c 0)), [.l st]⟩ = .ok .nx s' ∧ s'.sl.length = N_law.length := fun st h => by
  obtain ⟨st1, e1, d1⟩ := right_ok (n := 492) (h.mono (by decide))
  obtain ⟨st2, e2, d2⟩ := right_ok (n := 0) d1
  exact ⟨⟨[none, some (.c 0), none], [.l st2]⟩, by simp [fb_law, N_law, x_bnd, x_ret, x_stuck, x_gets, x_fVar, x_fC, x_fOp, x_fNil, x_fCons, x_fCall, x_fDat, x_fCell, x_fLst, x_fTup, x_fTest, x_fTru, x_fAnd, x_fOr, x_fNot, x_fIf, x_asB, x_fAndV, x_fOrV, x_fNotV, x_fIsN, x_fNotN, x_frz, x_frzs0, x_frzs1, x_fFrz, x_fSeq, x_fNext, x_fExpr, x_fRet, x_fRetN, x_fAsg, x_kName, x_fPar, x_kNil, x_kCons, x_kTup, x_kSub, x_setIt, x_needL, x_upC, x_fApp, x_fPopAt, x_fPop, x_fSl, x_fNoP, x_fP, x_fDef, x_callD, x_fPerm, x_fIsi, x_fNeg, x_asL, x_asLt, x_asT, x_fItL, x_fItT, x_orI, x_fRng1, x_fRng2, x_fEnum, x_fZip, x_fFor, x_forL0, x_fAug, x_fYes, x_lcT, x_fRstT, x_fRstV, x_ite, oIx, cutC, kl, Ce.lone, x_fCellV, x_fAppV, x_needV, x_upV, oIxV, x_fDNew, x_fSetdL, x_needW, x_setdL, x_fSrtS, x_fToM, x_fItems, x_fGet2, x_fDSub, x_needD, oGet2, oDSub, dictOf, keyD, oSortG, oSortP, orF, oCatT, oStr, x_fCount, x_fIndex, x_fRev, x_fPar3, datL, dat, atI, ixN, oAdd, orO, oI, oInt, oPowW, oIC, oMod, cPos, oDiv, cDiv, endF, oAddI, oSub, oLt, oLe, oGt, oGe, oMul, oMulG, oRepD, oRep, oI2, oMin2, oMax2, oMinL, oMaxL, oAll, oAny, oBools, oIn, oNotIn, oInD, oInSg, x_fChain, intsA, cellsOf, picks, renum, putB, Ce.alive, oSl, slOr, oSlD, oSlL, oLenG, orA, oLen, tru, permL, oSumL, oCatD, datO, oCat, oList, oRepr, oTuple, DL.isNon, oSlT, oSlS, oAddS, oEqG, oNeG, oEqS, oNeS, oEq, oNe, x_fRaise, x_fFrzL, x_frzL, x_fItemsI, x_fValsI, x_fKeysI, x_fDNewM, x_fDPut, x_putC, x_fL6, dsOf, oSortK, intKeys, x_fDSub, x_fTupC, x_fFrzN, oIxT, callT, endT, e1, e2], by simp⟩

end R
end Fsec

section Zsec
set_option maxRecDepth 100000
open PySem PySem.Spec PyProof.Rows L2 DL
namespace R
theorem all_mk {l : PySem.W.OpenLaw} {w : World} {K : PySem.W.Frag} {h : Heap} {mg : Str → Option Value} {fa f0 f1 f2 f3 f4 f5 f6 f7 f8 f9 f10 f11 f12 f13 f14 f15 f16 f17 f18 f19 : Addr} (X : K.In h) (G : h.Ns mainGlobals mg) (hfa : mg "law" = some (.ref fa))
    {od0 an0 od1 an1 od2 an2 od3 an3 od4 an4 od5 an5 od6 an6 od7 an7 od8 an8 od9 an9 od10 an10 od11 an11 od12 an12 od13 an13 od14 an14 od15 an15 od16 an16 od17 an17 od18 an18 od19 an19 : Option Addr} {sl0 sl1 sl2 sl3 sl4 sl5 sl6 sl7 sl8 sl9 sl10 sl11 sl12 sl13 sl14 sl15 sl16 sl17 sl18 sl19 : Array (Option Value)} {oc0 kV0 dc0 pm0 cd0 ct0 oc1 kV1 dc1 pm1 cd1 ct1 oc2 kV2 dc2 pm2 cd2 ct2 oc3 kV3 dc3 pm3 cd3 ct3 oc4 kV4 dc4 pm4 cd4 ct4 oc5 kV5 dc5 pm5 cd5 ct5 oc6 kV6 dc6 pm6 cd6 ct6 oc7 kV7 dc7 pm7 cd7 ct7 oc8 kV8 dc8 pm8 cd8 ct8 oc9 kV9 dc9 pm9 cd9 ct9 oc10 kV10 dc10 pm10 cd10 ct10 oc11 kV11 dc11 pm11 cd11 ct11 oc12 kV12 dc12 pm12 cd12 ct12 oc13 kV13 dc13 pm13 cd13 ct13 oc14 kV14 dc14 pm14 cd14 ct14 oc15 kV15 dc15 pm15 cd15 ct15 oc16 kV16 dc16 pm16 cd16 ct16 oc17 kV17 dc17 pm17 cd17 ct17 oc18 kV18 dc18 pm18 cd18 ct18 oc19 kV19 dc19 pm19 cd19 ct19 : Value}
    (a0 : PySem.W.nsIn K mainGlobals "is_whole" = some (some (.ref f0))) (l0 : K.lookup f0 = some ⟨oc0, od0, .func (PySem.W.fnOf "is_whole" "is_whole" (defArgs s_is_whole) (defBody s_is_whole) (defScope s_is_whole) .none kV0 dc0 pm0 an0 cd0 ct0), sl0⟩) (c0 : PySem.W.codeIn K cd0 "is_whole" = true) (k0 : PySem.W.keepIn K (.ref f0) = true)
    (a1 : PySem.W.nsIn K mainGlobals "check_list" = some (some (.ref f1))) (l1 : K.lookup f1 = some ⟨oc1, od1, .func (PySem.W.fnOf "check_list" "check_list" (defArgs s_check_list) (defBody s_check_list) (defScope s_check_list) .none kV1 dc1 pm1 an1 cd1 ct1), sl1⟩) (c1 : PySem.W.codeIn K cd1 "check_list" = true) (k1 : PySem.W.keepIn K (.ref f1) = true)
    (a2 : PySem.W.nsIn K mainGlobals "units_of" = some (some (.ref f2))) (l2 : K.lookup f2 = some ⟨oc2, od2, .func (PySem.W.fnOf "units_of" "units_of" (defArgs s_units_of) (defBody s_units_of) (defScope s_units_of) .none kV2 dc2 pm2 an2 cd2 ct2), sl2⟩) (c2 : PySem.W.codeIn K cd2 "units_of" = true) (k2 : PySem.W.keepIn K (.ref f2) = true)
    (a3 : PySem.W.nsIn K mainGlobals "word_dict" = some (some (.ref f3))) (l3 : K.lookup f3 = some ⟨oc3, od3, .func (PySem.W.fnOf "word_dict" "word_dict" (defArgs s_word_dict) (defBody s_word_dict) (defScope s_word_dict) .none kV3 dc3 pm3 an3 cd3 ct3), sl3⟩) (c3 : PySem.W.codeIn K cd3 "word_dict" = true) (k3 : PySem.W.keepIn K (.ref f3) = true)
    (a4 : PySem.W.nsIn K mainGlobals "from_words" = some (some (.ref f4))) (l4 : K.lookup f4 = some ⟨oc4, od4, .func (PySem.W.fnOf "from_words" "from_words" (defArgs s_from_words) (defBody s_from_words) (defScope s_from_words) .none kV4 dc4 pm4 an4 cd4 ct4), sl4⟩) (c4 : PySem.W.codeIn K cd4 "from_words" = true) (k4 : PySem.W.keepIn K (.ref f4) = true)
    (a5 : PySem.W.nsIn K mainGlobals "difference" = some (some (.ref f5))) (l5 : K.lookup f5 = some ⟨oc5, od5, .func (PySem.W.fnOf "difference" "difference" (defArgs s_difference) (defBody s_difference) (defScope s_difference) .none kV5 dc5 pm5 an5 cd5 ct5), sl5⟩) (c5 : PySem.W.codeIn K cd5 "difference" = true) (k5 : PySem.W.keepIn K (.ref f5) = true)
    (a6 : PySem.W.nsIn K mainGlobals "divided" = some (some (.ref f6))) (l6 : K.lookup f6 = some ⟨oc6, od6, .func (PySem.W.fnOf "divided" "divided" (defArgs s_divided) (defBody s_divided) (defScope s_divided) .none kV6 dc6 pm6 an6 cd6 ct6), sl6⟩) (c6 : PySem.W.codeIn K cd6 "divided" = true) (k6 : PySem.W.keepIn K (.ref f6) = true)
    (a7 : PySem.W.nsIn K mainGlobals "quotient" = some (some (.ref f7))) (l7 : K.lookup f7 = some ⟨oc7, od7, .func (PySem.W.fnOf "quotient" "quotient" (defArgs s_quotient) (defBody s_quotient) (defScope s_quotient) .none kV7 dc7 pm7 an7 cd7 ct7), sl7⟩) (c7 : PySem.W.codeIn K cd7 "quotient" = true) (k7 : PySem.W.keepIn K (.ref f7) = true)
    (a8 : PySem.W.nsIn K mainGlobals "_law_draws" = some (some (.ref f8))) (l8 : K.lookup f8 = some ⟨oc8, od8, .func (PySem.W.fnOf "_law_draws" "_law_draws" (defArgs s__law_draws) (defBody s__law_draws) (defScope s__law_draws) .none kV8 dc8 pm8 an8 cd8 ct8), sl8⟩) (c8 : PySem.W.codeIn K cd8 "_law_draws" = true) (k8 : PySem.W.keepIn K (.ref f8) = true)
    (a9 : PySem.W.nsIn K mainGlobals "_law_next" = some (some (.ref f9))) (l9 : K.lookup f9 = some ⟨oc9, od9, .func (PySem.W.fnOf "_law_next" "_law_next" (defArgs s__law_next) (defBody s__law_next) (defScope s__law_next) .none kV9 dc9 pm9 an9 cd9 ct9), sl9⟩) (c9 : PySem.W.codeIn K cd9 "_law_next" = true) (k9 : PySem.W.keepIn K (.ref f9) = true)
    (a10 : PySem.W.nsIn K mainGlobals "_law_drawn" = some (some (.ref f10))) (l10 : K.lookup f10 = some ⟨oc10, od10, .func (PySem.W.fnOf "_law_drawn" "_law_drawn" (defArgs s__law_drawn) (defBody s__law_drawn) (defScope s__law_drawn) .none kV10 dc10 pm10 an10 cd10 ct10), sl10⟩) (c10 : PySem.W.codeIn K cd10 "_law_drawn" = true) (k10 : PySem.W.keepIn K (.ref f10) = true)
    (a11 : PySem.W.nsIn K mainGlobals "_law_row" = some (some (.ref f11))) (l11 : K.lookup f11 = some ⟨oc11, od11, .func (PySem.W.fnOf "_law_row" "_law_row" (defArgs s__law_row) (defBody s__law_row) (defScope s__law_row) .none kV11 dc11 pm11 an11 cd11 ct11), sl11⟩) (c11 : PySem.W.codeIn K cd11 "_law_row" = true) (k11 : PySem.W.keepIn K (.ref f11) = true)
    (a12 : PySem.W.nsIn K mainGlobals "_law_merged" = some (some (.ref f12))) (l12 : K.lookup f12 = some ⟨oc12, od12, .func (PySem.W.fnOf "_law_merged" "_law_merged" (defArgs s__law_merged) (defBody s__law_merged) (defScope s__law_merged) .none kV12 dc12 pm12 an12 cd12 ct12), sl12⟩) (c12 : PySem.W.codeIn K cd12 "_law_merged" = true) (k12 : PySem.W.keepIn K (.ref f12) = true)
    (a13 : PySem.W.nsIn K mainGlobals "_law_units" = some (some (.ref f13))) (l13 : K.lookup f13 = some ⟨oc13, od13, .func (PySem.W.fnOf "_law_units" "_law_units" (defArgs s__law_units) (defBody s__law_units) (defScope s__law_units) .none kV13 dc13 pm13 an13 cd13 ct13), sl13⟩) (c13 : PySem.W.codeIn K cd13 "_law_units" = true) (k13 : PySem.W.keepIn K (.ref f13) = true)
    (a14 : PySem.W.nsIn K mainGlobals "_law_word" = some (some (.ref f14))) (l14 : K.lookup f14 = some ⟨oc14, od14, .func (PySem.W.fnOf "_law_word" "_law_word" (defArgs s__law_word) (defBody s__law_word) (defScope s__law_word) .none kV14 dc14 pm14 an14 cd14 ct14), sl14⟩) (c14 : PySem.W.codeIn K cd14 "_law_word" = true) (k14 : PySem.W.keepIn K (.ref f14) = true)
    (a15 : PySem.W.nsIn K mainGlobals "_law_heads" = some (some (.ref f15))) (l15 : K.lookup f15 = some ⟨oc15, od15, .func (PySem.W.fnOf "_law_heads" "_law_heads" (defArgs s__law_heads) (defBody s__law_heads) (defScope s__law_heads) .none kV15 dc15 pm15 an15 cd15 ct15), sl15⟩) (c15 : PySem.W.codeIn K cd15 "_law_heads" = true) (k15 : PySem.W.keepIn K (.ref f15) = true)
    (a16 : PySem.W.nsIn K mainGlobals "_law_of_words" = some (some (.ref f16))) (l16 : K.lookup f16 = some ⟨oc16, od16, .func (PySem.W.fnOf "_law_of_words" "_law_of_words" (defArgs s__law_of_words) (defBody s__law_of_words) (defScope s__law_of_words) .none kV16 dc16 pm16 an16 cd16 ct16), sl16⟩) (c16 : PySem.W.codeIn K cd16 "_law_of_words" = true) (k16 : PySem.W.keepIn K (.ref f16) = true)
    (a17 : PySem.W.nsIn K mainGlobals "_law_due" = some (some (.ref f17))) (l17 : K.lookup f17 = some ⟨oc17, od17, .func (PySem.W.fnOf "_law_due" "_law_due" (defArgs s__law_due) (defBody s__law_due) (defScope s__law_due) .none kV17 dc17 pm17 an17 cd17 ct17), sl17⟩) (c17 : PySem.W.codeIn K cd17 "_law_due" = true) (k17 : PySem.W.keepIn K (.ref f17) = true)
    (a18 : PySem.W.nsIn K mainGlobals "_law_right" = some (some (.ref f18))) (l18 : K.lookup f18 = some ⟨oc18, od18, .func (PySem.W.fnOf "_law_right" "_law_right" (defArgs s__law_right) (defBody s__law_right) (defScope s__law_right) .none kV18 dc18 pm18 an18 cd18 ct18), sl18⟩) (c18 : PySem.W.codeIn K cd18 "_law_right" = true) (k18 : PySem.W.keepIn K (.ref f18) = true)
    (a19 : PySem.W.nsIn K mainGlobals "law" = some (some (.ref f19))) (l19 : K.lookup f19 = some ⟨oc19, od19, .func (PySem.W.fnOf "law" "law" (defArgs s_law) (defBody s_law) (defScope s_law) .none kV19 dc19 pm19 an19 cd19 ct19), sl19⟩) (c19 : PySem.W.codeIn K cd19 "law" = true) (k19 : PySem.W.keepIn K (.ref f19) = true)
    (z0 : PySem.W.nsIn K mainGlobals "bool" = some none)
    (z1 : PySem.W.nsIn K mainGlobals "enumerate" = some none)
    (z2 : PySem.W.nsIn K mainGlobals "int" = some none)
    (z3 : PySem.W.nsIn K mainGlobals "isinstance" = some none)
    (z4 : PySem.W.nsIn K mainGlobals "len" = some none)
    (z5 : PySem.W.nsIn K mainGlobals "list" = some none)
    (z6 : PySem.W.nsIn K mainGlobals "range" = some none)
    (z7 : PySem.W.nsIn K mainGlobals "repr" = some none)
    (z8 : PySem.W.nsIn K mainGlobals "set" = some none)
    (z9 : PySem.W.nsIn K mainGlobals "sorted" = some none)
    (z10 : PySem.W.nsIn K mainGlobals "sum" = some none)
    (z11 : PySem.W.nsIn K mainGlobals "zip" = some none)
    {init : Int → List D} {inv : List D → Prop} (hD : ∀ c : Int, g__law_draws [.d (.int c)] [] = .ok (.c 0) [.l (init c)]) (hf : ∀ c, (init c).all flat = true) (h0 : ∀ c, inv (init c)) (step : ∀ st, inv st → ∃ s', fb_law ⟨(List.replicate N_law.length none).set 1 (some (.c 0)), [.l st]⟩ = .ok .nx s' ∧ s'.sl.length = N_law.length) :
    ∃ fd : FuncData, (∀ (s : Shared) (v : Value), BindsTo s fd ⟨[v], []⟩ [("_law_script", v)]) ∧ ∀ base : Heap, K.In base → base.Ns mainGlobals mg → FnG l.prog w K mg base 5 fa fd ["_law_script"] (spLaw K) := by
  have e := hfa.symm.trans (PySem.W.mg_of X G a19)
  cases e
  let T : Top K mg := { f_is_whole := f0, fd_is_whole := _, F_is_whole := fun_mk (st := s_is_whole) l0 c0 k0, m_is_whole := PySem.W.mg_of X G a0, f_check_list := f1, fd_check_list := _, F_check_list := fun_mk (st := s_check_list) l1 c1 k1, m_check_list := PySem.W.mg_of X G a1, f_units_of := f2, fd_units_of := _, F_units_of := fun_mk (st := s_units_of) l2 c2 k2, m_units_of := PySem.W.mg_of X G a2, f_word_dict := f3, fd_word_dict := _, F_word_dict := fun_mk (st := s_word_dict) l3 c3 k3, m_word_dict := PySem.W.mg_of X G a3, f_from_words := f4, fd_from_words := _, F_from_words := fun_mk (st := s_from_words) l4 c4 k4, m_from_words := PySem.W.mg_of X G a4, f_difference := f5, fd_difference := _, F_difference := fun_mk (st := s_difference) l5 c5 k5, m_difference := PySem.W.mg_of X G a5, f_divided := f6, fd_divided := _, F_divided := fun_mk (st := s_divided) l6 c6 k6, m_divided := PySem.W.mg_of X G a6, f_quotient := f7, fd_quotient := _, F_quotient := fun_mk (st := s_quotient) l7 c7 k7, m_quotient := PySem.W.mg_of X G a7, f__law_draws := f8, fd__law_draws := _, F__law_draws := fun_mk (st := s__law_draws) l8 c8 k8, m__law_draws := PySem.W.mg_of X G a8, f__law_next := f9, fd__law_next := _, F__law_next := fun_mk (st := s__law_next) l9 c9 k9, m__law_next := PySem.W.mg_of X G a9, f__law_drawn := f10, fd__law_drawn := _, F__law_drawn := fun_mk (st := s__law_drawn) l10 c10 k10, m__law_drawn := PySem.W.mg_of X G a10, f__law_row := f11, fd__law_row := _, F__law_row := fun_mk (st := s__law_row) l11 c11 k11, m__law_row := PySem.W.mg_of X G a11, f__law_merged := f12, fd__law_merged := _, F__law_merged := fun_mk (st := s__law_merged) l12 c12 k12, m__law_merged := PySem.W.mg_of X G a12, f__law_units := f13, fd__law_units := _, F__law_units := fun_mk (st := s__law_units) l13 c13 k13, m__law_units := PySem.W.mg_of X G a13, f__law_word := f14, fd__law_word := _, F__law_word := fun_mk (st := s__law_word) l14 c14 k14, m__law_word := PySem.W.mg_of X G a14, f__law_heads := f15, fd__law_heads := _, F__law_heads := fun_mk (st := s__law_heads) l15 c15 k15, m__law_heads := PySem.W.mg_of X G a15, f__law_of_words := f16, fd__law_of_words := _, F__law_of_words := fun_mk (st := s__law_of_words) l16 c16 k16, m__law_of_words := PySem.W.mg_of X G a16, f__law_due := f17, fd__law_due := _, F__law_due := fun_mk (st := s__law_due) l17 c17 k17, m__law_due := PySem.W.mg_of X G a17, f__law_right := f18, fd__law_right := _, F__law_right := fun_mk (st := s__law_right) l18 c18 k18, m__law_right := PySem.W.mg_of X G a18, f_law := fa, fd_law := _, F_law := fun_mk (st := s_law) l19 c19 k19, m_law := PySem.W.mg_of X G a19, m_bool := PySem.W.mg_none_of X G z0, m_enumerate := PySem.W.mg_none_of X G z1, m_int := PySem.W.mg_none_of X G z2, m_isinstance := PySem.W.mg_none_of X G z3, m_len := PySem.W.mg_none_of X G z4, m_list := PySem.W.mg_none_of X G z5, m_range := PySem.W.mg_none_of X G z6, m_repr := PySem.W.mg_none_of X G z7, m_set := PySem.W.mg_none_of X G z8, m_sorted := PySem.W.mg_none_of X G z9, m_sum := PySem.W.mg_none_of X G z10, m_zip := PySem.W.mg_none_of X G z11 }
  exact ⟨PySem.W.fnOf "law" "law" (defArgs s_law) (defBody s_law) (defScope s_law) .none kV19 dc19 pm19 an19 cd19 ct19, fun s v => .of_eq rfl, fun base _ _ => ok_law T hD hf h0 step⟩
end R
open PySem PySem.W PyProof.Rows
set_option maxHeartbeats 0 in
theorem PySem.Challenge.cw_mergeunits_k10_quotients_holds : PySem.Challenge.rw_mergeunits_k10_quotients.Holds := by
  w_on; o_law; k_head; (case hw => w_witness2)
  k_fill
  refine DL.walk_g (l := PySem.Challenge.rw_mergeunits_k10_quotients) (n := 63) (k := 5) (x := "_law_script") (sp := fun _ _ => DL.spLaw _) rfl (by decide) rfl ⟨rfl, by decide, by decide⟩ (fun w h Y => PySem.W.kIn_of Y) ?F (fun _ _ _ a ns hl _ hS => ⟨a, ns, rfl, hS, hl, fun _ => rfl⟩)
  case F =>
    intro w mg fa h KX G hmg
    refine' R.all_mk KX G hmg ?a0 ?l0 ?c0 ?k0 ?a1 ?l1 ?c1 ?k1 ?a2 ?l2 ?c2 ?k2 ?a3 ?l3 ?c3 ?k3 ?a4 ?l4 ?c4 ?k4 ?a5 ?l5 ?c5 ?k5 ?a6 ?l6 ?c6 ?k6 ?a7 ?l7 ?c7 ?k7 ?a8 ?l8 ?c8 ?k8 ?a9 ?l9 ?c9 ?k9 ?a10 ?l10 ?c10 ?k10 ?a11 ?l11 ?c11 ?k11 ?a12 ?l12 ?c12 ?k12 ?a13 ?l13 ?c13 ?k13 ?a14 ?l14 ?c14 ?k14 ?a15 ?l15 ?c15 ?k15 ?a16 ?l16 ?c16 ?k16 ?a17 ?l17 ?c17 ?k17 ?a18 ?l18 ?c18 ?k18 ?a19 ?l19 ?c19 ?k19 ?z0 ?z1 ?z2 ?z3 ?z4 ?z5 ?z6 ?z7 ?z8 ?z9 ?z10 ?z11  R.law_hD R.law_hf R.law_h0 R.law_step
    (case a0 => k_is); (case l0 => k_is); (case c0 => k_is); (case k0 => k_is)
    (case a1 => k_is); (case l1 => k_is); (case c1 => k_is); (case k1 => k_is)
    (case a2 => k_is); (case l2 => k_is); (case c2 => k_is); (case k2 => k_is)
    (case a3 => k_is); (case l3 => k_is); (case c3 => k_is); (case k3 => k_is)
    (case a4 => k_is); (case l4 => k_is); (case c4 => k_is); (case k4 => k_is)
    (case a5 => k_is); (case l5 => k_is); (case c5 => k_is); (case k5 => k_is)
    (case a6 => k_is); (case l6 => k_is); (case c6 => k_is); (case k6 => k_is)
    (case a7 => k_is); (case l7 => k_is); (case c7 => k_is); (case k7 => k_is)
    (case a8 => k_is); (case l8 => k_is); (case c8 => k_is); (case k8 => k_is)
    (case a9 => k_is); (case l9 => k_is); (case c9 => k_is); (case k9 => k_is)
    (case a10 => k_is); (case l10 => k_is); (case c10 => k_is); (case k10 => k_is)
    (case a11 => k_is); (case l11 => k_is); (case c11 => k_is); (case k11 => k_is)
    (case a12 => k_is); (case l12 => k_is); (case c12 => k_is); (case k12 => k_is)
    (case a13 => k_is); (case l13 => k_is); (case c13 => k_is); (case k13 => k_is)
    (case a14 => k_is); (case l14 => k_is); (case c14 => k_is); (case k14 => k_is)
    (case a15 => k_is); (case l15 => k_is); (case c15 => k_is); (case k15 => k_is)
    (case a16 => k_is); (case l16 => k_is); (case c16 => k_is); (case k16 => k_is)
    (case a17 => k_is); (case l17 => k_is); (case c17 => k_is); (case k17 => k_is)
    (case a18 => k_is); (case l18 => k_is); (case c18 => k_is); (case k18 => k_is)
    (case a19 => k_is); (case l19 => k_is); (case c19 => k_is); (case k19 => k_is)
    (case z0 => k_is)
    (case z1 => k_is)
    (case z2 => k_is)
    (case z3 => k_is)
    (case z4 => k_is)
    (case z5 => k_is)
    (case z6 => k_is)
    (case z7 => k_is)
    (case z8 => k_is)
    (case z9 => k_is)
    (case z10 => k_is)
    (case z11 => k_is)

end Zsec

