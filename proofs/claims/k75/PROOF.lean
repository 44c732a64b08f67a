import PyProof.Rows.All
import Wide.All
import OpenK.AllK
import Wide.FinOn
import HandS.ForMost
import HandS.ForExc
import HandS.CallSlots
import HandS.ExcInit
import HandS.IsInst
import HandS.SortInts
import HandS.Wide
import HandS.Flow
import HandS.Zip
import HandS.Defaults
import HandS.Lambda
import HandS.TupAny
import HandS.RaiseMore
import HandS.WideBits
import PyProof.SumAny
import KE.KExcIs
import HandS.ExcIs
import HandS.Deep
import HandS.SetKeys
import HandS.SetFor
import HandS.Strs
import HandS.ListItems
import HandS.SortRule
import HandS.Dict
import HandS.More
import HandS.Style
import HandS.Comp
import HandS.Iter
import HandS.DictComp
import HandS.Sort
import PyProof.ListRange
import PyProof.RangeFor
import HandS.TupSets
import PyProof.SeqIndex
import HandS.NoneIn
import KE.SortData
import KE.KeyNested
import KE.DataMinMax
import KE.DataEq
import HandS.Text
import KE.DataFind
import HandS.DictTup
import HandS.Rev
import HandS.HeadHook3
import PyProof.Rows.StrMeet
import PyProof.ReprRoads
import KE.KDictZip
import HandS.GenList
import HandS.ClsMeth
import PySem.Challenge.RW_mergeunits_k75_lists_refused_beyond_merg
set_option Elab.async false
set_option linter.all false
section DLsec_0
set_option maxRecDepth 100000
/-! The data layer: Python values as plain data, owned lists as numbered cells. -/
namespace DL
open PySem PySem.Spec PyProof.Rows L2

abbrev D := PyData
abbrev St := L2.St
def kD : Key → D
  | .inl i => .int i
  | .inr x => .str x

mutual
/-- v stands for the data d, by what the heap H tells -/
inductive Dq (H : Hp) : V → D → Prop
  | non : Dq H .non .none
  | bl (b : Bool) : Dq H (.bl b) (.bool b)
  | int (i : Int) : Dq H (.int i) (.int i)
  | str (x : Str) : Dq H (.str x) (.str x)
  | lst {a : Addr} {xs : List V} {ds : List D} : H a = some (.lst xs) → DqA H xs ds → Dq H (.ref a) (.list ds)
  | tup {a : Addr} {xs : List V} {ds : List D} : H a = some (.tup xs) → DqA H xs ds → Dq H (.ref a) (.tuple ds)
  | dct {a : Addr} {o : Obj} {kvs : List (Key × V)} {ds : List (D × D)} : H a = some (.frz o (.dK kvs)) → DqM H kvs ds → Dq H (.ref a) (.dict ds)
inductive DqA (H : Hp) : List V → List D → Prop
  | nil : DqA H [] []
  | cons {v : V} {vs : List V} {d : D} {ds : List D} : Dq H v d → DqA H vs ds → DqA H (v :: vs) (d :: ds)
inductive DqM (H : Hp) : List (Key × V) → List (D × D) → Prop
  | nil : DqM H [] []
  | cons {k : Key} {v : V} {kvs : List (Key × V)} {d : D} {ds : List (D × D)} : Dq H v d → DqM H kvs ds → DqM H ((k, v) :: kvs) ((kD k, d) :: ds)
end

mutual
theorem Dq.mono {H H' : Hp} (e : Same H H') : ∀ {v : V} {d : D}, Dq H v d → Dq H' v d
  | _, _, .non => .non
  | _, _, .bl b => .bl b
  | _, _, .int i => .int i
  | _, _, .str x => .str x
  | _, _, .lst h r => .lst (e _ _ h) (DqA.mono e r)
  | _, _, .tup h r => .tup (e _ _ h) (DqA.mono e r)
  | _, _, .dct h r => .dct (e _ _ h) (DqM.mono e r)
theorem DqA.mono {H H' : Hp} (e : Same H H') : ∀ {v : List V} {d : List D}, DqA H v d → DqA H' v d
  | _, _, .nil => .nil
  | _, _, .cons h r => .cons (Dq.mono e h) (DqA.mono e r)
theorem DqM.mono {H H' : Hp} (e : Same H H') : ∀ {v : List (Key × V)} {d : List (D × D)}, DqM H v d → DqM H' v d
  | _, _, .nil => .nil
  | _, _, .cons h r => .cons (Dq.mono e h) (DqM.mono e r)
end
theorem DqA.length {H : Hp} : ∀ {v : List V} {d : List D}, DqA H v d → v.length = d.length
  | _, _, .nil => rfl
  | _, _, .cons _ r => congrArg (· + 1) (DqA.length r)
theorem DqA.get {H : Hp} : ∀ {v : List V} {d : List D} {i : Nat} {x : D}, DqA H v d → d[i]? = some x → ∃ y, v[i]? = some y ∧ Dq H y x
  | _, _, _, _, .nil, e => by simp at e
  | _, _, 0, _, .cons h _, e => by simp at e; subst e; exact ⟨_, rfl, h⟩
  | _, _, i + 1, x, .cons _ r, e => by
    obtain ⟨y, a, b⟩ := DqA.get (i := i) (x := x) r (by simpa using e)
    exact ⟨y, by simpa using a, b⟩
theorem DqA.append {H : Hp} : ∀ {v v' : List V} {d d' : List D}, DqA H v d → DqA H v' d' → DqA H (v ++ v') (d ++ d')
  | _, _, _, _, .nil, s => s
  | _, _, _, _, .cons h r, s => .cons h (DqA.append r s)
theorem DqA.take {H : Hp} : ∀ {v : List V} {d : List D} (n : Nat), DqA H v d → DqA H (v.take n) (d.take n)
  | _, _, 0, _ => .nil
  | _, _, _ + 1, .nil => .nil
  | _, _, n + 1, .cons h r => .cons h (DqA.take n r)
theorem DqA.drop {H : Hp} : ∀ {v : List V} {d : List D} (n : Nat), DqA H v d → DqA H (v.drop n) (d.drop n)
  | _, _, 0, r => r
  | _, _, _ + 1, .nil => .nil
  | _, _, n + 1, .cons _ r => DqA.drop n r
theorem DqA.set {H : Hp} {y : V} {x : D} (q : Dq H y x) : ∀ {v : List V} {d : List D} (n : Nat), DqA H v d → DqA H (v.set n y) (d.set n x)
  | _, _, _, .nil => .nil
  | _, _, 0, .cons _ r => .cons q r
  | _, _, n + 1, .cons h r => .cons h (DqA.set q n r)
theorem DqA.erase {H : Hp} : ∀ {v : List V} {d : List D} (n : Nat), DqA H v d → DqA H (v.eraseIdx n) (d.eraseIdx n)
  | _, _, _, .nil => .nil
  | _, _, 0, .cons _ r => r
  | _, _, n + 1, .cons h r => .cons h (DqA.erase n r)
theorem DqA.ints {H : Hp} : ∀ (ns : List Int), DqA H (ns.map V.int) (ns.map PyData.int)
  | [] => .nil
  | n :: ns => .cons (.int n) (DqA.ints ns)
theorem DqA.ints_inv {H : Hp} : ∀ {ns : List Int} {v : List V}, DqA H v (ns.map PyData.int) → v = ns.map V.int
  | [], _, .nil => rfl
  | n :: ns, _, .cons h r => by
    cases h
    rw [DqA.ints_inv r]
    rfl

/-! ### the state -/
inductive Vl where
  | d (x : D)
  | c (j : Nat)
structure Ex where
  cls : Str
  arg : Option (Str × D)
/-- a lambda that has left its maker: its name, the maker's names, what it is, what the maker's names were -/
structure Th where
  k : Nat
  q : Str
  N : List Str
  ar : Arguments
  e : Expr
  sc : Scope
  cap : List (Option D)
inductive Ce where
  | l (xs : List D)
  | f (xs : List D)
  | m (kvs : List (Key × D))
  | g
  | x (e : Ex)
  | v (xs : List Vl)
  | w (kvs : List (Key × Vl))
  | t (xs : List Vl)
  | tb (p : Addr) (q : Str)
  | fn (f c : Addr) (q : Str) (σ : L2.St) (xs : List (Option D))
  | y (kvs : List (List Key × D))
  | yf (kvs : List (List Key × D))
  | o (cls : Str) (fs : List (Str × Vl))
  | fv (f c : Addr) (q : Str) (σ : L2.St) (ys : List (Option Vl))
  | th (t : Th)
  | tl (ts : List Th)
def Ce.alive : Ce → Bool
  | .l _ => true
  | .m _ => true
  | .v _ => true
  | .w _ => true
  | .tb _ _ => true
  | .y _ => true
  | .o _ _ => true
  | _ => false
/-- cells that name cells do not outlive a cut -/
def kl : Ce → Ce
  | .v _ => .g
  | .w _ => .g
  | .t _ => .g
  | .o _ _ => .g
  | .fv _ _ _ _ _ => .g
  | c => c
def cutC (n : Nat) (ce : List Ce) : List Ce := (ce.take n).map kl
theorem cutC_get {n : Nat} {ce : List Ce} {j : Nat} {c : Ce} (h : (cutC n ce)[j]? = some c) : j < n ∧ ∃ c0, ce[j]? = some c0 ∧ c = kl c0 := by
  unfold cutC at h
  rw [List.getElem?_map, List.getElem?_take] at h
  split at h
  · rename_i hj
    cases hc : ce[j]? with
    | none => rw [hc] at h; cases h
    | some c0 => rw [hc] at h; cases h; exact ⟨hj, c0, rfl, rfl⟩
  · cases h
theorem cutC_len {n : Nat} {ce : List Ce} : (cutC n ce).length = min n ce.length := by simp [cutC]
theorem kl_alive {c : Ce} (h : (kl c).alive = true) : c.alive = true := by cases c <;> first | rfl | cases h
structure S where
  sl : List (Option Vl)
  ce : List Ce
inductive R (α : Type) where
  | ok (a : α) (s : S)
  | ex (e : Ex) (s : S)
  | no
abbrev M (α : Type) := S → R α
def ret {α : Type} (a : α) : M α := fun s => .ok a s
def bnd {α β : Type} (m : M α) (k : α → M β) : M β := fun s => match m s with
  | .ok a s' => k a s'
  | .ex e s' => .ex e s'
  | .no => .no
def stuck {α : Type} : M α := fun _ => .no
def wpR {α : Type} (r : R α) (P : α → S → Prop) (E : Ex → S → Prop) : Prop := match r with
  | .ok a s => P a s
  | .ex e s => E e s
  | .no => False
theorem wp_bnd {α β : Type} {m : M α} {k : α → M β} {s : S} {P : β → S → Prop} {E : Ex → S → Prop} (h : wpR (bnd m k s) P E) : wpR (m s) (fun a s' => wpR (k a s') P E) E := by
  unfold bnd at h
  cases e : m s with
  | ok a s' => rw [e] at h; exact h
  | ex x s' => rw [e] at h; exact h
  | no => rw [e] at h; exact h
theorem wp_mono {α : Type} {r : R α} {P P' : α → S → Prop} {E E' : Ex → S → Prop} (h : wpR r P E) (hp : ∀ a s, P a s → P' a s) (he : ∀ e s, E e s → E' e s) : wpR r P' E' := by
  cases r with
  | ok a s => exact hp _ _ h
  | ex e s => exact he _ _ h
  | no => exact h

/-! ### the state is borne by the heap -/
/-- the entry's heap, the cells that it handed in, the dicts that are walked -/
structure Bd (mg : Str → Option Value) where
  H0 : Hp
  Hi0 : Hp
  A0 : List Addr
  lk0 : List Addr
  lk1 : List Addr
def HL (lk : List Addr) (H : Hp) (b : Addr) (o : HO) : Prop := if b ∈ lk then ∃ ob, H b = some (.frz ob o) else H b = some o
inductive RelVl (Hi : Hp) (as : List Addr) : V → Vl → Prop
  | d {v : V} {x : D} : Dq Hi v x → RelVl Hi as v (.d x)
  | c {a : Addr} {j : Nat} : as[j]? = some a → RelVl Hi as (.ref a) (.c j)
inductive DqK (H : Hp) : List (Key × V) → List (Key × D) → Prop
  | nil : DqK H [] []
  | cons {k : Key} {v : V} {kvs : List (Key × V)} {d : D} {ds : List (Key × D)} : Dq H v d → DqK H kvs ds → DqK H ((k, v) :: kvs) ((k, d) :: ds)
theorem DqK.mono {H H' : Hp} (e : Same H H') : ∀ {v : List (Key × V)} {d : List (Key × D)}, DqK H v d → DqK H' v d
  | _, _, .nil => .nil
  | _, _, .cons h r => .cons (h.mono e) (DqK.mono e r)
theorem DqK.toM {H : Hp} : ∀ {v : List (Key × V)} {d : List (Key × D)}, DqK H v d → DqM H v (d.map fun p => (kD p.1, p.2))
  | _, _, .nil => .nil
  | _, _, .cons h r => .cons h (DqK.toM r)
/-- what is told of an exception that is kept -/
def exK (a : Addr) (cls : Value) (d : Option Addr) : HO := .ext fun h => ∃ (o : Obj) (vs : Array Value), h.get? a = some o ∧ o.cls = cls ∧ o.dict = d ∧ o.data = .fields vs
def ExR (mg : Str → Option Value) (Hi : Hp) (e : Ex) (cls : Value) (d : Option Addr) : Prop :=
  mg e.cls = some cls ∧ match e.arg with
    | none => d = none
    | some (f, x) => ∃ da v, d = some da ∧ Hi da = some (.xd [(f, v)]) ∧ Dq Hi v x
theorem ExR.mono {mg : Str → Option Value} {Hi Hi' : Hp} {e : Ex} {cls : Value} {d : Option Addr} (h : ExR mg Hi e cls d) (s : Same Hi Hi') : ExR mg Hi' e cls d := by
  obtain ⟨c, a⟩ := e
  obtain ⟨h1, h2⟩ := h
  refine ⟨h1, ?_⟩
  cases a with
  | none => exact h2
  | some p =>
    obtain ⟨da, v, q1, q2, q3⟩ := h2
    exact ⟨da, v, q1, s _ _ q2, q3.mono s⟩
def PairF (Hi : Hp) (as : List Addr) (p : Str × V) (q : Str × Vl) : Prop := p.1 = q.1 ∧ RelVl Hi as p.2 q.2
def PairK (Hi : Hp) (as : List Addr) (p : Key × V) (q : Key × Vl) : Prop := p.1 = q.1 ∧ RelVl Hi as p.2 q.2
/-- the code objects of a table bear the name q -/
def TabR (Hi : Hp) (ps : Array Value) (q : Str) : Prop := PySem.TriplesOk ps.toList ∧ ∀ (pos : Pos) (cv : Value), PySem.codeAmong pos ps.toList = some cv → ∃ c, cv = .ref c ∧ Hi c = some (LamX.CodeO c q)
theorem TabR.mono {Hi Hi' : Hp} {ps : Array Value} {q : Str} (h : TabR Hi ps q) (e : Same Hi Hi') : TabR Hi' ps q :=
  ⟨h.1, fun pos cv z => let ⟨c, a, b⟩ := h.2 pos cv z; ⟨c, a, e _ _ b⟩⟩
/-- the maker's names whose values are data -/
def LocR (Hi : Hp) (σ : L2.St) (xs : List (Option D)) : Prop := σ.length = xs.length ∧ ∀ (i : Nat) (x : D), xs[i]? = some (some x) → ∃ v, σ[i]? = some (some v) ∧ Dq Hi v x
theorem LocR.mono {Hi Hi' : Hp} {σ : L2.St} {xs : List (Option D)} (h : LocR Hi σ xs) (e : Same Hi Hi') : LocR Hi' σ xs :=
  ⟨h.1, fun i x z => let ⟨v, a, b⟩ := h.2 i x z; ⟨v, a, b.mono e⟩⟩
/-- the names, with the cells that they hold -/
def LocV (Hi : Hp) (as : List Addr) (σ : L2.St) (ys : List (Option Vl)) : Prop := σ.length = ys.length ∧ ∀ (i : Nat) (x : Vl), ys[i]? = some (some x) → ∃ v, σ[i]? = some (some v) ∧ RelVl Hi as v x
/-- a dict whose keys are tuples -/
def DqT (H : Hp) (vs : List (List Key × V)) (kvs : List (List Key × D)) : Prop := Paired (fun p q => p.1 = q.1 ∧ Dq H p.2 q.2) vs kvs
/-- a name's cell that no def holds any more -/
def cellO (c : Addr) (u : Value) : HO := .ext fun h => h.IsCell c (some u)
/-- a function that a lambda made -/
def thO (q : Str) (ar : Arguments) (e : Expr) (sc : Scope) (C : List (Str × Addr)) (f d : Addr) : HO := .ext fun h => ∃ u v : Value, h.get? f = some (PySem.W.kla_obj "<lambda>" q ar e sc (cloFrom C sc.names []) u d v)
def RelTh (Hi : Hp) (v : V) (t : Th) : Prop := ∃ (f d : Addr) (C : List (Str × Addr)) (U : Str → Addr × Value) (τ : L2.St), v = .ref f ∧ Hi f = some (thO t.q t.ar t.e t.sc C f d) ∧ Hi d = some (LamX.CodeO d t.q) ∧
  (∀ x y c, C.lookup x = some c → C.lookup y = some c → x = y) ∧ τ.length = t.N.length ∧ t.cap.length = t.N.length ∧ (∀ (i : Nat) (x : D), t.cap[i]? = some (some x) → ∃ v, τ[i]? = some (some v) ∧ Dq Hi v x) ∧
  ∀ y ∈ t.sc.names, y.2 = .free → C.lookup y.1 = some (U y.1).1 ∧ Hi (U y.1).1 = some (cellO (U y.1).1 (U y.1).2) ∧ ∀ (i : Nat) (v : V), t.N[i]? = some y.1 → τ[i]? = some (some v) → RelV v (U y.1).2
theorem RelTh.mono {Hi Hi' : Hp} {v : V} {t : Th} (h : RelTh Hi v t) (e : Same Hi Hi') : RelTh Hi' v t :=
  let ⟨f, d, C, U, τ, h1, h2, h3, h4, h5, h6, h7, h8⟩ := h
  ⟨f, d, C, U, τ, h1, e _ _ h2, e _ _ h3, h4, h5, h6, fun i x z => let ⟨v, a, b⟩ := h7 i x z; ⟨v, a, b.mono e⟩, fun y hy z => let ⟨a1, a2, a3⟩ := h8 y hy z; ⟨a1, e _ _ a2, a3⟩⟩
def RelCe (mg : Str → Option Value) (H Hi : Hp) (as : List Addr) (a : Addr) : Ce → Prop
  | .l xs => Hi a = none ∧ ∃ vs, H a = some (.lst vs) ∧ DqA Hi vs xs
  | .f xs => ∃ vs, Hi a = some (.lst vs) ∧ DqA Hi vs xs
  | .m kvs => Hi a = none ∧ ∃ vs, H a = some (.dK vs) ∧ DqK Hi vs kvs
  | .g => True
  | .x e => ∃ cls d, Hi a = some (exK a cls d) ∧ ExR mg Hi e cls d
  | .v xs => Hi a = none ∧ ∃ vs, H a = some (.lst vs) ∧ Paired (RelVl Hi as) vs xs
  | .w kvs => Hi a = none ∧ ∃ vs, H a = some (.dK vs) ∧ Paired (PairK Hi as) vs kvs
  | .t xs => ∃ vs, Hi a = some (.tup vs) ∧ Paired (RelVl Hi as) vs xs
  | .tb p q => Hi a = none ∧ ∃ ps, H a = some (.tbl ps) ∧ TabR Hi ps q ∧ a = p
  | .fn f c q σ xs => a = f ∧ Hi c = some (LamX.CodeO c q) ∧ LocR Hi σ xs
  | .y kvs => Hi a = none ∧ ∃ vs, H a = some (.dT vs) ∧ DqT Hi vs kvs
  | .yf kvs => ∃ o vs, Hi a = some (.frz o (.dT vs)) ∧ DqT Hi vs kvs
  | .fv f c q σ ys => a = f ∧ Hi c = some (LamX.CodeO c q) ∧ LocV Hi as σ ys
  | .th t => RelTh Hi (.ref a) t
  | .tl ts => ∃ vs, Hi a = some (.lst vs) ∧ Paired (RelTh Hi) vs ts
  | .o cls fs => Hi a = none ∧ ∃ vs, (∃ C dx, mg cls = some (.ref C) ∧ H a = some (.ins C dx vs)) ∧ Paired (PairF Hi as) vs fs
theorem or3 {a b c : Prop} (h : a ∨ b) : a ∨ b ∨ c := h.elim .inl fun z => .inr (.inl z)
structure Rep {mg : Str → Option Value} (B : Bd mg) (σ : St) (H Hi : Hp) (as : List Addr) (s : S) : Prop where
  sub : ∀ b o, Hi b = some o → HL (B.lk0 ++ B.lk1) H b o
  lkd : ∀ b ∈ B.lk0 ++ B.lk1, ∃ kvs, Hi b = some (.dK kvs)
  fr : ∀ b o, B.H0 b = some o → b ∉ B.A0 → HL B.lk1 H b o
  hin : ∀ b o, Hi b = some o → B.Hi0 b = some o ∨ B.H0 b = none ∨ b ∈ B.A0 ∨ ∃ vs, o = .tup vs
  new : ∀ (j : Nat) (a : Addr) (c : Ce), as[j]? = some a → s.ce[j]? = some c → c.alive = true → a ∈ B.A0 ∨ B.H0 a = none
  len : σ.length = s.sl.length
  slo : ∀ (i : Nat) (x : Vl), s.sl[i]? = some (some x) → ∃ v, σ[i]? = some (some v) ∧ RelVl Hi as v x
  lea : as.length = s.ce.length
  cel : ∀ (j : Nat) (a : Addr) (c : Ce), as[j]? = some a → s.ce[j]? = some c → RelCe mg H Hi as a c
  inj : ∀ (i j : Nat) (a : Addr) (c c' : Ce), as[i]? = some a → as[j]? = some a → s.ce[i]? = some c → s.ce[j]? = some c' → c.alive = true → c'.alive = true → i = j

theorem HL.of_notin {lk : List Addr} {H : Hp} {b : Addr} {o : HO} (h : HL lk H b o) (n : b ∉ lk) : H b = some o := by
  unfold HL at h
  rw [if_neg n] at h
  exact h
theorem HL.some {lk : List Addr} {H : Hp} {b : Addr} {o : HO} (h : HL lk H b o) : ∃ u, H b = some u := by
  unfold HL at h
  split at h
  · obtain ⟨ob, e⟩ := h; exact ⟨_, e⟩
  · exact ⟨_, h⟩
theorem HL.upd {lk : List Addr} {H : Hp} {b p : Addr} {o u : HO} (h : HL lk H b o) (n : b ≠ p) : HL lk (upd H p u) b o := by
  unfold HL at h ⊢
  rw [upd_ne n]
  exact h

section
variable {mg : Str → Option Value} {B : Bd mg} {σ : St} {H Hi : Hp} {as : List Addr} {s : S}
theorem Rep.lst (r : Rep B σ H Hi as s) {a : Addr} {vs : List V} (h : Hi a = some (.lst vs)) : H a = some (.lst vs) :=
  (r.sub a _ h).of_notin fun z => by
    obtain ⟨k, e⟩ := r.lkd a z
    rw [h] at e; cases e
theorem Rep.tup (r : Rep B σ H Hi as s) {a : Addr} {vs : List V} (h : Hi a = some (.tup vs)) : H a = some (.tup vs) :=
  (r.sub a _ h).of_notin fun z => by
    obtain ⟨k, e⟩ := r.lkd a z
    rw [h] at e; cases e
theorem Rep.fresh (r : Rep B σ H Hi as s) {p : Addr} (h : H p = none) : Hi p = none := by
  cases e : Hi p with
  | none => rfl
  | some o =>
    obtain ⟨u, q⟩ := (r.sub p o e).some
    rw [h] at q; cases q
theorem same_new {H : Hp} {p : Addr} {o : HO} (h : H p = none) : Same H (upd H p o) := fun b x e => by
  rw [upd_ne (ne_of_none e h)]
  exact e
theorem RelVl.mono {Hi Hi' : Hp} {as as' : List Addr} {v : V} {x : Vl} (h : RelVl Hi as v x) (e : Same Hi Hi') (p : as <+: as') : RelVl Hi' as' v x := by
  cases h with
  | d q => exact .d (q.mono e)
  | c q =>
    obtain ⟨t, rfl⟩ := p
    exact .c (by rw [List.getElem?_append_left (List.getElem?_eq_some_iff.mp q).1]; exact q)
theorem LocV.mono {Hi Hi' : Hp} {as as' : List Addr} {σ : L2.St} {ys : List (Option Vl)} (h : LocV Hi as σ ys) (e : Same Hi Hi') (p : as <+: as') : LocV Hi' as' σ ys :=
  ⟨h.1, fun i x z => let ⟨v, a, b⟩ := h.2 i x z; ⟨v, a, b.mono e p⟩⟩
theorem paired_mono {α β : Type} {F G : α → β → Prop} (h : ∀ a b, F a b → G a b) : ∀ {l : List α} {m : List β}, Paired F l m → Paired G l m
  | _, _, .nil => .nil
  | _, _, .cons a r => .cons (h _ _ a) (paired_mono h r)
theorem RelCe.mono {mg : Str → Option Value} {H H' Hi Hi' : Hp} {as as' : List Addr} {a : Addr} {c : Ce} (h : RelCe mg H Hi as a c) (e : Same Hi Hi') (p : as <+: as') (n : c.alive = true → Hi' a = Hi a) (k : c.alive = true → H' a = H a) : RelCe mg H' Hi' as' a c := by
  cases c with
  | l xs => obtain ⟨h1, vs, h2, h3⟩ := h; exact ⟨by rw [n rfl]; exact h1, vs, by rw [k rfl]; exact h2, h3.mono e⟩
  | f xs => obtain ⟨vs, h2, h3⟩ := h; exact ⟨vs, e _ _ h2, h3.mono e⟩
  | m kvs => obtain ⟨h1, vs, h2, h3⟩ := h; exact ⟨by rw [n rfl]; exact h1, vs, by rw [k rfl]; exact h2, h3.mono e⟩
  | g => trivial
  | x e' => obtain ⟨cls, d, h1, h2⟩ := h; exact ⟨cls, d, e _ _ h1, h2.mono e⟩
  | v xs => obtain ⟨h1, vs, h2, h3⟩ := h; exact ⟨by rw [n rfl]; exact h1, vs, by rw [k rfl]; exact h2, paired_mono (fun _ _ q => q.mono e p) h3⟩
  | w kvs => obtain ⟨h1, vs, h2, h3⟩ := h; exact ⟨by rw [n rfl]; exact h1, vs, by rw [k rfl]; exact h2, paired_mono (fun _ _ q => ⟨q.1, q.2.mono e p⟩) h3⟩
  | t xs => obtain ⟨vs, h2, h3⟩ := h; exact ⟨vs, e _ _ h2, paired_mono (fun _ _ q => q.mono e p) h3⟩
  | tb p q => obtain ⟨h1, ps, h2, h3, h4⟩ := h; exact ⟨by rw [n rfl]; exact h1, ps, by rw [k rfl]; exact h2, h3.mono e, h4⟩
  | fn f c q σ xs => exact ⟨h.1, e _ _ h.2.1, h.2.2.mono e⟩
  | y kvs => obtain ⟨h1, vs, h2, h3⟩ := h; exact ⟨by rw [n rfl]; exact h1, vs, by rw [k rfl]; exact h2, paired_mono (fun _ _ q => ⟨q.1, q.2.mono e⟩) h3⟩
  | yf kvs => obtain ⟨o, vs, h2, h3⟩ := h; exact ⟨o, vs, e _ _ h2, paired_mono (fun _ _ q => ⟨q.1, q.2.mono e⟩) h3⟩
  | fv f c q σ ys => exact ⟨h.1, e _ _ h.2.1, h.2.2.mono e p⟩
  | th t => exact RelTh.mono h e
  | tl ts => obtain ⟨vs, h2, h3⟩ := h; exact ⟨vs, e _ _ h2, paired_mono (fun _ _ q => RelTh.mono q e) h3⟩
  | o cls fs => obtain ⟨h1, vs, ⟨C, dx, h4, h2⟩, h3⟩ := h; exact ⟨by rw [n rfl]; exact h1, vs, ⟨C, dx, h4, by rw [k rfl]; exact h2⟩, paired_mono (fun _ _ q => ⟨q.1, q.2.mono e p⟩) h3⟩
/-- cells that name no cells -/
theorem RelCe.kl {mg : Str → Option Value} {H Hi : Hp} {as as' : List Addr} {a : Addr} {c : Ce} (h : RelCe mg H Hi as a c) : RelCe mg H Hi as' a (kl c) := by
  cases c with
  | v xs => trivial
  | w kvs => trivial
  | t xs => trivial
  | o _ _ => trivial
  | fv _ _ _ _ _ => trivial
  | _ => exact h
theorem RelCe.ne_new {mg : Str → Option Value} {H Hi : Hp} {as : List Addr} {a p : Addr} {c : Ce} (h : RelCe mg H Hi as a c) (hc : c.alive = true) (hp : H p = none) : a ≠ p := by
  rintro rfl
  cases c with
  | l xs => obtain ⟨h1, vs, h2, h3⟩ := h; rw [hp] at h2; cases h2
  | f xs => cases hc
  | m kvs => obtain ⟨h1, vs, h2, h3⟩ := h; rw [hp] at h2; cases h2
  | g => cases hc
  | x e' => cases hc
  | v xs => obtain ⟨h1, vs, h2, h3⟩ := h; rw [hp] at h2; cases h2
  | w kvs => obtain ⟨h1, vs, h2, h3⟩ := h; rw [hp] at h2; cases h2
  | t xs => cases hc
  | tb _ q => obtain ⟨h1, vs, h2, h3⟩ := h; rw [hp] at h2; cases h2
  | fn _ _ _ _ _ => cases hc
  | y kvs => obtain ⟨h1, vs, h2, h3⟩ := h; rw [hp] at h2; cases h2
  | yf _ => cases hc
  | o _ _ => obtain ⟨h1, vs, ⟨C, dx, h4, h2⟩, h3⟩ := h; rw [hp] at h2; cases h2
  | fv _ _ _ _ _ => cases hc
  | th _ => cases hc
  | tl _ => cases hc
theorem RelCe.no_tup {mg : Str → Option Value} {H Hi : Hp} {as : List Addr} {a : Addr} {c : Ce} {ws : List V} (h : RelCe mg H Hi as a c) (hc : c.alive = true) (ht : H a = some (.tup ws)) : False := by
  cases c with
  | l xs => obtain ⟨h1, vs, h2, h3⟩ := h; rw [ht] at h2; cases h2
  | f xs => cases hc
  | m kvs => obtain ⟨h1, vs, h2, h3⟩ := h; rw [ht] at h2; cases h2
  | g => cases hc
  | x e' => cases hc
  | v xs => obtain ⟨h1, vs, h2, h3⟩ := h; rw [ht] at h2; cases h2
  | w kvs => obtain ⟨h1, vs, h2, h3⟩ := h; rw [ht] at h2; cases h2
  | t xs => cases hc
  | tb _ q => obtain ⟨h1, vs, h2, h3⟩ := h; rw [ht] at h2; cases h2
  | fn _ _ _ _ _ => cases hc
  | y kvs => obtain ⟨h1, vs, h2, h3⟩ := h; rw [ht] at h2; cases h2
  | yf _ => cases hc
  | o _ _ => obtain ⟨h1, vs, ⟨C, dx, h4, h2⟩, h3⟩ := h; rw [ht] at h2; cases h2
  | fv _ _ _ _ _ => cases hc
  | th _ => cases hc
  | tl _ => cases hc
theorem RelCe.hi_none {mg : Str → Option Value} {H Hi : Hp} {as : List Addr} {a : Addr} {c : Ce} (h : RelCe mg H Hi as a c) (hc : c.alive = true) : Hi a = none := by
  cases c with
  | l xs => exact h.1
  | f xs => cases hc
  | m kvs => exact h.1
  | g => cases hc
  | x e' => cases hc
  | v xs => exact h.1
  | w kvs => exact h.1
  | t xs => cases hc
  | tb _ q => exact h.1
  | fn _ _ _ _ _ => cases hc
  | y kvs => exact h.1
  | yf _ => cases hc
  | o _ _ => exact h.1
  | fv _ _ _ _ _ => cases hc
  | th _ => cases hc
  | tl _ => cases hc
theorem Rep.fresh0 (r : Rep B σ H Hi as s) {p : Addr} (hp : H p = none) : B.H0 p = none ∨ p ∈ B.A0 := by
  by_cases h : p ∈ B.A0
  · exact .inr h
  · left
    cases e : B.H0 p with
    | none => rfl
    | some u =>
      obtain ⟨w, q⟩ := (r.fr p u e h).some
      rw [hp] at q; cases q
/-- an object that nobody asks for -/
theorem Rep.add (r : Rep B σ H Hi as s) {p : Addr} {o : HO} (hp : H p = none) : Rep B σ (upd H p o) Hi as s where
  sub := fun b u e => (r.sub b u e).upd fun z => by rw [z, r.fresh hp] at e; cases e
  lkd := r.lkd
  fr := fun b u e n => (r.fr b u e n).upd fun z => by
    obtain ⟨w, q⟩ := (r.fr b u e n).some
    rw [z, hp] at q; cases q
  hin := r.hin
  new := r.new
  len := r.len
  slo := r.slo
  lea := r.lea
  cel := fun j a c e1 e2 => (r.cel j a c e1 e2).mono (Same.refl _) (List.prefix_refl _) (fun _ => rfl) fun hc => upd_ne ((r.cel j a c e1 e2).ne_new hc hp)
  inj := r.inj
/-- an object that is never changed -/
theorem Rep.addI (r : Rep B σ H Hi as s) {p : Addr} {o : HO} (hp : H p = none) : Rep B σ (upd H p o) (upd Hi p o) as s where
  sub := fun b u e => by
    by_cases z : b = p
    · subst z
      rw [upd_same] at e; cases e
      have n : b ∉ B.lk0 ++ B.lk1 := fun q => by
        obtain ⟨k, e⟩ := r.lkd b q
        rw [r.fresh hp] at e; cases e
      unfold HL
      rw [if_neg n, upd_same]
    · rw [upd_ne z] at e
      exact (r.sub b u e).upd z
  lkd := fun b hb => by
    obtain ⟨k, e⟩ := r.lkd b hb
    exact ⟨k, by rw [upd_ne (ne_of_none e (r.fresh hp))]; exact e⟩
  fr := (r.add hp).fr
  hin := fun b u e => by
    by_cases z : b = p
    · subst z
      exact .inr (or3 (r.fresh0 hp))
    · rw [upd_ne z] at e
      exact r.hin b u e
  new := r.new
  len := r.len
  slo := fun i x e => by
    obtain ⟨v, a, b⟩ := r.slo i x e
    exact ⟨v, a, b.mono (same_new (r.fresh hp)) (List.prefix_refl _)⟩
  lea := r.lea
  cel := fun j a c e1 e2 => (r.cel j a c e1 e2).mono (same_new (r.fresh hp)) (List.prefix_refl _) (fun hc => upd_ne ((r.cel j a c e1 e2).ne_new hc hp)) fun hc => upd_ne ((r.cel j a c e1 e2).ne_new hc hp)
  inj := r.inj
/-- a new cell -/
theorem Rep.addC (r : Rep B σ H Hi as s) {p : Addr} {o : HO} {c : Ce} (hp : H p = none) (hc : c.alive = true) (hr : RelCe mg (upd H p o) Hi (as ++ [p]) p c) :
    Rep B σ (upd H p o) Hi (as ++ [p]) { s with ce := s.ce ++ [c] } := by
  have r1 := r.add (o := o) hp
  have hB := r.fresh0 hp
  have look : ∀ j a c', (as ++ [p])[j]? = some a → (s.ce ++ [c])[j]? = some c' → (as[j]? = some a ∧ s.ce[j]? = some c') ∨ (j = as.length ∧ a = p ∧ c' = c) := fun j a c' e1 e2 => by
    by_cases hj : j < as.length
    · rw [List.getElem?_append_left hj] at e1
      rw [List.getElem?_append_left (by rw [← r.lea]; exact hj)] at e2
      exact .inl ⟨e1, e2⟩
    · rw [List.getElem?_append_right (by omega)] at e1
      rw [List.getElem?_append_right (by rw [← r.lea]; omega), ← r.lea] at e2
      have hz : j - as.length = 0 := by
        cases hh : j - as.length with
        | zero => rfl
        | succ n => rw [hh] at e1; simp at e1
      rw [hz] at e1 e2
      simp at e1 e2
      exact .inr ⟨by omega, e1.symm, e2.symm⟩
  refine ⟨r1.sub, r1.lkd, r1.fr, r1.hin, fun j a c' e1 e2 al => ?_, r1.len, fun i x e => ?_, ?_, fun j a c' e1 e2 => ?_, fun i j a c1 c2 e1 e2 e3 e4 a1 a2 => ?_⟩
  · rcases look j a c' e1 e2 with ⟨q1, q2⟩ | ⟨_, rfl, rfl⟩
    · exact r.new j a c' q1 q2 al
    · exact hB.symm
  · obtain ⟨v, a, b⟩ := r.slo i x e
    exact ⟨v, a, b.mono (Same.refl _) (List.prefix_append _ _)⟩
  · simp [r.lea]
  · rcases look j a c' e1 e2 with ⟨q1, q2⟩ | ⟨_, rfl, rfl⟩
    · exact (r1.cel j a c' q1 q2).mono (Same.refl _) (List.prefix_append _ _) (fun _ => rfl) fun _ => rfl
    · exact hr
  · rcases look i a c1 e1 e3 with ⟨q1, q3⟩ | ⟨z1, rfl, rfl⟩
    · rcases look j a c2 e2 e4 with ⟨q2, q4⟩ | ⟨z2, rfl, rfl⟩
      · exact r.inj i j a c1 c2 q1 q2 q3 q4 a1 a2
      · exact absurd rfl ((r.cel i a c1 q1 q3).ne_new a1 hp)
    · rcases look j a c2 e2 e4 with ⟨q2, q4⟩ | ⟨z2, _, rfl⟩
      · exact absurd rfl ((r.cel j a c2 q2 q4).ne_new a2 hp)
      · omega
theorem lt_of_get {α : Type} {l : List α} {i : Nat} {x : α} (h : l[i]? = some x) : i < l.length := (List.getElem?_eq_some_iff.mp h).1
/-- a cell changes -/
theorem Rep.mut (r : Rep B σ H Hi as s) {j : Nat} {a : Addr} {c c' : Ce} {o : HO} (ha : as[j]? = some a) (hc : s.ce[j]? = some c) (al : c.alive = true) (al' : c'.alive = true) (hr : RelCe mg (upd H a o) Hi as a c') :
    Rep B σ (upd H a o) Hi as { s with ce := s.ce.set j c' } := by
  have hn : Hi a = none := (r.cel j a c ha hc).hi_none al
  have hlk : a ∉ B.lk0 ++ B.lk1 := fun z => by
    obtain ⟨k, e⟩ := r.lkd a z
    rw [hn] at e; cases e
  refine ⟨fun b u e => (r.sub b u e).upd (ne_of_none e hn), r.lkd, fun b u e n => ?_, r.hin, fun i b x e1 e2 ax => ?_, r.len, r.slo, by simp [r.lea], fun i b x e1 e2 => ?_, fun i k b x y e1 e2 e3 e4 ax ay => ?_⟩
  · refine (r.fr b u e n).upd fun z => ?_
    subst z
    rcases r.new j b c ha hc al with q | q
    · exact n q
    · rw [q] at e; cases e
  · by_cases z : i = j
    · subst z
      rw [ha] at e1; cases e1
      exact r.new i a c ha hc al
    · rw [List.getElem?_set_ne (Ne.symm z)] at e2
      exact r.new i b x e1 e2 ax
  · by_cases z : i = j
    · subst z
      rw [ha] at e1; cases e1
      rw [List.getElem?_set_self (lt_of_get hc)] at e2
      cases e2
      exact hr
    · rw [List.getElem?_set_ne (Ne.symm z)] at e2
      refine (r.cel i b x e1 e2).mono (Same.refl _) (List.prefix_refl _) (fun _ => rfl) fun ax => upd_ne fun q => ?_
      subst q
      exact z (r.inj i j b x c e1 ha e2 hc ax al)
  · have f : ∀ (i : Nat) (x : Ce), (s.ce.set j c')[i]? = some x → x.alive = true → ∃ x' : Ce, s.ce[i]? = some x' ∧ x'.alive = true := fun i x e ax => by
      by_cases z : i = j
      · subst z
        exact ⟨c, hc, al⟩
      · rw [List.getElem?_set_ne (Ne.symm z)] at e
        exact ⟨x, e, ax⟩
    obtain ⟨x', q1, q2⟩ := f i x e3 ax
    obtain ⟨y', q3, q4⟩ := f k y e4 ay
    exact r.inj i k b x' y' e1 e2 q1 q3 q2 q4
/-- a cell is frozen -/
theorem Rep.freezeO (r : Rep B σ H Hi as s) {j : Nat} {a : Addr} {c c' : Ce} {o : HO} (ha : as[j]? = some a) (hc : s.ce[j]? = some c) (al : c.alive = true) (al' : c'.alive = false) (hv : H a = some o) (hd : RelCe mg H (upd Hi a o) as a c') :
    Rep B σ H (upd Hi a o) as { s with ce := s.ce.set j c' } := by
  have hn : Hi a = none := (r.cel j a _ ha hc).hi_none al
  have sm : Same Hi (upd Hi a o) := same_new hn
  have hlk : a ∉ B.lk0 ++ B.lk1 := fun z => by
    obtain ⟨k, e⟩ := r.lkd a z
    rw [hn] at e; cases e
  refine ⟨fun b u e => ?_, fun b hb => ?_, r.fr, fun b u e => ?_, fun i b x e1 e2 ax => ?_, r.len, fun i x e => ?_, by simp [r.lea], fun i b x e1 e2 => ?_, fun i k b x y e1 e2 e3 e4 ax ay => ?_⟩
  · by_cases z : b = a
    · subst z
      rw [upd_same] at e; cases e
      unfold HL
      rw [if_neg hlk]
      exact hv
    · rw [upd_ne z] at e
      exact r.sub b u e
  · obtain ⟨k, e⟩ := r.lkd b hb
    exact ⟨k, sm _ _ e⟩
  · by_cases z : b = a
    · subst z
      exact .inr (or3 (r.new j b _ ha hc al).symm)
    · rw [upd_ne z] at e
      exact r.hin b u e
  · by_cases z : i = j
    · subst z
      rw [List.getElem?_set_self (lt_of_get hc)] at e2
      cases e2
      rw [al'] at ax; cases ax
    · rw [List.getElem?_set_ne (Ne.symm z)] at e2
      exact r.new i b x e1 e2 ax
  · obtain ⟨v, q1, q2⟩ := r.slo i x e
    exact ⟨v, q1, q2.mono sm (List.prefix_refl _)⟩
  · by_cases z : i = j
    · subst z
      rw [ha] at e1; cases e1
      rw [List.getElem?_set_self (lt_of_get hc)] at e2
      cases e2
      exact hd
    · rw [List.getElem?_set_ne (Ne.symm z)] at e2
      refine (r.cel i b x e1 e2).mono sm (List.prefix_refl _) (fun ax => upd_ne fun q => ?_) fun _ => rfl
      subst q
      exact z (r.inj i j b x _ e1 ha e2 hc ax al)
  · have f : ∀ (i : Nat) (x : Ce), (s.ce.set j c')[i]? = some x → x.alive = true → s.ce[i]? = some x := fun i x e ax => by
      by_cases z : i = j
      · subst z
        rw [List.getElem?_set_self (lt_of_get hc)] at e
        cases e
        rw [al'] at ax; cases ax
      · rw [List.getElem?_set_ne (Ne.symm z)] at e
        exact e
    exact r.inj i k b x y e1 e2 (f i x e3 ax) (f k y e4 ay) ax ay
theorem Rep.freeze (r : Rep B σ H Hi as s) {j : Nat} {a : Addr} {xs : List D} {vs : List V} {c : Ce} (ha : as[j]? = some a) (hc : s.ce[j]? = some c) (al : c.alive = true) (hv : H a = some (.lst vs)) (hd : DqA Hi vs xs) :
    Rep B σ H (upd Hi a (.lst vs)) as { s with ce := s.ce.set j (.f xs) } :=
  r.freezeO ha hc al rfl hv ⟨vs, upd_same, hd.mono (same_new ((r.cel j a _ ha hc).hi_none al))⟩
/-- a name is bound -/
theorem Rep.bind (r : Rep B σ H Hi as s) {i : Nat} {v : V} {x : Vl} (h : RelVl Hi as v x) : Rep B (σ.set i (some v)) H Hi as { s with sl := s.sl.set i (some x) } := by
  refine ⟨r.sub, r.lkd, r.fr, r.hin, r.new, by simp [r.len], fun k y e => ?_, r.lea, r.cel, r.inj⟩
  by_cases z : k = i
  · subst z
    have hk : k < s.sl.length := by
      have := lt_of_get e
      simpa using this
    rw [List.getElem?_set_self hk] at e
    cases e
    exact ⟨v, by rw [List.getElem?_set_self (by rw [r.len]; exact hk)], h⟩
  · rw [List.getElem?_set_ne (Ne.symm z)] at e ⊢
    exact r.slo k y e
end
end DL

end DLsec_0

section DLsec_1
set_option maxRecDepth 100000
namespace DL
open PySem PySem.Spec PyProof.Rows L2

def OKs {mg : Str → Option Value} (B : Bd mg) (σ : St) (Hi : Hp) (as : List Addr) (s' : S) (P : Hp → Hp → List Addr → Prop) : Prop :=
  ∀ H' Hi' as', Rep B σ H' Hi' as' s' → Same Hi Hi' → as <+: as' → P H' Hi' as'
/-- what an exception is to meet -/
def XW (mg : Str → Option Value) (W : WX) (B : Bd mg) (σ : St) (Hi : Hp) (as : List Addr) : Ex → S → Prop := fun e s' =>
  OKs B σ Hi as s' fun H' Hi' _ => ∀ cls d, ExR mg Hi' e cls d → W cls d σ H'
theorem OKs.mono {mg : Str → Option Value} {B : Bd mg} {σ : St} {Hi Hi1 : Hp} {as as1 : List Addr} {s' : S} {P : Hp → Hp → List Addr → Prop} (h : OKs B σ Hi as s' P) (e : Same Hi Hi1) (p : as <+: as1) : OKs B σ Hi1 as1 s' P :=
  fun H' Hi' as' r e' p' => h H' Hi' as' r (e.trans e') (p.trans p')
theorem OKs.now {mg : Str → Option Value} {B : Bd mg} {σ : St} {H Hi : Hp} {as : List Addr} {s' : S} {P : Hp → Hp → List Addr → Prop} (h : OKs B σ Hi as s' P) (r : Rep B σ H Hi as s') : P H Hi as := h H Hi as r (Same.refl _) (List.prefix_refl _)
theorem XW.mono {mg : Str → Option Value} {W : WX} {B : Bd mg} {σ : St} {Hi Hi1 : Hp} {as as1 : List Addr} {e : Ex} {s' : S} (h : XW mg W B σ Hi as e s') (x : Same Hi Hi1) (p : as <+: as1) : XW mg W B σ Hi1 as1 e s' := OKs.mono h x p

def SE (mg : Str → Option Value) (W : WX) (t : TE) (f : M Vl) : Prop := ∀ (B : Bd mg) (σ : St) (H Hi : Hp) (as : List Addr) (s : S) (Q : VK), Rep B σ H Hi as s →
  wpR (f s) (fun x s' => OKs B σ Hi as s' fun H' Hi' as' => ∀ v, RelVl Hi' as' v x → Q v H') (XW mg W B σ Hi as) → t σ H Q
def ST (mg : Str → Option Value) (W : WX) (t : TT) (f : M Bool) : Prop := ∀ (B : Bd mg) (σ : St) (H Hi : Hp) (as : List Addr) (s : S) (Q : Bool → Hp → Prop), Rep B σ H Hi as s →
  wpR (f s) (fun x s' => OKs B σ Hi as s' fun H' _ _ => Q x H') (XW mg W B σ Hi as) → t σ H Q
abbrev RelVls (Hi : Hp) (as : List Addr) : List V → List Vl → Prop := Paired (RelVl Hi as)
def SA (mg : Str → Option Value) (W : WX) (t : TA) (f : M (List Vl)) : Prop := ∀ (B : Bd mg) (σ : St) (H Hi : Hp) (as : List Addr) (s : S) (Q : List V → Hp → Prop), Rep B σ H Hi as s →
  wpR (f s) (fun x s' => OKs B σ Hi as s' fun H' Hi' as' => ∀ v, RelVls Hi' as' v x → Q v H') (XW mg W B σ Hi as) → t σ H Q
/-- a new list -/
def SF (mg : Str → Option Value) (W : WX) (t : TE) (f : M (List D)) : Prop := ∀ (B : Bd mg) (σ : St) (H Hi : Hp) (as : List Addr) (s : S) (Q : VK), Rep B σ H Hi as s →
  wpR (f s) (fun xs s' => OKs B σ Hi as s' fun H' Hi' as' => ∀ p vs, H' p = none → DqA Hi' vs xs → Q (.ref p) (upd H' p (.lst vs))) (XW mg W B σ Hi as) → t σ H Q
def SO (mg : Str → Option Value) (W : WX) (t : TO) (f : M (Option Int)) : Prop := ∀ (B : Bd mg) (σ : St) (H Hi : Hp) (as : List Addr) (s : S) (Q : Option Int → Hp → Prop), Rep B σ H Hi as s →
  wpR (f s) (fun x s' => OKs B σ Hi as s' fun H' _ _ => Q x H') (XW mg W B σ Hi as) → t σ H Q
inductive Fl where
  | nx
  | rt (v : Vl)
  | bk
  | ct
def FlP (Dn : Ends) (σ' : St) (H' Hi' : Hp) (as' : List Addr) : Fl → Prop
  | .nx => Dn.nx σ' H'
  | .bk => Dn.bk σ' H'
  | .ct => Dn.ct σ' H'
  | .rt x => ∀ v, RelVl Hi' as' v x → Dn.rt v H'
def SS (mg : Str → Option Value) (W : WX) (t : TS) (f : M Fl) : Prop := ∀ (B : Bd mg) (σ : St) (H Hi : Hp) (as : List Addr) (s : S) (Dn : Ends), Rep B σ H Hi as s →
  wpR (f s) (fun fl s' => ∀ σ', OKs B σ' Hi as s' fun H' Hi' as' => FlP Dn σ' H' Hi' as' fl) (fun e s' => ∀ σ', XW mg W B σ' Hi as e s') → t Dn σ H
/-- an operation on values: nothing is raised, no cell changes -/
abbrev O2 (α : Type) := Vl → Vl → S → Option α
abbrev OA (α : Type) := List Vl → S → Option α
def gets {α : Type} (o : S → Option α) : M α := fun s => match o s with
  | some a => .ok a s
  | none => .no
/-- a value, a new list at the end -/
def EndV {mg : Str → Option Value} (B : Bd mg) (σ : St) (Hi : Hp) (as : List Addr) (s : S) (Q : VK) (z : Vl) : Prop := ∀ H' Hi', Rep B σ H' Hi' as s → Same Hi Hi' → ∀ w, RelVl Hi' as w z → Q w H'
def EndF {mg : Str → Option Value} (B : Bd mg) (σ : St) (Hi : Hp) (as : List Addr) (s : S) (Q : VK) (z : List D) : Prop := ∀ H' Hi', Rep B σ H' Hi' as s → Same Hi Hi' → ∀ p vs, H' p = none → DqA Hi' vs z → Q (.ref p) (upd H' p (.lst vs))
def OpS (r : R2) (o : O2 Vl) : Prop := ∀ {mg : Str → Option Value} (B : Bd mg) (σ : St) (H Hi : Hp) (as : List Addr) (s : S) (x y z : Vl) (u v : V) (Q : VK), Rep B σ H Hi as s → RelVl Hi as u x → RelVl Hi as v y →
  o x y s = some z → EndV B σ Hi as s Q z → r u v H Q
def OpF (r : R2) (o : O2 (List D)) : Prop := ∀ {mg : Str → Option Value} (B : Bd mg) (σ : St) (H Hi : Hp) (as : List Addr) (s : S) (x y : Vl) (z : List D) (u v : V) (Q : VK), Rep B σ H Hi as s → RelVl Hi as u x → RelVl Hi as v y →
  o x y s = some z → EndF B σ Hi as s Q z → r u v H Q
abbrev RC := List V → Hp → VK → Prop
def CaS (r : RC) (o : OA Vl) : Prop := ∀ {mg : Str → Option Value} (B : Bd mg) (σ : St) (H Hi : Hp) (as : List Addr) (s : S) (xs : List Vl) (z : Vl) (vs : List V) (Q : VK), Rep B σ H Hi as s → RelVls Hi as vs xs →
  o xs s = some z → EndV B σ Hi as s Q z → r vs H Q
/-! ### what is done with the state -/
def fVar (i : Nat) : M Vl := fun s => match s.sl[i]? with
  | some (some x) => .ok x s
  | _ => .no
def fC (x : D) : M Vl := ret (.d x)
def fOp {α : Type} (o : O2 α) (fa fb : M Vl) : M α := bnd fa fun x => bnd fb fun y => gets (o x y)
def fNil : M (List Vl) := ret []
def fCons (fa : M Vl) (fr : M (List Vl)) : M (List Vl) := bnd fa fun x => bnd fr fun xs => ret (x :: xs)
def fCall {α : Type} (o : OA α) (fa : M (List Vl)) : M α := bnd fa fun xs => gets (o xs)
/-- a new list as data, as a cell -/
def fDat (f : M (List D)) : M Vl := bnd f fun xs => ret (.d (.list xs))
def fCell (f : M (List D)) : M Vl := bnd f fun xs s => .ok (.c s.ce.length) { s with ce := s.ce ++ [.l xs] }
def dat (s : S) : Vl → Option D
  | .d x => some x
  | .c j => match s.ce[j]? with
    | some (.l xs) => some (.list xs)
    | some (.f xs) => some (.list xs)
    | _ => none
def datL (s : S) (x : Vl) : Option (List D) := match dat s x with
  | some (.list xs) => some xs
  | _ => none
/-- as data from now on -/
def frz0 (x : Vl) : M D := fun s => match x with
  | .d y => .ok y s
  | .c j => match s.ce[j]? with
    | some (.l xs) => .ok (.list xs) { s with ce := s.ce.set j (.f xs) }
    | some (.f xs) => .ok (.list xs) s
    | _ => .no
def frzs0 : List Vl → M (List D)
  | [] => ret []
  | x :: xs => bnd (frz0 x) fun y => bnd (frzs0 xs) fun ys => ret (y :: ys)
def frz (x : Vl) : M D := fun s => match x with
  | .d y => .ok y s
  | .c j => match s.ce[j]? with
    | some (.l xs) => .ok (.list xs) { s with ce := s.ce.set j (.f xs) }
    | some (.f xs) => .ok (.list xs) s
    | some (.v xs) => bnd (frzs0 xs) (fun ys s' => .ok (.list ys) { s' with ce := s'.ce.set j (.f ys) }) s
    | some (.t xs) => bnd (frzs0 xs) (fun ys s' => .ok (.tuple ys) s') s
    | _ => .no
def frzs : List Vl → M (List D)
  | [] => ret []
  | x :: xs => bnd (frz x) fun y => bnd (frzs xs) fun ys => ret (y :: ys)

section
variable {mg : Str → Option Value} {W : WX} {B : Bd mg} {σ : St} {H Hi : Hp} {as : List Addr} {s : S}
variable {ta tb tc : TE} {fa fb fc : M Vl}

theorem Rep.datL (r : Rep B σ H Hi as s) {v : V} {x : Vl} {xs : List D} (h : RelVl Hi as v x) (e : datL s x = some xs) : ∃ a vs, v = .ref a ∧ H a = some (.lst vs) ∧ DqA Hi vs xs := by
  unfold DL.datL at e
  cases h with
  | d q =>
    cases q with
    | lst h1 h2 => cases e; exact ⟨_, _, rfl, r.lst h1, h2⟩
    | _ => cases e
  | @c a j q =>
    simp only [dat] at e
    cases hc : s.ce[j]? with
    | none => rw [hc] at e; cases e
    | some c =>
      rw [hc] at e
      cases c with
      | l ys => cases e; obtain ⟨_, vs, h1, h2⟩ := r.cel j a _ q hc; exact ⟨a, vs, rfl, h1, h2⟩
      | f ys => cases e; obtain ⟨vs, h1, h2⟩ := r.cel j a _ q hc; exact ⟨a, vs, rfl, r.lst h1, h2⟩
      | m kvs => cases e
      | g => cases e
      | x e1 => cases e
      | v _ => cases e
      | w _ => cases e
      | t _ => cases e
      | tb _ _ => cases e
      | fn _ _ _ _ _ => cases e
      | y _ => cases e
      | yf _ => cases e
      | o _ _ => cases e
      | fv _ _ _ _ _ => cases e
      | th _ => cases e
      | tl _ => cases e
/-- freezing a value -/
def Kept (s s' : S) : Prop := ∀ (i : Nat) (c : Ce), s.ce[i]? = some c → (∀ xs : List D, c ≠ .l xs) → s'.ce[i]? = some c
theorem Rep.frz0 (r : Rep B σ H Hi as s) {v : V} {x : Vl} (h : RelVl Hi as v x) {P : D → S → Prop} {E : Ex → S → Prop} (w : wpR (DL.frz0 x s) P E) :
    ∃ y s' Hi', P y s' ∧ Rep B σ H Hi' as s' ∧ Same Hi Hi' ∧ Dq Hi' v y ∧ Kept s s' := by
  cases h with
  | d q => exact ⟨_, s, Hi, w, r, Same.refl _, q, fun _ _ h _ => h⟩
  | @c a j q =>
    simp only [DL.frz0] at w
    cases hc : s.ce[j]? with
    | none => rw [hc] at w; exact w.elim
    | some c =>
      rw [hc] at w
      cases c with
      | l ys =>
        obtain ⟨hn, vs, h1, h2⟩ := r.cel j a _ q hc
        have sm : Same Hi (upd Hi a (.lst vs)) := same_new hn
        refine ⟨_, _, _, w, r.freeze q hc rfl h1 h2, sm, .lst upd_same (h2.mono sm), fun i c h n => ?_⟩
        have : i ≠ j := fun z => by
          subst z
          rw [hc] at h
          exact n ys (Option.some.inj h).symm
        show (s.ce.set j (.f ys))[i]? = some c
        rw [List.getElem?_set_ne (Ne.symm this)]
        exact h
      | f ys =>
        obtain ⟨vs, h1, h2⟩ := r.cel j a _ q hc
        exact ⟨_, _, _, w, r, Same.refl _, .lst h1 h2, fun _ _ h _ => h⟩
      | _ => exact w.elim
theorem relVls_mono {Hi' : Hp} {as' : List Addr} (e : Same Hi Hi') (p : as <+: as') : ∀ {vs : List V} {xs : List Vl}, RelVls Hi as vs xs → RelVls Hi' as' vs xs
  | _, _, .nil => .nil
  | _, _, .cons h r => .cons (h.mono e p) (relVls_mono e p r)
theorem Rep.frzs0 : ∀ {xs : List Vl} {vs : List V} {s : S} {Hi : Hp} {P : List D → S → Prop} {E : Ex → S → Prop}, Rep B σ H Hi as s → RelVls Hi as vs xs → wpR (DL.frzs0 xs s) P E →
    ∃ ys s' Hi', P ys s' ∧ Rep B σ H Hi' as s' ∧ Same Hi Hi' ∧ DqA Hi' vs ys ∧ Kept s s'
  | [], _, s, Hi, P, E, r, .nil, w => ⟨[], s, Hi, w, r, Same.refl _, .nil, fun _ _ h _ => h⟩
  | x :: xs, _, s, Hi, P, E, r, .cons h hs, w => by
    obtain ⟨y, s1, Hi1, w1, r1, e1, q1, k1⟩ := r.frz0 h (wp_bnd w)
    obtain ⟨ys, s2, Hi2, w2, r2, e2, q2, k2⟩ := Rep.frzs0 r1 (relVls_mono e1 (List.prefix_refl _) hs) (wp_bnd w1)
    exact ⟨y :: ys, s2, Hi2, w2, r2, e1.trans e2, .cons (q1.mono e2) q2, fun i c h n => k2 i c (k1 i c h n) n⟩
theorem Rep.frz (r : Rep B σ H Hi as s) {v : V} {x : Vl} (h : RelVl Hi as v x) {P : D → S → Prop} {E : Ex → S → Prop} (w : wpR (DL.frz x s) P E) :
    ∃ y s' Hi', P y s' ∧ Rep B σ H Hi' as s' ∧ Same Hi Hi' ∧ Dq Hi' v y := by
  cases h with
  | d q => exact ⟨_, s, Hi, w, r, Same.refl _, q⟩
  | @c a j q =>
    simp only [DL.frz] at w
    cases hc : s.ce[j]? with
    | none => rw [hc] at w; exact w.elim
    | some c =>
      rw [hc] at w
      cases c with
      | l ys =>
        obtain ⟨hn, vs, h1, h2⟩ := r.cel j a _ q hc
        have sm : Same Hi (upd Hi a (.lst vs)) := same_new hn
        exact ⟨_, _, _, w, r.freeze q hc rfl h1 h2, sm, .lst upd_same (h2.mono sm)⟩
      | f ys =>
        obtain ⟨vs, h1, h2⟩ := r.cel j a _ q hc
        exact ⟨_, _, _, w, r, Same.refl _, .lst h1 h2⟩
      | v xs =>
        obtain ⟨hn, vs, h1, h2⟩ := r.cel j a _ q hc
        obtain ⟨ys, s1, Hi1, w1, r1, e1, q1, k1⟩ := r.frzs0 h2 (wp_bnd w)
        have hc1 := k1 j _ hc (fun _ z => by cases z)
        have sm : Same Hi1 (upd Hi1 a (.lst vs)) := same_new ((r1.cel j a _ q hc1).hi_none rfl)
        exact ⟨_, _, _, w1, r1.freeze q hc1 rfl h1 q1, e1.trans sm, .lst upd_same (q1.mono sm)⟩
      | t xs =>
        obtain ⟨vs, h1, h2⟩ := r.cel j a _ q hc
        obtain ⟨ys, s1, Hi1, w1, r1, e1, q1, k1⟩ := r.frzs0 h2 (wp_bnd w)
        exact ⟨_, _, _, w1, r1, e1, .tup (e1 _ _ h1) q1⟩
      | w kvs => exact w.elim
      | m kvs => exact w.elim
      | g => exact w.elim
      | x e1 => exact w.elim
      | tb _ _ => exact w.elim
      | fn _ _ _ _ _ => exact w.elim
      | y _ => exact w.elim
      | yf _ => exact w.elim
      | o _ _ => exact w.elim
      | fv _ _ _ _ _ => exact w.elim
      | th _ => exact w.elim
      | tl _ => exact w.elim
theorem Rep.frzs : ∀ {xs : List Vl} {vs : List V} {s : S} {Hi : Hp} {P : List D → S → Prop} {E : Ex → S → Prop}, Rep B σ H Hi as s → RelVls Hi as vs xs → wpR (DL.frzs xs s) P E →
    ∃ ys s' Hi', P ys s' ∧ Rep B σ H Hi' as s' ∧ Same Hi Hi' ∧ DqA Hi' vs ys
  | [], _, s, Hi, P, E, r, .nil, w => ⟨[], s, Hi, w, r, Same.refl _, .nil⟩
  | x :: xs, _, s, Hi, P, E, r, .cons h hs, w => by
    obtain ⟨y, s1, Hi1, w1, r1, e1, q1⟩ := r.frz h (wp_bnd w)
    obtain ⟨ys, s2, Hi2, w2, r2, e2, q2⟩ := Rep.frzs r1 (relVls_mono e1 (List.prefix_refl _) hs) (wp_bnd w1)
    exact ⟨y :: ys, s2, Hi2, w2, r2, e1.trans e2, .cons (q1.mono e2) q2⟩

theorem se_var (i : Nat) : SE mg W (tVar i) (fVar i) := fun B σ H Hi as s Q r w => by
  unfold fVar at w
  cases e : s.sl[i]? with
  | none => rw [e] at w; exact w.elim
  | some o =>
    cases o with
    | none => rw [e] at w; exact w.elim
    | some x =>
      rw [e] at w
      obtain ⟨v, h1, h2⟩ := r.slo i x e
      exact ⟨v, h1, (OKs.now w r) v h2⟩
theorem se_c {v : V} {x : D} (h : ∀ H, Dq H v x) : SE mg W (tC v) (fC x) := fun B σ H Hi as s Q r w => (OKs.now w r) v (.d (h Hi))
theorem se_int (i : Int) : SE mg W (tC (.int i)) (fC (.int i)) := se_c fun _ => .int i
theorem se_bl (i : Bool) : SE mg W (tC (.bl i)) (fC (.bool i)) := se_c fun _ => .bl i
theorem se_str (i : Str) : SE mg W (tC (.str i)) (fC (.str i)) := se_c fun _ => .str i
theorem se_non : SE mg W (tC .non) (fC .none) := se_c fun _ => .non
/-- two expressions, then something -/
theorem two (ha : SE mg W ta fa) (hb : SE mg W tb fb) {α : Type} {k : Vl → Vl → M α} {P : α → S → Prop} {R : V → V → Hp → Prop} (r : Rep B σ H Hi as s) (w : wpR (bnd fa (fun x => bnd fb fun y => k x y) s) P (XW mg W B σ Hi as))
    (hk : ∀ x y s2 H2 Hi2 as2 u v, Rep B σ H2 Hi2 as2 s2 → Same Hi Hi2 → as <+: as2 → RelVl Hi2 as2 u x → RelVl Hi2 as2 v y → wpR (k x y s2) P (XW mg W B σ Hi2 as2) → R u v H2) :
    ta σ H fun x H1 => tb σ H1 fun y H2 => R x y H2 := by
  refine ha B σ H Hi as s _ r (wp_mono (wp_bnd w) (fun x s1 w1 => ?_) fun _ _ z => z)
  intro H1 Hi1 as1 r1 e1 p1 u hu
  refine hb B σ H1 Hi1 as1 s1 _ r1 (wp_mono (wp_bnd w1) (fun y s2 w2 => ?_) fun e s' z => XW.mono z e1 p1)
  intro H2 Hi2 as2 r2 e2 p2 v hv
  exact hk x y s2 H2 Hi2 as2 u v r2 (e1.trans e2) (p1.trans p2) (hu.mono e2 p2) hv (wp_mono w2 (fun _ _ z => z) fun e s' z => XW.mono z (e1.trans e2) (p1.trans p2))
theorem wp_gets {α : Type} {o : S → Option α} {P : α → S → Prop} {E : Ex → S → Prop} (w : wpR (gets o s) P E) : ∃ z, o s = some z ∧ P z s := by
  unfold gets at w
  cases e : o s with
  | none => rw [e] at w; exact w.elim
  | some z => rw [e] at w; exact ⟨z, rfl, w⟩
theorem se_op {r : R2} {o : O2 Vl} (ho : OpS r o) (ha : SE mg W ta fa) (hb : SE mg W tb fb) : SE mg W (tOp r ta tb) (fOp o fa fb) := fun B σ H Hi as s Q rp w => by
  refine two ha hb rp w fun x y s2 H2 Hi2 as2 u v r2 e2 p2 hu hv w2 => ?_
  obtain ⟨z, q, w3⟩ := wp_gets w2
  exact ho B σ H2 Hi2 as2 s2 x y z u v Q r2 hu hv q fun H' Hi' r' e' => w3 H' Hi' as2 r' (e2.trans e') p2
theorem sf_op {r : R2} {o : O2 (List D)} (ho : OpF r o) (ha : SE mg W ta fa) (hb : SE mg W tb fb) : SF mg W (tOp r ta tb) (fOp o fa fb) := fun B σ H Hi as s Q rp w => by
  refine two ha hb rp w fun x y s2 H2 Hi2 as2 u v r2 e2 p2 hu hv w2 => ?_
  obtain ⟨z, q, w3⟩ := wp_gets w2
  exact ho B σ H2 Hi2 as2 s2 x y z u v Q r2 hu hv q fun H' Hi' r' e' => w3 H' Hi' as2 r' (e2.trans e') p2
theorem sa_nil : SA mg W tNil fNil := fun B σ H Hi as s Q r w => (OKs.now w r) [] .nil
theorem sa_cons {t : TA} {f : M (List Vl)} (ha : SE mg W ta fa) (hr : SA mg W t f) : SA mg W (tCons ta t) (fCons fa f) := fun B σ H Hi as s Q rp w => by
  refine ha B σ H Hi as s _ rp (wp_mono (wp_bnd w) (fun x s1 w1 => ?_) fun _ _ z => z)
  intro H1 Hi1 as1 r1 e1 p1 u hu
  refine hr B σ H1 Hi1 as1 s1 _ r1 (wp_mono (wp_bnd w1) (fun y s2 w2 => ?_) fun e s' z => XW.mono z e1 p1)
  intro H2 Hi2 as2 r2 e2 p2 v hv
  exact w2 H2 Hi2 as2 r2 (e1.trans e2) (p1.trans p2) _ (.cons (hu.mono e2 p2) hv)
theorem se_call {t : TA} {f : M (List Vl)} {r : RC} {o : OA Vl} (ho : CaS r o) (hr : SA mg W t f) : SE mg W (tCB r t) (fCall o f) := fun B σ H Hi as s Q rp w => by
  refine hr B σ H Hi as s _ rp (wp_mono (wp_bnd w) (fun xs s1 w1 => ?_) fun _ _ z => z)
  intro H1 Hi1 as1 r1 e1 p1 vs hv
  obtain ⟨z, q, w3⟩ := wp_gets w1
  exact ho B σ H1 Hi1 as1 s1 xs z vs Q r1 hv q fun H' Hi' r' e' => w3 H' Hi' as1 r' (e1.trans e') p1
/-- a new list that never changes; one that may -/
theorem se_dat {f : M (List D)} (h : SF mg W ta f) : SE mg W ta (fDat f) := fun B σ H Hi as s Q rp w => by
  refine h B σ H Hi as s _ rp (wp_mono (wp_bnd w) (fun xs s1 w1 => ?_) fun _ _ z => z)
  intro H1 Hi1 as1 r1 e1 p1 p vs hp hd
  have sm : Same Hi1 (upd Hi1 p (.lst vs)) := same_new (r1.fresh hp)
  exact w1 _ _ as1 (r1.addI hp) (e1.trans sm) p1 _ (.d (.lst upd_same (hd.mono sm)))
theorem se_cell {f : M (List D)} (h : SF mg W ta f) : SE mg W ta (fCell f) := fun B σ H Hi as s Q rp w => by
  refine h B σ H Hi as s _ rp (wp_mono (wp_bnd w) (fun xs s1 w1 => ?_) fun _ _ z => z)
  intro H1 Hi1 as1 r1 e1 p1 p vs hp hd
  refine w1 _ _ _ (r1.addC (c := .l xs) hp rfl ⟨r1.fresh hp, vs, upd_same, hd⟩) e1 (p1.trans (List.prefix_append _ _)) _ (.c ?_)
  rw [← r1.lea, List.getElem?_append_right (Nat.le_refl _), Nat.sub_self]
  rfl
end
end DL

end DLsec_1

section DLsec_2
set_option maxRecDepth 100000
namespace DL
open PySem PySem.Spec PyProof.Rows L2

theorem le_line {n : Nat} (h : n ≤ 1000000) : n ≤ sizeLine := Nat.le_trans h (by decide)
theorem lt_line {n : Nat} (h : n < 1000000) : n < sizeLine := Nat.lt_of_lt_of_le h (by decide)

/-! ### displays -/
def fLst (f : M (List Vl)) : M (List D) := bnd f fun xs => if xs.length ≤ 1000000 then frzs xs else stuck
def fTup (f : M (List Vl)) : M Vl := bnd f fun xs => if xs.length ≤ 1000000 then bnd (frzs xs) fun ys => ret (.d (.tuple ys)) else stuck
/-! ### tests -/
def fTest (f : M Vl) : M Bool := bnd f fun x => match x with
  | .d (.bool b) => ret b
  | _ => stuck
def tru (s : S) (x : Vl) : Option Bool := match x with
  | .d .none => some false
  | .d (.bool b) => some b
  | .d (.int i) => some (i != 0)
  | .d (.str y) => if y.length ≤ 1000000 then some ((y.length : Int) != 0) else none
  | .d (.tuple xs) => some (!xs.isEmpty)
  | x => match datL s x with
    | some xs => some (!xs.isEmpty)
    | none => none
def fTru (f : M Vl) : M Bool := bnd f fun x => gets fun s => tru s x
def fAnd (f g : M Bool) : M Bool := bnd f fun b => if b = true then g else ret false
def fOr (f g : M Bool) : M Bool := bnd f fun b => if b = true then ret true else g
def fNot (f : M Bool) : M Bool := bnd f fun b => ret (!b)
def fIf {α : Type} (c : M Bool) (f g : M α) : M α := bnd c fun b => if b = true then f else g
def asB (x : Vl) : M Bool := match x with
  | .d (.bool b) => ret b
  | _ => stuck
def fAndV (f g : M Vl) : M Vl := bnd f fun x => bnd (asB x) fun b => if b = true then g else ret (.d (.bool false))
def fOrV (f g : M Vl) : M Vl := bnd f fun x => bnd (asB x) fun b => if b = true then ret (.d (.bool true)) else g
def fNotV (f : M Vl) : M Vl := bnd f fun x => bnd (asB x) fun b => ret (.d (.bool (!b)))

/-! ### restoring -/
def flat : D → Bool
  | .none => true
  | .bool _ => true
  | .int _ => true
  | .str _ => true
  | _ => false
def rstC : Ce → Ce → Ce
  | .l _, .f ys => if ys.all flat = true then .l ys else .g
  | .l _, .l ys => if ys.all flat = true then .l ys else .g
  | .f xs, _ => .f xs
  | .x e, _ => .x e
  | .t xs, _ => .t xs
  | .fn f c q σ xs, _ => .fn f c q σ xs
  | .yf xs, _ => .yf xs
  | .th t, _ => .th t
  | .tl ts, _ => .tl ts
  | _, _ => .g
def rst (s s' : S) : S := { sl := s.sl, ce := List.zipWith rstC s.ce s'.ce }
def fRstT {α : Type} (f : M α) : M α := fun s => match f s with
  | .ok a s' => .ok a (rst s s')
  | .ex e s' => .ex e s'
  | .no => .no
def fRstV (f : M Vl) : M Vl := fun s => match f s with
  | .ok (.d x) s' => if flat x = true then .ok (.d x) (rst s s') else .ok (.d x) s'
  | r => r
theorem Dq.flat {H H' : Hp} {v : V} {d : D} (h : Dq H v d) (f : DL.flat d = true) : Dq H' v d := by
  cases h with
  | non => exact .non
  | bl b => exact .bl b
  | int i => exact .int i
  | str x => exact .str x
  | lst _ _ => cases f
  | tup _ _ => cases f
  | dct _ _ => cases f
theorem DqA.flat {H H' : Hp} : ∀ {v : List V} {d : List D}, DqA H v d → d.all DL.flat = true → DqA H' v d
  | _, _, .nil, _ => .nil
  | _, _, .cons h r, f => by
    simp only [List.all_cons, Bool.and_eq_true] at f
    exact .cons (h.flat f.1) (DqA.flat r f.2)

section
variable {mg : Str → Option Value} {W : WX} {B : Bd mg} {σ : St} {H Hi : Hp} {as : List Addr} {s : S}
variable {ta tb tc : TE} {fa fb fc : M Vl} {tt tu : TT} {f g : M Bool}

theorem Rep.rst {H' Hi' : Hp} {as' : List Addr} {s' : S} (r : Rep B σ H Hi as s) (r' : Rep B σ H' Hi' as' s') (e : Same Hi Hi') (p : as <+: as') : Rep B σ H' Hi as (DL.rst s s') := by
  have pa : ∀ j a, as[j]? = some a → as'[j]? = some a := fun j a h => by
    obtain ⟨t, rfl⟩ := p
    rw [List.getElem?_append_left (lt_of_get h)]
    exact h
  have look : ∀ j c, (DL.rst s s').ce[j]? = some c → ∃ c1 c2, s.ce[j]? = some c1 ∧ s'.ce[j]? = some c2 ∧ c = rstC c1 c2 := fun j c h => by
    unfold DL.rst at h
    rw [List.getElem?_zipWith] at h
    cases h1 : s.ce[j]? with
    | none => rw [h1] at h; simp at h
    | some c1 =>
      cases h2 : s'.ce[j]? with
      | none => rw [h1, h2] at h; simp at h
      | some c2 =>
        rw [h1, h2] at h
        simp at h
        exact ⟨c1, c2, h1, h2, h.symm⟩
  have al : ∀ c1 c2 : Ce, (rstC c1 c2).alive = true → c1.alive = true ∧ ∃ ys, rstC c1 c2 = .l ys ∧ ys.all DL.flat = true ∧ (c2 = .f ys ∨ c2 = .l ys) := fun c1 c2 h => by
    cases c1 with
    | l xs =>
      refine ⟨rfl, ?_⟩
      cases c2 with
      | l ys =>
        simp only [rstC] at h ⊢
        split at h
        · rename_i hf; exact ⟨ys, by rw [if_pos hf], hf, .inr rfl⟩
        · cases h
      | f ys =>
        simp only [rstC] at h ⊢
        split at h
        · rename_i hf; exact ⟨ys, by rw [if_pos hf], hf, .inl rfl⟩
        · cases h
      | m k => cases h
      | g => cases h
      | x e1 => cases h
      | v _ => cases h
      | w _ => cases h
      | t _ => cases h
      | tb _ _ => cases h
      | fn _ _ _ _ _ => cases h
      | y _ => cases h
      | yf _ => cases h
      | o _ _ => cases h
      | fv _ _ _ _ _ => cases h
      | th _ => cases h
      | tl _ => cases h
    | f xs => cases h
    | m k => cases h
    | g => cases h
    | x e1 => cases h
    | v _ => cases h
    | w _ => cases h
    | t _ => cases h
    | tb _ _ => cases h
    | fn _ _ _ _ _ => cases h
    | y _ => cases h
    | yf _ => cases h
    | o _ _ => cases h
    | fv _ _ _ _ _ => cases h
    | th _ => cases h
    | tl _ => cases h
  refine ⟨fun b o h => r'.sub b o (e b o h), r.lkd, r'.fr, r.hin, fun j a c e1 e2 ax => ?_, r.len, r.slo, ?_, fun j a c e1 e2 => ?_, fun i j a c c' e1 e2 e3 e4 a1 a2 => ?_⟩
  · obtain ⟨c1, c2, q1, q2, rfl⟩ := look j c e2
    exact r.new j a c1 e1 q1 (al c1 c2 ax).1
  · have h1 := r.lea
    have h2 := r'.lea
    have h3 := p.length_le
    show as.length = (List.zipWith rstC s.ce s'.ce).length
    rw [List.length_zipWith]
    omega
  · obtain ⟨c1, c2, q1, q2, rfl⟩ := look j c e2
    have k1 := r.cel j a c1 e1 q1
    have k2 := r'.cel j a c2 (pa j a e1) q2
    by_cases ax : (rstC c1 c2).alive = true
    · obtain ⟨b1, ys, b2, b3, b4⟩ := al c1 c2 ax
      rw [b2]
      refine ⟨k1.hi_none b1, ?_⟩
      rcases b4 with rfl | rfl
      · obtain ⟨vs, z1, z2⟩ := k2
        exact ⟨vs, r'.lst z1, z2.flat b3⟩
      · obtain ⟨_, vs, z1, z2⟩ := k2
        exact ⟨vs, z1, z2.flat b3⟩
    · cases c1 with
      | f xs => exact k1
      | l xs =>
        cases c2 with
        | l ys => simp only [rstC] at ax ⊢; split <;> rename_i hf <;> first | exact (ax (by rw [if_pos hf]; rfl)).elim | trivial
        | f ys => simp only [rstC] at ax ⊢; split <;> rename_i hf <;> first | exact (ax (by rw [if_pos hf]; rfl)).elim | trivial
        | m k => trivial
        | g => trivial
        | x e1 => trivial
        | v _ => trivial
        | w _ => trivial
        | t _ => trivial
        | tb _ _ => trivial
        | fn _ _ _ _ _ => trivial
        | y _ => trivial
        | yf _ => trivial
        | o _ _ => trivial
        | fv _ _ _ _ _ => trivial
        | th _ => trivial
        | tl _ => trivial
      | m k => trivial
      | g => trivial
      | x e1 => exact k1
      | v _ => trivial
      | w _ => trivial
      | t xs => exact k1
      | tb _ _ => trivial
      | fn _ _ _ _ _ => exact k1
      | y _ => trivial
      | yf _ => exact k1
      | o _ _ => trivial
      | fv _ _ _ _ _ => trivial
      | th _ => exact k1
      | tl _ => exact k1
  · obtain ⟨c1, c2, q1, q2, rfl⟩ := look i c e3
    obtain ⟨c3, c4, q3, q4, rfl⟩ := look j c' e4
    exact r.inj i j a c1 c3 e1 e2 q1 q3 (al _ _ a1).1 (al _ _ a2).1
theorem sf_lst {t : TA} {fl : M (List Vl)} (h : SA mg W t fl) : SF mg W (tLst t) (fLst fl) := fun B σ H Hi as s Q rp w => by
  refine h B σ H Hi as s _ rp (wp_mono (wp_bnd w) (fun xs s1 w1 => ?_) fun _ _ z => z)
  intro H1 Hi1 as1 r1 e1 p1 vs hv
  by_cases hn : xs.length ≤ 1000000
  · rw [if_pos hn] at w1
    obtain ⟨ys, s2, Hi2, w2, r2, e2, q2⟩ := r1.frzs hv w1
    exact ⟨by rw [Paired.length hv]; exact le_line hn, fun p hp => w2 H1 Hi2 as1 r2 (e1.trans e2) p1 p vs hp q2⟩
  · rw [if_neg hn] at w1; exact w1.elim
theorem se_tup {t : TA} {fl : M (List Vl)} (h : SA mg W t fl) : SE mg W (tTup t) (fTup fl) := fun B σ H Hi as s Q rp w => by
  refine h B σ H Hi as s _ rp (wp_mono (wp_bnd w) (fun xs s1 w1 => ?_) fun _ _ z => z)
  intro H1 Hi1 as1 r1 e1 p1 vs hv
  by_cases hn : xs.length ≤ 1000000
  · rw [if_pos hn] at w1
    obtain ⟨ys, s2, Hi2, w2, r2, e2, q2⟩ := r1.frzs hv (wp_bnd w1)
    refine ⟨by rw [Paired.length hv]; exact le_line hn, fun p hp => ?_⟩
    have sm : Same Hi2 (upd Hi2 p (.tup vs)) := same_new (r2.fresh hp)
    exact w2 _ _ as1 (r2.addI hp) ((e1.trans e2).trans sm) p1 _ (.d (.tup upd_same (q2.mono sm)))
  · rw [if_neg hn] at w1; exact w1.elim

theorem st_test (h : SE mg W ta fa) : ST mg W (tTest ta) (fTest fa) := fun B σ H Hi as s Q rp w => by
  refine h B σ H Hi as s _ rp (wp_mono (wp_bnd w) (fun x s1 w1 => ?_) fun _ _ z => z)
  intro H1 Hi1 as1 r1 e1 p1 v hv
  cases hv with
  | c q => exact w1.elim
  | d q =>
    cases q with
    | bl b => exact ⟨b, rfl, w1 H1 Hi1 as1 r1 e1 p1⟩
    | _ => exact w1.elim
theorem st_or (h : ST mg W tt f) (k : ST mg W tu g) : ST mg W (tOr tt tu) (fOr f g) := fun B σ H Hi as s Q rp w => by
  refine h B σ H Hi as s _ rp (wp_mono (wp_bnd w) (fun x s1 w1 => ?_) fun _ _ z => z)
  intro H1 Hi1 as1 r1 e1 p1
  cases x with
  | false => exact k B σ H1 Hi1 as1 s1 Q r1 (wp_mono w1 (fun b s2 z => OKs.mono z e1 p1) fun e s' z => XW.mono z e1 p1)
  | true => exact w1 H1 Hi1 as1 r1 e1 p1
theorem st_not (h : ST mg W tt f) : ST mg W (tNot tt) (fNot f) := fun B σ H Hi as s Q rp w =>
  h B σ H Hi as s _ rp (wp_mono (wp_bnd w) (fun x s1 w1 => w1) fun _ _ z => z)
theorem se_if (h : ST mg W tt f) (ha : SE mg W ta fa) (hb : SE mg W tb fb) : SE mg W (tIf tt ta tb) (fIf f fa fb) := fun B σ H Hi as s Q rp w => by
  refine h B σ H Hi as s _ rp (wp_mono (wp_bnd w) (fun x s1 w1 => ?_) fun _ _ z => z)
  intro H1 Hi1 as1 r1 e1 p1
  cases x with
  | true => exact ha B σ H1 Hi1 as1 s1 Q r1 (wp_mono w1 (fun b s2 z => OKs.mono z e1 p1) fun e s' z => XW.mono z e1 p1)
  | false => exact hb B σ H1 Hi1 as1 s1 Q r1 (wp_mono w1 (fun b s2 z => OKs.mono z e1 p1) fun e s' z => XW.mono z e1 p1)
theorem wp_asB {v : V} {x : Vl} {P : Bool → S → Prop} {E : Ex → S → Prop} (h : RelVl Hi as v x) (w : wpR (asB x s) P E) : ∃ b, v = .bl b ∧ P b s := by
  cases h with
  | c q => exact w.elim
  | d q =>
    cases q with
    | bl b => exact ⟨b, rfl, w⟩
    | _ => exact w.elim
theorem se_andV (ha : SE mg W ta fa) (hb : SE mg W tb fb) : SE mg W (tAndV ta tb) (fAndV fa fb) := fun B σ H Hi as s Q rp w => by
  refine ha B σ H Hi as s _ rp (wp_mono (wp_bnd w) (fun x s1 w1 => ?_) fun _ _ z => z)
  intro H1 Hi1 as1 r1 e1 p1 v hv
  obtain ⟨b, rfl, w2⟩ := wp_asB hv (wp_bnd w1)
  refine ⟨b, rfl, ?_⟩
  cases b with
  | true => exact hb B σ H1 Hi1 as1 s1 Q r1 (wp_mono w2 (fun b s2 z => OKs.mono z e1 p1) fun e s' z => XW.mono z e1 p1)
  | false => exact w2 H1 Hi1 as1 r1 e1 p1 _ (.d (.bl false))
theorem se_notV (ha : SE mg W ta fa) : SE mg W (tNotV ta) (fNotV fa) := fun B σ H Hi as s Q rp w => by
  refine ha B σ H Hi as s _ rp (wp_mono (wp_bnd w) (fun x s1 w1 => ?_) fun _ _ z => z)
  intro H1 Hi1 as1 r1 e1 p1 v hv
  obtain ⟨b, rfl, w2⟩ := wp_asB hv (wp_bnd w1)
  exact ⟨b, rfl, w2 H1 Hi1 as1 r1 e1 p1 _ (.d (.bl _))⟩
theorem st_tru {K : PySem.W.Frag} (h : SE mg W ta fa) : ST mg W (fun σ H Q => ta σ H fun x H' => ∃ k, TruV K x H' k ∧ Q k H') (fTru fa) := fun B σ H Hi as s Q rp w => by
  refine h B σ H Hi as s _ rp (wp_mono (wp_bnd w) (fun x s1 w1 => ?_) fun _ _ z => z)
  intro H1 Hi1 as1 r1 e1 p1 v hv
  obtain ⟨b, q, w2⟩ := wp_gets w1
  refine ⟨b, ?_, w2 H1 Hi1 as1 r1 e1 p1⟩
  have useL : ∀ xs, DL.datL s1 x = some xs → TruV K v H1 (!xs.isEmpty) := fun xs e => by
    obtain ⟨a, vs, rfl, h1, h2⟩ := r1.datL hv e
    refine .inl ⟨vs, .inl (.inl h1), ?_⟩
    cases h2 <;> rfl
  have viaL : (match DL.datL s1 x with | some xs => some (!xs.isEmpty) | none => none) = some b → TruV K v H1 b := fun e => by
    cases z : DL.datL s1 x with
    | none => rw [z] at e; cases e
    | some xs => rw [z] at e; cases e; exact useL xs z
  cases hv with
  | c q' => exact viaL q
  | d q' =>
    cases q' with
    | non => cases q; rfl
    | bl b => cases q; rfl
    | int i => cases q; rfl
    | str y =>
      simp only [tru] at q
      split at q
      · rename_i hn; cases q; exact ⟨le_line hn, rfl⟩
      · cases q
    | lst h1 h2 => exact viaL q
    | tup h1 h2 =>
      cases q
      refine .inr (.inl ⟨_, .inl (.inl (r1.tup h1)), ?_⟩)
      cases h2 <;> rfl
    | dct h1 h2 => exact viaL q
end
end DL

end DLsec_2

section DLsec_3
set_option maxRecDepth 100000
namespace DL
open PySem PySem.Spec PyProof.Rows L2

/-! ### operators -/
def oI (g : Int → Int → D) : O2 Vl
  | .d (.int i), .d (.int j), _ => some (.d (g i j))
  | _, _, _ => none
def oIC (c : Int → Int → Bool) (g : Int → Int → D) : O2 Vl
  | .d (.int i), .d (.int j), _ => if c i j = true then some (.d (g i j)) else none
  | _, _, _ => none
def orO {α : Type} (o o' : O2 α) : O2 α := fun x y s => match o x y s with
  | some z => some z
  | none => o' x y s
def datO (o : O2 (List D)) : O2 Vl := fun x y s => (o x y s).map fun xs => .d (.list xs)
theorem EndV.now {mg : Str → Option Value} {B : Bd mg} {σ : St} {H Hi : Hp} {as : List Addr} {s : S} {Q : VK} {z : Vl} {w : V} (q : EndV B σ Hi as s Q z) (r : Rep B σ H Hi as s) (h : RelVl Hi as w z) : Q w H := q H Hi r (Same.refl _) w h
theorem EndF.now {mg : Str → Option Value} {B : Bd mg} {σ : St} {H Hi : Hp} {as : List Addr} {s : S} {Q : VK} {z : List D} {p : Addr} {vs : List V} (q : EndF B σ Hi as s Q z) (r : Rep B σ H Hi as s) (h : H p = none) (d : DqA Hi vs z) : Q (.ref p) (upd H p (.lst vs)) := q H Hi r (Same.refl _) p vs h d
theorem EndV.dat {mg : Str → Option Value} {B : Bd mg} {σ : St} {Hi : Hp} {as : List Addr} {s : S} {Q : VK} {z : List D} (q : EndV B σ Hi as s Q (.d (.list z))) : EndF B σ Hi as s Q z := fun H' Hi' r e p vs hp hd => by
  have sm : Same Hi' (upd Hi' p (.lst vs)) := same_new (r.fresh hp)
  exact q _ _ (r.addI hp) (e.trans sm) _ (.d (.lst upd_same (hd.mono sm)))
theorem ops_dat {r : R2} {o : O2 (List D)} (h : OpF r o) : OpS r (datO o) := fun B σ H Hi as s x y z u v Q rp hu hv e q => by
  unfold datO at e
  cases k : o x y s with
  | none => rw [k] at e; cases e
  | some xs => rw [k] at e; cases e; exact h B σ H Hi as s x y xs u v Q rp hu hv k q.dat
theorem ops_or {r r' : R2} {o o' : O2 Vl} (h : OpS r o) (h' : OpS r' o') : OpS (fun x y H Q => r x y H Q ∨ r' x y H Q) (orO o o') := fun B σ H Hi as s x y z u v Q rp hu hv e q => by
  unfold orO at e
  cases k : o x y s with
  | none => rw [k] at e; exact .inr (h' B σ H Hi as s x y z u v Q rp hu hv e q)
  | some w => rw [k] at e; cases e; exact .inl (h B σ H Hi as s x y z u v Q rp hu hv k q)
theorem oI_inv {Hi : Hp} {as : List Addr} {x y : Vl} {u v : V} {s : S} {g : Int → Int → D} {z : Vl} (hu : RelVl Hi as u x) (hv : RelVl Hi as v y) (e : oI g x y s = some z) : ∃ i j, u = .int i ∧ v = .int j ∧ z = .d (g i j) := by
  cases hu with
  | c q => cases e
  | d q =>
    cases hv with
    | c q' => cases q <;> cases e
    | d q' =>
      cases q <;> cases q' <;> first | (cases e; done) | (cases e; exact ⟨_, _, rfl, rfl, rfl⟩)
theorem oIC_inv {Hi : Hp} {as : List Addr} {x y : Vl} {u v : V} {s : S} {c : Int → Int → Bool} {g : Int → Int → D} {z : Vl} (hu : RelVl Hi as u x) (hv : RelVl Hi as v y) (e : oIC c g x y s = some z) : ∃ i j, u = .int i ∧ v = .int j ∧ c i j = true ∧ z = .d (g i j) := by
  cases hu with
  | c q => cases e
  | d q =>
    cases hv with
    | c q' => cases q <;> cases e
    | d q' =>
      cases q <;> cases q' <;> first | (cases e; done) | skip
      simp only [oIC] at e
      split at e
      · rename_i hc; cases e; exact ⟨_, _, rfl, rfl, hc, rfl⟩
      · cases e
theorem ops_I {g : Int → Int → V} {g' : Int → Int → D} (h : ∀ i j H, Dq H (g i j) (g' i j)) : OpS (rI0 g) (oI g') := fun B σ H Hi as s x y z u v Q rp hu hv e q => by
  obtain ⟨i, j, rfl, rfl, rfl⟩ := oI_inv hu hv e
  exact ⟨i, j, rfl, rfl, q.now rp (.d (h i j Hi))⟩
theorem ops_IC {C : Int → Int → Prop} {c : Int → Int → Bool} {g : Int → Int → V} {g' : Int → Int → D} (hc : ∀ i j, c i j = true → C i j) (h : ∀ i j H, Dq H (g i j) (g' i j)) : OpS (rI C g) (oIC c g') := fun B σ H Hi as s x y z u v Q rp hu hv e q => by
  obtain ⟨i, j, rfl, rfl, k, rfl⟩ := oIC_inv hu hv e
  exact ⟨i, j, rfl, rfl, hc i j k, q.now rp (.d (h i j Hi))⟩
abbrev oAddI : O2 Vl := oI fun i j => .int (i + j)
abbrev oSub : O2 Vl := oI fun i j => .int (i - j)
abbrev oLt : O2 Vl := oI fun i j => .bool (decide (i < j))
abbrev oLe : O2 Vl := oI fun i j => .bool (decide (i ≤ j))
abbrev oGt : O2 Vl := oI fun i j => .bool (decide (j < i))
abbrev oGe : O2 Vl := oI fun i j => .bool (decide (j ≤ i))
def cMul (i j : Int) : Bool := decide ((-1000000000000000000 ≤ i ∧ i ≤ 1000000000000000000) ∨ (-1000000000000000000 ≤ j ∧ j ≤ 1000000000000000000))
abbrev oMul : O2 Vl := oIC cMul fun i j => .int (i * j)
def cPos (_ j : Int) : Bool := decide (0 < j)
abbrev oMod : O2 Vl := oIC cPos fun i j => .int (i % j)
def cDiv (_ j : Int) : Bool := decide (0 < j ∧ j < 1073741824)
abbrev oDiv : O2 Vl := oIC cDiv fun i j => .int (i / j)
theorem os_addI : OpS (rI0 fun i j => .int (i + j)) oAddI := ops_I fun i j _ => .int _
theorem os_sub : OpS (rI0 fun i j => .int (i - j)) oSub := ops_I fun i j _ => .int _
theorem os_lt : OpS (rI0 fun i j => .bl (decide (i < j))) oLt := ops_I fun i j _ => .bl _
theorem os_ge : OpS (rI0 fun i j => .bl (decide (j ≤ i))) oGe := ops_I fun i j _ => .bl _
theorem os_mul : OpS (rI CMul fun i j => .int (i * j)) oMul := ops_IC (fun i j h => by
  have := of_decide_eq_true h
  unfold CMul
  omega) fun i j _ => .int _
theorem os_mod : OpS (rI (fun _ j => 0 < j) fun i j => .int (i % j)) oMod := ops_IC (fun i j h => (of_decide_eq_true h : 0 < j)) fun i j _ => .int _
theorem os_div : OpS (rI CDiv fun i j => .int (i / j)) oDiv := ops_IC (fun i j h => (of_decide_eq_true h : 0 < j ∧ j < 1073741824)) fun i j _ => .int _
/-- lists joined -/
def oCat : O2 (List D) := fun x y s => match datL s x, datL s y with
  | some xs, some ys => if xs.length + ys.length ≤ 1000000 then some (xs ++ ys) else none
  | _, _ => none
theorem of_cat : OpF rCat oCat := fun B σ H Hi as s x y z u v Q rp hu hv e q => by
  unfold oCat at e
  cases h1 : datL s x with
  | none => rw [h1] at e; cases e
  | some xs =>
    cases h2 : datL s y with
    | none => rw [h1, h2] at e; cases e
    | some ys =>
      rw [h1, h2] at e
      simp only at e
      split at e
      · rename_i hn
        cases e
        obtain ⟨a, vs, rfl, ha, da⟩ := rp.datL hu h1
        obtain ⟨b, ws, rfl, hb, db⟩ := rp.datL hv h2
        exact ⟨a, b, vs, ws, rfl, rfl, ha, hb, by rw [da.length, db.length]; exact le_line hn, fun p hp => q.now rp hp (da.append db)⟩
      · cases e
abbrev oCatD : O2 Vl := datO oCat
theorem os_cat : OpS rCat oCatD := ops_dat of_cat
def oAddS : O2 Vl
  | .d (.str i), .d (.str j), _ => if i.length + j.length ≤ 1000000 then some (.d (.str (i ++ j))) else none
  | _, _, _ => none
theorem os_addS : OpS (fun x y H Q => ∃ i j, x = .str i ∧ y = .str j ∧ i.length + j.length ≤ sizeLine ∧ Q (.str (i ++ j)) H) oAddS := fun B σ H Hi as s x y z u v Q rp hu hv e q => by
  cases hu with
  | c q => cases e
  | d q1 =>
    cases hv with
    | c q' => cases q1 <;> cases e
    | d q2 =>
      cases q1 <;> cases q2 <;> first | (cases e; done) | skip
      simp only [oAddS] at e
      split at e
      · rename_i hn; cases e; exact ⟨_, _, rfl, rfl, le_line hn, q.now rp (.d (.str _))⟩
      · cases e
/-- xs * k -/
def oRep : O2 (List D) := fun x y s => match datL s x, y with
  | some xs, .d (.int k) => if -1000000 ≤ k ∧ k ≤ 1000000 ∧ xs.length * k.toNat ≤ 1000000 then some (List.replicate k.toNat xs).flatten else none
  | _, _ => none
/-! ### equality -/
mutual
def noD : D → Bool
  | .list xs => noDs xs
  | .tuple xs => noDs xs
  | .dict _ => false
  | _ => true
def noDs : List D → Bool
  | [] => true
  | x :: xs => noD x && noDs xs
end
mutual
theorem Rep.dp {K : PySem.W.Frag} {mg : Str → Option Value} {B : Bd mg} {σ : St} {H Hi : Hp} {as : List Addr} {s : S} (r : Rep B σ H Hi as s) : ∀ {v : V} {d : D}, Dq Hi v d → noD d = true → Dp K H v d
  | _, _, .non, _ => .non
  | _, _, .bl b, _ => .bl b
  | _, _, .int i, _ => .int i
  | _, _, .str x, _ => .str x
  | _, _, .lst h q, n => .lst (.inl (.inl (r.lst h))) (Rep.dpA r q (by simpa [noD] using n))
  | _, _, .tup h q, n => .tup (.inl (.inl (r.tup h))) (Rep.dpA r q (by simpa [noD] using n))
  | _, _, .dct h q, n => by simp [noD] at n
theorem Rep.dpA {K : PySem.W.Frag} {mg : Str → Option Value} {B : Bd mg} {σ : St} {H Hi : Hp} {as : List Addr} {s : S} (r : Rep B σ H Hi as s) : ∀ {v : List V} {d : List D}, DqA Hi v d → noDs d = true → DpAll K H v d
  | _, _, .nil, _ => .nil
  | _, _, .cons (d := d) (ds := ds) h q, n => by
    have n' : noD d = true ∧ noDs ds = true := by simpa [noDs] using n
    exact .cons (Rep.dp r h n'.1) (Rep.dpA r q n'.2)
end
theorem Rep.dpV {K : PySem.W.Frag} {mg : Str → Option Value} {B : Bd mg} {σ : St} {H Hi : Hp} {as : List Addr} {s : S} (r : Rep B σ H Hi as s) {v : V} {x : Vl} {d : D} (h : RelVl Hi as v x) (e : DL.dat s x = some d) (n : noD d = true) : Dp K H v d := by
  cases h with
  | d q => cases e; exact r.dp q n
  | @c a j q =>
    have hl : ∃ xs, d = .list xs ∧ DL.datL s (.c j) = some xs := by
      simp only [DL.datL, e]
      simp only [DL.dat] at e
      split at e
      · cases e; exact ⟨_, rfl, rfl⟩
      · cases e; exact ⟨_, rfl, rfl⟩
      · cases e
    obtain ⟨xs, rfl, hx⟩ := hl
    obtain ⟨b, vs, z, h1, h2⟩ := r.datL (.c q) hx
    cases z
    exact .lst (.inl (.inl h1)) (r.dpA h2 (by simpa [noD] using n))
def okE (d : D) : Bool := noD d && SeqAt.shaped d
def oEq : O2 Vl := fun x y s => match dat s x, dat s y with
  | some a, some b => if (okE a && okE b) = true then some (.d (.bool (PyData.eqv a b))) else none
  | _, _ => none
def oNe : O2 Vl := fun x y s => match dat s x, dat s y with
  | some a, some b => if (okE a && okE b) = true then some (.d (.bool (!PyData.eqv a b))) else none
  | _, _ => none
theorem os_eq {K : PySem.W.Frag} : OpS (rEqD K) oEq := fun B σ H Hi as s x y z u v Q rp hu hv e q => by
  unfold oEq at e
  cases h1 : dat s x with
  | none => rw [h1] at e; cases e
  | some a =>
    cases h2 : dat s y with
    | none => rw [h1, h2] at e; cases e
    | some b =>
      rw [h1, h2] at e
      simp only at e
      split at e
      · rename_i hn
        cases e
        simp only [okE, Bool.and_eq_true] at hn
        exact ⟨a, b, rp.dpV hu h1 hn.1.1, rp.dpV hv h2 hn.2.1, hn.1.2, hn.2.2, q.now rp (.d (.bl _))⟩
      · cases e
theorem os_ne {K : PySem.W.Frag} : OpS (rNeD K) oNe := fun B σ H Hi as s x y z u v Q rp hu hv e q => by
  unfold oNe at e
  cases h1 : dat s x with
  | none => rw [h1] at e; cases e
  | some a =>
    cases h2 : dat s y with
    | none => rw [h1, h2] at e; cases e
    | some b =>
      rw [h1, h2] at e
      simp only at e
      split at e
      · rename_i hn
        cases e
        simp only [okE, Bool.and_eq_true] at hn
        exact ⟨a, b, rp.dpV hu h1 hn.1.1, rp.dpV hv h2 hn.2.1, hn.1.2, hn.2.2, q.now rp (.d (.bl _))⟩
      · cases e
/-! ### is None -/
def isNon : Vl → Bool
  | .d .none => true
  | _ => false
def fIsN (f : M Vl) : M Vl := bnd f fun x => ret (.d (.bool (isNon x)))
def fNotN (f : M Vl) : M Vl := bnd f fun x => ret (.d (.bool (!isNon x)))
section
variable {mg : Str → Option Value} {W : WX} {B : Bd mg} {σ : St} {H Hi : Hp} {as : List Addr} {s : S}
variable {ta tb tc : TE} {fa fb fc : M Vl}
end
/-! ### items and slices -/
theorem DqA.atI {H : Hp} {vs : List V} {xs : List D} {i : Int} {d : D} (h : DqA H vs xs) (e : atI xs i = some d) : ∃ v, atI vs i = some v ∧ Dq H v d := by
  unfold L2.atI at e ⊢
  rw [h.length]
  cases k : ixN xs.length i with
  | none => rw [k] at e; cases e
  | some j => rw [k] at e; exact h.get e
def oIx : O2 Vl := fun x y s => match y with
  | .d (.int i) => match datL s x with
    | some xs => (atI xs i).map .d
    | none => match x with
      | .d (.tuple xs) => (atI xs i).map .d
      | .d (.str z) => if z.length ≤ 1000000 then (atI z.cps.toList i).map fun c => .d (.str ⟨#[c]⟩) else none
      | _ => none
  | _ => none
theorem os_ix {K : PySem.W.Frag} : OpS (rIx K) oIx := fun B σ H Hi as s x y z u v Q rp hu hv e q => by
  have hi : ∃ i, v = .int i ∧ y = .d (.int i) := by
    cases hv with
    | c q => cases e
    | d q => cases q <;> first | (cases e; done) | exact ⟨_, rfl, rfl⟩
  obtain ⟨i, rfl, rfl⟩ := hi
  simp only [oIx] at e
  cases h1 : datL s x with
  | some xs =>
    rw [h1] at e
    obtain ⟨a, vs, rfl, ha, da⟩ := rp.datL hu h1
    cases k : L2.atI xs i with
    | none => simp [k] at e
    | some d =>
      simp [k] at e; subst e
      obtain ⟨v, e1, e2⟩ := da.atI k
      exact .inl ⟨a, vs, i, v, rfl, rfl, .inl (.inl ha), e1, q.now rp (.d e2)⟩
  | none =>
    rw [h1] at e
    cases hu with
    | c q => simp at e
    | d q' =>
      cases q' with
      | tup ha da =>
        rename_i a vs xs
        simp only at e
        cases k : L2.atI xs i with
        | none => simp [k] at e
        | some d =>
          simp [k] at e; subst e
          obtain ⟨v, e1, e2⟩ := da.atI k
          exact .inr (.inl ⟨a, vs, i, v, rfl, rfl, .inl (.inl (rp.tup ha)), e1, q.now rp (.d e2)⟩)
      | str zz =>
        simp only at e
        split at e
        · rename_i hn
          cases k : L2.atI zz.cps.toList i with
          | none => simp [k] at e
          | some c =>
            simp [k] at e; subst e
            exact .inr (.inr ⟨zz, i, c, rfl, rfl, le_line hn, k, q.now rp (.d (.str _))⟩)
        · cases e
      | _ => simp at e
def cutD (xs : List D) (lo hi : Option Int) : List D := (xs.drop (HT.sIx xs.length 0 lo)).take (HT.sIx xs.length xs.length hi - HT.sIx xs.length 0 lo)
theorem DqA.cut {H : Hp} {vs : List V} {xs : List D} (h : DqA H vs xs) (lo hi : Option Int) : DqA H (cutV vs lo hi) (cutD xs lo hi) := by
  unfold cutV cutD
  rw [h.length]
  exact (h.drop _).take _
abbrev RSl := V → Option Int → Option Int → Hp → VK → Prop
def SlF (r : RSl) (o : Vl → Option Int → Option Int → S → Option (List D)) : Prop := ∀ {mg : Str → Option Value} (B : Bd mg) (σ : St) (H Hi : Hp) (as : List Addr) (s : S) (x : Vl) (lo hi : Option Int) (z : List D) (u : V) (Q : VK), Rep B σ H Hi as s → RelVl Hi as u x →
  o x lo hi s = some z → EndF B σ Hi as s Q z → r u lo hi H Q
def SlS (r : RSl) (o : Vl → Option Int → Option Int → S → Option Vl) : Prop := ∀ {mg : Str → Option Value} (B : Bd mg) (σ : St) (H Hi : Hp) (as : List Addr) (s : S) (x : Vl) (lo hi : Option Int) (z : Vl) (u : V) (Q : VK), Rep B σ H Hi as s → RelVl Hi as u x →
  o x lo hi s = some z → EndV B σ Hi as s Q z → r u lo hi H Q
def oSlL (x : Vl) (lo hi : Option Int) (s : S) : Option (List D) := (datL s x).map fun xs => cutD xs lo hi
theorem sl_lF {K : PySem.W.Frag} : SlF (rSlL K) oSlL := fun B σ H Hi as s x lo hi z u Q rp hu e q => by
  unfold oSlL at e
  cases h1 : datL s x with
  | none => rw [h1] at e; cases e
  | some xs =>
    rw [h1] at e; cases e
    obtain ⟨a, vs, rfl, ha, da⟩ := rp.datL hu h1
    exact ⟨a, vs, rfl, .inl (.inl ha), fun p hp => q.now rp hp (da.cut lo hi)⟩
def oSlT (x : Vl) (lo hi : Option Int) (_ : S) : Option Vl := match x with
  | .d (.tuple xs) => some (.d (.tuple (cutD xs lo hi)))
  | _ => none
theorem sl_tS {K : PySem.W.Frag} : SlS (rSlA K) oSlT := fun B σ H Hi as s x lo hi z u Q rp hu e q => by
  cases hu with
  | c q => cases e
  | d q' =>
    cases q' with
    | tup ha da =>
      rename_i a vs xs
      cases e
      refine ⟨a, vs, rfl, .inl (.inl (rp.tup ha)), fun ⟨k1, k2⟩ => ?_, fun _ p hp => ?_⟩
      · have ec : cutD xs lo hi = xs := by
          unfold cutD
          rw [da.length] at k1 k2
          rw [k1, k2]
          simp
        exact q.now rp (.d (.tup ha (by rw [ec]; exact da)))
      · have sm : Same Hi (upd Hi p (.tup (cutV vs lo hi))) := same_new (rp.fresh hp)
        exact q _ _ (rp.addI hp) sm _ (.d (.tup upd_same ((da.cut lo hi).mono sm)))
    | _ => cases e
def oSlS (x : Vl) (lo hi : Option Int) (_ : S) : Option Vl := match x with
  | .d (.str z) => if z.length ≤ 1000000 then some (.d (.str (cutS z lo hi))) else none
  | _ => none
theorem sl_sS : SlS rSlS oSlS := fun B σ H Hi as s x lo hi z u Q rp hu e q => by
  cases hu with
  | c q => cases e
  | d q' =>
    cases q' with
    | str zz =>
      simp only [oSlS] at e
      split at e
      · rename_i hn; cases e; exact ⟨zz, rfl, le_line hn, q.now rp (.d (.str _))⟩
      · cases e
    | _ => cases e
def slOr (o o' : Vl → Option Int → Option Int → S → Option Vl) : Vl → Option Int → Option Int → S → Option Vl := fun x lo hi s => match o x lo hi s with
  | some z => some z
  | none => o' x lo hi s
theorem sls_or {r r' : RSl} {o o' : Vl → Option Int → Option Int → S → Option Vl} (h : SlS r o) (h' : SlS r' o') : SlS (fun x lo hi H Q => r x lo hi H Q ∨ r' x lo hi H Q) (slOr o o') := fun B σ H Hi as s x lo hi z u Q rp hu e q => by
  unfold slOr at e
  cases k : o x lo hi s with
  | none => rw [k] at e; exact .inr (h' B σ H Hi as s x lo hi z u Q rp hu e q)
  | some w => rw [k] at e; cases e; exact .inl (h B σ H Hi as s x lo hi z u Q rp hu k q)
def oSlD (x : Vl) (lo hi : Option Int) (s : S) : Option Vl := (oSlL x lo hi s).map fun xs => .d (.list xs)
theorem sl_lS {K : PySem.W.Frag} : SlS (rSlL K) oSlD := fun B σ H Hi as s x lo hi z u Q rp hu e q => by
  unfold oSlD at e
  cases k : oSlL x lo hi s with
  | none => rw [k] at e; cases e
  | some xs => rw [k] at e; cases e; exact sl_lF B σ H Hi as s x lo hi xs u Q rp hu k q.dat
def fNoP : M (Option Int) := ret none
def fP (f : M Vl) : M (Option Int) := bnd f fun x => match x with
  | .d (.int i) => ret (some i)
  | _ => stuck
def fSl {α : Type} (o : Vl → Option Int → Option Int → S → Option α) (f : M Vl) (fl fh : M (Option Int)) : M α := bnd f fun x => bnd fl fun lo => bnd fh fun hi => gets (o x lo hi)
section
variable {mg : Str → Option Value} {W : WX} {B : Bd mg} {σ : St} {H Hi : Hp} {as : List Addr} {s : S}
variable {ta tb tc : TE} {fa fb fc : M Vl}
theorem so_none : SO mg W tNoPart fNoP := fun B σ H Hi as s Q rp w => OKs.now w rp
theorem so_some (h : SE mg W ta fa) : SO mg W (tPart ta) (fP fa) := fun B σ H Hi as s Q rp w => by
  refine h B σ H Hi as s _ rp (wp_mono (wp_bnd w) (fun x s1 w1 => ?_) fun _ _ z => z)
  intro H1 Hi1 as1 r1 e1 p1 v hv
  cases hv with
  | c q => exact w1.elim
  | d q =>
    cases q with
    | int i => exact ⟨i, rfl, w1 H1 Hi1 as1 r1 e1 p1⟩
    | _ => exact w1.elim
theorem three {tl th : TO} {fl fh : M (Option Int)} (ha : SE mg W ta fa) (hl : SO mg W tl fl) (hh : SO mg W th fh) {α : Type} {k : Vl → Option Int → Option Int → M α} {P : α → S → Prop} {R : V → Option Int → Option Int → Hp → Prop} (r : Rep B σ H Hi as s)
    (w : wpR (bnd fa (fun x => bnd fl fun lo => bnd fh fun hi => k x lo hi) s) P (XW mg W B σ Hi as))
    (hk : ∀ x lo hi s2 H2 Hi2 as2 u, Rep B σ H2 Hi2 as2 s2 → Same Hi Hi2 → as <+: as2 → RelVl Hi2 as2 u x → wpR (k x lo hi s2) P (XW mg W B σ Hi as) → R u lo hi H2) :
    ta σ H fun x H1 => tl σ H1 fun lo H2 => th σ H2 fun hi H3 => R x lo hi H3 := by
  refine ha B σ H Hi as s _ r (wp_mono (wp_bnd w) (fun x s1 w1 => ?_) fun _ _ z => z)
  intro H1 Hi1 as1 r1 e1 p1 u hu
  refine hl B σ H1 Hi1 as1 s1 _ r1 (wp_mono (wp_bnd w1) (fun lo s2 w2 => ?_) fun e s' z => XW.mono z e1 p1)
  intro H2 Hi2 as2 r2 e2 p2
  refine hh B σ H2 Hi2 as2 s2 _ r2 (wp_mono (wp_bnd w2) (fun hi s3 w3 => ?_) fun e s' z => XW.mono z (e1.trans e2) (p1.trans p2))
  intro H3 Hi3 as3 r3 e3 p3
  exact hk x lo hi s3 H3 Hi3 as3 u r3 ((e1.trans e2).trans e3) ((p1.trans p2).trans p3) (hu.mono (e2.trans e3) (p2.trans p3)) w3
theorem se_sl {tl th : TO} {fl fh : M (Option Int)} {r : RSl} {o : Vl → Option Int → Option Int → S → Option Vl} (ho : SlS r o) (ha : SE mg W ta fa) (hl : SO mg W tl fl) (hh : SO mg W th fh) : SE mg W (tSl r ta tl th) (fSl o fa fl fh) := fun B σ H Hi as s Q rp w => by
  refine three ha hl hh rp w fun x lo hi s2 H2 Hi2 as2 u r2 e2 p2 hu w2 => ?_
  obtain ⟨z, q, w3⟩ := wp_gets w2
  exact ho B σ H2 Hi2 as2 s2 x lo hi z u Q r2 hu q fun H' Hi' r' e' => w3 H' Hi' as2 r' (e2.trans e') p2
end
end DL

end DLsec_3

section DLsec_4
set_option maxRecDepth 100000
namespace DL
open PySem PySem.Spec PyProof.Rows L2

/-! ### statements -/
def fSeq (f g : M Fl) : M Fl := fun s => match f s with
  | .ok .nx s' => g s'
  | r => r
def fNext : M Fl := ret .nx
def fExpr (f : M Vl) : M Fl := bnd f fun _ => ret .nx
def fRet (f : M Vl) : M Fl := bnd f fun x => ret (.rt x)
def fRetN : M Fl := ret (.rt (.d .none))
def fAsg (f : M Vl) (k : Vl → M Unit) : M Fl := bnd f fun x => bnd (k x) fun _ => ret .nx
def kName (i : Nat) : Vl → M Unit := fun x s => .ok () { s with sl := s.sl.set i (some x) }
def fPar (i j : Nat) (f : M (List Vl)) : M Fl := bnd f fun vs => match vs with
  | [x, y] => bnd (kName i x) fun _ => bnd (kName j y) fun _ => ret .nx
  | _ => stuck
def kNil : List D → M Unit
  | [] => ret ()
  | _ => stuck
def kCons (k : Vl → M Unit) (ks : List D → M Unit) : List D → M Unit
  | x :: xs => bnd (k (.d x)) fun _ => ks xs
  | [] => stuck
def kTup (n : Nat) (ks : List D → M Unit) : Vl → M Unit
  | .d (.tuple xs) => if xs.length = n then ks xs else stuck
  | _ => stuck
/-- what a for makes of its items -/
def forL (k : Vl → M Unit) (b : M Fl) : List D → M Fl
  | [] => ret .nx
  | x :: xs => fun s => match bnd (k (.d x)) (fun _ => b) s with
    | .ok .nx s' => forL k b xs s'
    | .ok .ct s' => forL k b xs s'
    | .ok .bk s' => .ok .nx s'
    | r => r
def fFor (f : M (List D)) (k : Vl → M Unit) (b : M Fl) : M Fl := bnd f fun xs => forL k b xs
def whl (c : M Bool) (b : M Fl) : Nat → M Fl
  | 0 => stuck
  | n + 1 => bnd c fun t => if t = true then (fun s => match b s with
      | .ok .nx s' => whl c b n s'
      | .ok .ct s' => whl c b n s'
      | .ok .bk s' => .ok .nx s'
      | r => r) else ret .nx
open Classical in
noncomputable def fWhile (c : M Bool) (b : M Fl) : M Fl := fun s => if h : ∃ n, whl c b n s ≠ .no then whl c b (Classical.choose h) s else .no
theorem whl_up {c : M Bool} {b : M Fl} : ∀ {n : Nat} {s : S}, whl c b n s ≠ .no → whl c b (n + 1) s = whl c b n s
  | 0, s, h => absurd rfl h
  | n + 1, s, h => by
    have e : ∀ m, whl c b (m + 1) s = bnd c (fun t => if t = true then (fun s => match b s with
      | .ok .nx s' => whl c b m s'
      | .ok .ct s' => whl c b m s'
      | .ok .bk s' => .ok .nx s'
      | r => r) else ret .nx) s := fun m => rfl
    rw [e n] at h
    rw [e (n + 1), e n]
    unfold bnd at h ⊢
    cases hc : c s with
    | no => rfl
    | ex x s' => rfl
    | ok t s' =>
      rw [hc] at h
      cases t with
      | false => rfl
      | true =>
        simp only [if_true] at h ⊢
        cases hb : b s' with
        | no => rfl
        | ex x s2 => rfl
        | ok fl s2 =>
          rw [hb] at h
          cases fl with
          | nx => exact whl_up h
          | ct => exact whl_up h
          | bk => rfl
          | rt v => rfl
theorem whl_le {c : M Bool} {b : M Fl} {s : S} {n m : Nat} (h : whl c b n s ≠ .no) (l : n ≤ m) : whl c b m s = whl c b n s := by
  induction l with
  | refl => rfl
  | step l ih => rw [whl_up (by rw [ih]; exact h), ih]
theorem fWhile_of {c : M Bool} {b : M Fl} {s : S} {n : Nat} (h : whl c b n s ≠ .no) : fWhile c b s = whl c b n s := by
  have hx : ∃ n, whl c b n s ≠ .no := ⟨n, h⟩
  unfold fWhile
  rw [dif_pos hx]
  have h1 := Classical.choose_spec hx
  rcases Nat.le_total (Classical.choose hx) n with l | l
  · exact (whl_le h1 l).symm
  · exact whl_le h l
/-- one turn -/
theorem fWhile_eq {c : M Bool} {b : M Fl} {s : S} {r : R Fl} (h : bnd c (fun t => if t = true then (fun s => match b s with
      | .ok .nx s' => fWhile c b s'
      | .ok .ct s' => fWhile c b s'
      | .ok .bk s' => .ok .nx s'
      | r => r) else ret .nx) s = r) (hr : r ≠ .no) : fWhile c b s = r := by
  have get : ∀ s', fWhile c b s' ≠ .no → ∃ n, whl c b n s' = fWhile c b s' := fun s' h => by
    by_cases hx : ∃ n, whl c b n s' ≠ .no
    · obtain ⟨n, hn⟩ := hx
      exact ⟨n, (fWhile_of hn).symm⟩
    · unfold fWhile at h
      rw [dif_neg hx] at h
      exact absurd rfl h
  have key : ∃ n, whl c b n s = r := by
    unfold bnd at h
    cases hc : c s with
    | no => rw [hc] at h; exact absurd h.symm hr
    | ex x s' => rw [hc] at h; refine ⟨1, ?_⟩; show bnd c _ s = r; unfold bnd; rw [hc]; exact h
    | ok t s' =>
      rw [hc] at h
      cases t with
      | false => refine ⟨1, ?_⟩; show bnd c _ s = r; unfold bnd; rw [hc]; exact h
      | true =>
        simp only [if_true] at h
        have fin : ∀ n, (match b s' with
            | .ok .nx s' => whl c b n s'
            | .ok .ct s' => whl c b n s'
            | .ok .bk s' => .ok .nx s'
            | r => r) = r → ∃ n, whl c b n s = r := fun n q => ⟨n + 1, by
          show bnd c _ s = r
          unfold bnd
          rw [hc]
          simp only [if_true]
          exact q⟩
        cases hb : b s' with
        | no => rw [hb] at h; exact absurd h.symm hr
        | ex x s2 => rw [hb] at h; exact fin 0 (by rw [hb]; exact h)
        | ok fl s2 =>
          rw [hb] at h
          cases fl with
          | nx =>
            obtain ⟨n, hn⟩ := get s2 (by rw [show fWhile c b s2 = r from h]; exact hr)
            exact fin n (by rw [hb]; exact hn.trans h)
          | ct =>
            obtain ⟨n, hn⟩ := get s2 (by rw [show fWhile c b s2 = r from h]; exact hr)
            exact fin n (by rw [hb]; exact hn.trans h)
          | bk => exact fin 0 (by rw [hb]; exact h)
          | rt v => exact fin 0 (by rw [hb]; exact h)
  obtain ⟨n, hn⟩ := key
  rw [fWhile_of (by rw [hn]; exact hr), hn]

/-- a target -/
def SG (mg : Str → Option Value) (W : WX) (g : TG) (k : Vl → M Unit) : Prop := ∀ (B : Bd mg) (σ : St) (H Hi : Hp) (as : List Addr) (s : S) (x : Vl) (v : V) (Q : St → Hp → Prop), Rep B σ H Hi as s → RelVl Hi as v x →
  wpR (k x s) (fun _ s' => ∀ σ', OKs B σ' Hi as s' fun H' _ _ => Q σ' H') (fun e s' => ∀ σ', XW mg W B σ' Hi as e s') → g v σ H Q
def SGs (mg : Str → Option Value) (W : WX) (g : TGs) (k : List D → M Unit) : Prop := ∀ (B : Bd mg) (σ : St) (H Hi : Hp) (as : List Addr) (s : S) (x : List D) (v : List V) (Q : St → Hp → Prop), Rep B σ H Hi as s → DqA Hi v x →
  wpR (k x s) (fun _ s' => ∀ σ', OKs B σ' Hi as s' fun H' _ _ => Q σ' H') (fun e s' => ∀ σ', XW mg W B σ' Hi as e s') → g v σ H Q
/-- what is walked: at each turn an item of the data list -/
def ItD (J : It) (L : List Addr) (Hi : Hp) (xs : List D) : Prop := ∀ {mg : Str → Option Value} (B : Bd mg), (∀ a ∈ L, a ∈ B.lk0 ++ B.lk1) → ∀ (σ : St) (H Hi' : Hp) (as : List Addr) (s : S), Rep B σ H Hi' as s → Same Hi Hi' → ∀ i : Nat,
  (∀ d, xs[i]? = some d → J.go i H ∧ ∀ x H', J.yld i H x H' → ∃ Hi'', Rep B σ H' Hi'' as s ∧ Same Hi' Hi'' ∧ Dq Hi'' x d) ∧ (xs.length ≤ i → J.stop i H)
def SI (mg : Str → Option Value) (W : WX) (wi : TI) (f : M (List D)) : Prop := ∀ (B : Bd mg) (σ : St) (H Hi : Hp) (as : List Addr) (s : S) (R : It → Hp → Prop), Rep B σ H Hi as s →
  wpR (f s) (fun xs s' => OKs B σ Hi as s' fun H' Hi' _ => ∀ J L, (∀ a ∈ L, a ∈ B.lk0 ++ B.lk1) → ItD J L Hi' xs → R J H') (XW mg W B σ Hi as) → wi σ H R

section
variable {mg : Str → Option Value} {W : WX} {B : Bd mg} {σ : St} {H Hi : Hp} {as : List Addr} {s : S}
variable {ta tb tc te : TE} {fa fb fc fe : M Vl} {t u : TS} {f g : M Fl} {c : TT} {fcnd : M Bool}

theorem ss_nil : SS mg W tNext fNext := fun B σ H Hi as s Dn rp w => OKs.now (w σ) rp
theorem ss_cons (h1 : SS mg W t f) (h2 : SS mg W u g) : SS mg W (tSeq t u) (fSeq f g) := fun B σ H Hi as s Dn rp w => by
  refine h1 B σ H Hi as s { Dn with nx := u Dn } rp ?_
  unfold fSeq at w
  cases e : f s with
  | no => rw [e] at w; exact w
  | ex x s' => rw [e] at w; exact w
  | ok fl s' =>
    rw [e] at w
    cases fl with
    | nx =>
      intro σ' H' Hi' as' r' e' p'
      exact h2 B σ' H' Hi' as' s' Dn r' (wp_mono w (fun fl s2 z σ2 => OKs.mono (z σ2) e' p') fun x s2 z σ2 => XW.mono (z σ2) e' p')
    | rt v => exact w
    | bk => exact w
    | ct => exact w
theorem ss_expr (h : SE mg W ta fa) : SS mg W (tDrop ta) (fExpr fa) := fun B σ H Hi as s Dn rp w =>
  h B σ H Hi as s _ rp (wp_mono (wp_bnd w) (fun x s1 w1 H1 Hi1 as1 r1 e1 p1 v hv => w1 σ H1 Hi1 as1 r1 e1 p1) fun _ _ z => z σ)
theorem ss_ret (h : SE mg W ta fa) : SS mg W (tRet ta) (fRet fa) := fun B σ H Hi as s Dn rp w =>
  h B σ H Hi as s _ rp (wp_mono (wp_bnd w) (fun x s1 w1 H1 Hi1 as1 r1 e1 p1 v hv => w1 σ H1 Hi1 as1 r1 e1 p1 v hv) fun _ _ z => z σ)
theorem ss_if (h : ST mg W c fcnd) (h1 : SS mg W t f) (h2 : SS mg W u g) : SS mg W (tIfS c t u) (fIf fcnd f g) := fun B σ H Hi as s Dn rp w => by
  refine h B σ H Hi as s _ rp (wp_mono (wp_bnd w) (fun x s1 w1 => ?_) fun _ _ z => z σ)
  intro H1 Hi1 as1 r1 e1 p1
  cases x with
  | true => exact h1 B σ H1 Hi1 as1 s1 Dn r1 (wp_mono w1 (fun b s2 z σ2 => OKs.mono (z σ2) e1 p1) fun e s' z σ2 => XW.mono (z σ2) e1 p1)
  | false => exact h2 B σ H1 Hi1 as1 s1 Dn r1 (wp_mono w1 (fun b s2 z σ2 => OKs.mono (z σ2) e1 p1) fun e s' z σ2 => XW.mono (z σ2) e1 p1)
theorem sg_name {i : Nat} : SG mg W (gName i) (kName i) := fun B σ H Hi as s x v Q rp hv w => (w _) H Hi as (rp.bind hv) (Same.refl _) (List.prefix_refl _)
theorem sgs_nil : SGs mg W gNil kNil := fun B σ H Hi as s x v Q rp hv w => by
  cases hv with
  | nil => exact ⟨rfl, OKs.now (w σ) rp⟩
  | cons _ _ => exact w.elim
theorem sgs_cons {gt : TG} {gs : TGs} {k : Vl → M Unit} {ks : List D → M Unit} (h : SG mg W gt k) (hs : SGs mg W gs ks) : SGs mg W (gCons gt gs) (kCons k ks) := fun B σ H Hi as s x v Q rp hv w => by
  cases hv with
  | nil => exact w.elim
  | cons h1 h2 =>
    refine ⟨_, _, rfl, h B σ H Hi as s _ _ _ rp (.d h1) (wp_mono (wp_bnd w) (fun _ s1 w1 σ1 => ?_) fun _ _ z => z)⟩
    intro H1 Hi1 as1 r1 e1 p1
    exact hs B σ1 H1 Hi1 as1 s1 _ _ Q r1 (h2.mono e1) (wp_mono w1 (fun _ s2 z σ2 => OKs.mono (z σ2) e1 p1) fun e s2 z σ2 => XW.mono (z σ2) e1 p1)
theorem sg_tup {K : PySem.W.Frag} {n : Nat} {gs : TGs} {ks : List D → M Unit} (hs : SGs mg W gs ks) : SG mg W (gTup K n gs) (kTup n ks) := fun B σ H Hi as s x v Q rp hv w => by
  cases hv with
  | c q => exact w.elim
  | d q =>
    cases q with
    | tup h1 h2 =>
      simp only [kTup] at w
      split at w
      · rename_i hn
        exact ⟨_, _, rfl, .inl (.inl (rp.tup h1)), by rw [h2.length]; exact hn, hs B σ H Hi as s _ _ Q rp h2 w⟩
      · exact w.elim
    | _ => exact w.elim
theorem ss_asg {gt : TG} {k : Vl → M Unit} (h : SE mg W ta fa) (hg : SG mg W gt k) : SS mg W (tAsg ta gt) (fAsg fa k) := fun B σ H Hi as s Dn rp w => by
  refine h B σ H Hi as s _ rp (wp_mono (wp_bnd w) (fun x s1 w1 => ?_) fun _ _ z => z σ)
  intro H1 Hi1 as1 r1 e1 p1 v hv
  exact hg B σ H1 Hi1 as1 s1 x v _ r1 hv (wp_mono (wp_bnd w1) (fun _ s2 w2 σ2 => OKs.mono (w2 σ2) e1 p1) fun e s2 z σ2 => XW.mono (z σ2) e1 p1)
/-! ### loops -/
theorem ss_for {wi : TI} {gt : TG} {tb : TS} {fi : M (List D)} {k : Vl → M Unit} {fb : M Fl} (hi : SI mg W wi fi) (hg : SG mg W gt k) (hb : SS mg W tb fb) : SS mg W (tFor wi gt tb) (fFor fi k fb) := fun B σ H Hi as s Dn rp w => by
  refine hi B σ H Hi as s _ rp (wp_mono (wp_bnd w) (fun xs s1 w1 => ?_) fun _ _ z => z σ)
  intro H1 Hi1 as1 r1 e1 p1 J L hL hJ
  refine ⟨fun i m σ H => m + i = xs.length ∧ ∃ Hi2 as2 s2, Rep B σ H Hi2 as2 s2 ∧ Same Hi1 Hi2 ∧ as1 <+: as2 ∧
    wpR (forL k fb (xs.drop i) s2) (fun fl s' => ∀ σ', OKs B σ' Hi as s' fun H' Hi' as' => FlP Dn σ' H' Hi' as' fl) (fun e s' => ∀ σ', XW mg W B σ' Hi as e s'), ⟨xs.length, rfl, Hi1, as1, s1, r1, Same.refl _, List.prefix_refl _, w1⟩, ?_⟩
  rintro i m σ2 H2 ⟨hm, Hi2, as2, s2, r2, e2, p2, w2⟩
  obtain ⟨step, stop⟩ := hJ B hL σ2 H2 Hi2 as2 s2 r2 e2 i
  by_cases hlt : i < xs.length
  · obtain ⟨d, hd⟩ : ∃ d, xs[i]? = some d := ⟨_, List.getElem?_eq_getElem hlt⟩
    have ex : xs.drop i = d :: xs.drop (i + 1) := by
      rw [List.drop_eq_getElem_cons hlt]
      rw [List.getElem?_eq_getElem hlt] at hd
      cases hd; rfl
    rw [ex] at w2
    obtain ⟨go, yl⟩ := step d hd
    refine .inr ⟨go, fun σ' H' => ∃ Hi3 as3 s3, Rep B σ' H' Hi3 as3 s3 ∧ Same Hi1 Hi3 ∧ as1 <+: as3 ∧
      wpR (forL k fb (xs.drop (i + 1)) s3) (fun fl s' => ∀ σ', OKs B σ' Hi as s' fun H' Hi' as' => FlP Dn σ' H' Hi' as' fl) (fun e s' => ∀ σ', XW mg W B σ' Hi as e s'), ?_, ?_⟩
    · rintro σ' H' ⟨Hi3, as3, s3, r3, e3, p3, w3⟩
      exact ⟨m - 1, by omega, by omega, Hi3, as3, s3, r3, e3, p3, w3⟩
    · intro x H3 hy
      obtain ⟨Hi3, r3, e3, q3⟩ := yl x H3 hy
      refine hg B σ2 H3 Hi3 as2 s2 (.d d) x _ r3 (.d q3) ?_
      have w4 : wpR (bnd (k (.d d)) (fun _ => fb) s2) (fun fl s' => match fl with
          | .nx => wpR (forL k fb (xs.drop (i + 1)) s') (fun fl s' => ∀ σ', OKs B σ' Hi as s' fun H' Hi' as' => FlP Dn σ' H' Hi' as' fl) (fun e s' => ∀ σ', XW mg W B σ' Hi as e s')
          | .ct => wpR (forL k fb (xs.drop (i + 1)) s') (fun fl s' => ∀ σ', OKs B σ' Hi as s' fun H' Hi' as' => FlP Dn σ' H' Hi' as' fl) (fun e s' => ∀ σ', XW mg W B σ' Hi as e s')
          | .bk => ∀ σ', OKs B σ' Hi as s' fun H' Hi' as' => FlP Dn σ' H' Hi' as' .nx
          | .rt v => ∀ σ', OKs B σ' Hi as s' fun H' Hi' as' => FlP Dn σ' H' Hi' as' (.rt v)) (fun e s' => ∀ σ', XW mg W B σ' Hi as e s') := by
        simp only [forL] at w2
        cases q : bnd (k (.d d)) (fun _ => fb) s2 with
        | no => rw [q] at w2; exact w2
        | ex x s' => rw [q] at w2; exact w2
        | ok fl s' => rw [q] at w2; cases fl <;> exact w2
      have E1 : Same Hi Hi3 := (e1.trans e2).trans e3
      have P1 : as <+: as2 := p1.trans p2
      refine wp_mono (wp_bnd w4) (fun _ s4 w5 σ4 => ?_) fun e s4 z σ4 => XW.mono (z σ4) E1 P1
      intro H4 Hi4 as4 r4 e4 p4
      refine hb B σ4 H4 Hi4 as4 s4 _ r4 (wp_mono w5 (fun fl s5 w6 σ5 => ?_) fun e s5 z σ5 => XW.mono (z σ5) (E1.trans e4) (P1.trans p4))
      intro H5 Hi5 as5 r5 e5 p5
      have E5 : Same Hi1 Hi5 := ((e2.trans e3).trans e4).trans e5
      have P5 : as1 <+: as5 := (p2.trans p4).trans p5
      cases fl with
      | nx => exact ⟨Hi5, as5, s5, r5, E5, P5, w6⟩
      | ct => exact ⟨Hi5, as5, s5, r5, E5, P5, w6⟩
      | bk => exact w6 σ5 H5 Hi5 as5 r5 (e1.trans E5) (p1.trans P5)
      | rt v => exact w6 σ5 H5 Hi5 as5 r5 (e1.trans E5) (p1.trans P5)
  · have ex : xs.drop i = [] := List.drop_eq_nil_of_le (by omega)
    rw [ex] at w2
    exact .inl ⟨stop (by omega), w2 σ2 H2 Hi2 as2 r2 (e1.trans e2) (p1.trans p2)⟩
theorem ss_while {tb : TS} {fb : M Fl} (hc : ST mg W c fcnd) (hb : SS mg W tb fb) : SS mg W (tWhile c tb) (fWhile fcnd fb) := fun B σ H Hi as s Dn rp w => by
  have hx : ∃ n, whl fcnd fb n s ≠ .no := by
    refine Classical.byContradiction fun hn => ?_
    unfold fWhile at w
    rw [dif_neg hn] at w
    exact w
  obtain ⟨n, hn⟩ := hx
  rw [fWhile_of hn] at w
  refine ⟨fun m σ H => ∃ Hi2 as2 s2, Rep B σ H Hi2 as2 s2 ∧ Same Hi Hi2 ∧ as <+: as2 ∧
    wpR (whl fcnd fb m s2) (fun fl s' => ∀ σ', OKs B σ' Hi as s' fun H' Hi' as' => FlP Dn σ' H' Hi' as' fl) (fun e s' => ∀ σ', XW mg W B σ' Hi as e s'), ⟨n, Hi, as, s, rp, Same.refl _, List.prefix_refl _, w⟩, ?_⟩
  rintro m σ2 H2 ⟨Hi2, as2, s2, r2, e2, p2, w2⟩
  cases m with
  | zero => exact w2.elim
  | succ m =>
    refine hc B σ2 H2 Hi2 as2 s2 _ r2 (wp_mono (wp_bnd w2) (fun b s3 w3 => ?_) fun e s3 z => XW.mono (z σ2) e2 p2)
    intro H3 Hi3 as3 r3 e3 p3
    cases b with
    | false => exact w3 σ2 H3 Hi3 as3 r3 (e2.trans e3) (p2.trans p3)
    | true =>
      simp only [if_true] at w3 ⊢
      refine ⟨fun σ' H' => ∃ Hi4 as4 s4, Rep B σ' H' Hi4 as4 s4 ∧ Same Hi Hi4 ∧ as <+: as4 ∧
        wpR (whl fcnd fb m s4) (fun fl s' => ∀ σ', OKs B σ' Hi as s' fun H' Hi' as' => FlP Dn σ' H' Hi' as' fl) (fun e s' => ∀ σ', XW mg W B σ' Hi as e s'), fun σ' H' q => ⟨m, Nat.lt_succ_self m, q⟩, ?_⟩
      have w4 : wpR (fb s3) (fun fl s' => match fl with
          | .nx => wpR (whl fcnd fb m s') (fun fl s' => ∀ σ', OKs B σ' Hi as s' fun H' Hi' as' => FlP Dn σ' H' Hi' as' fl) (fun e s' => ∀ σ', XW mg W B σ' Hi as e s')
          | .ct => wpR (whl fcnd fb m s') (fun fl s' => ∀ σ', OKs B σ' Hi as s' fun H' Hi' as' => FlP Dn σ' H' Hi' as' fl) (fun e s' => ∀ σ', XW mg W B σ' Hi as e s')
          | .bk => ∀ σ', OKs B σ' Hi as s' fun H' Hi' as' => FlP Dn σ' H' Hi' as' .nx
          | .rt v => ∀ σ', OKs B σ' Hi as s' fun H' Hi' as' => FlP Dn σ' H' Hi' as' (.rt v)) (fun e s' => ∀ σ', XW mg W B σ' Hi as e s') := by
        cases q : fb s3 with
        | no => rw [q] at w3; exact w3
        | ex x s' => rw [q] at w3; exact w3
        | ok fl s' => rw [q] at w3; cases fl <;> exact w3
      have E3 : Same Hi Hi3 := e2.trans e3
      have P3 : as <+: as3 := p2.trans p3
      refine hb B σ2 H3 Hi3 as3 s3 _ r3 (wp_mono w4 (fun fl s5 w6 σ5 => ?_) fun e s5 z σ5 => XW.mono (z σ5) E3 P3)
      intro H5 Hi5 as5 r5 e5 p5
      cases fl with
      | nx => exact ⟨Hi5, as5, s5, r5, E3.trans e5, P3.trans p5, w6⟩
      | ct => exact ⟨Hi5, as5, s5, r5, E3.trans e5, P3.trans p5, w6⟩
      | bk => exact w6 σ5 H5 Hi5 as5 r5 (E3.trans e5) (P3.trans p5)
      | rt v => exact w6 σ5 H5 Hi5 as5 r5 (E3.trans e5) (P3.trans p5)
end
end DL

end DLsec_4

section DLsec_5
set_option maxRecDepth 100000
namespace DL
open PySem PySem.Spec PyProof.Rows L2

def fFrz (f : M Vl) : M Vl := fun s => match bnd f frz s with
  | .ok y s2 => .ok (.d y) ⟨s.sl, cutC s.ce.length s2.ce⟩
  | .ex e s2 => .ex e s2
  | .no => .no
/-! ### iterators -/
def asL : D → M (List D)
  | .list xs => ret xs
  | _ => stuck
def asT : D → M (List D)
  | .tuple xs => ret xs
  | _ => stuck
def fItL (f : M Vl) : M (List D) := bnd f fun x => bnd (frz x) asL
def fItT (f : M Vl) : M (List D) := bnd f fun x => bnd (frz x) asT
def orI {α : Type} (f g : M α) : M α := fun s => match f s with
  | .no => g s
  | r => r
def rng (lo : Int) (n : Nat) : List D := (List.range n).map fun i => .int (lo + (i : Nat))
def fRng1 (f : M (List Vl)) : M (List D) := bnd f fun vs => match vs with
  | [.d (.int j)] => if -1000000000 ≤ j ∧ j ≤ 1000000000 then ret (rng 0 j.toNat) else stuck
  | _ => stuck
def fRng2 (f : M (List Vl)) : M (List D) := bnd f fun vs => match vs with
  | [.d (.int i), .d (.int j)] => if (-1000000000 ≤ i ∧ i ≤ 1000000000) ∧ (-1000000000 ≤ j ∧ j ≤ 1000000000) then ret (rng i (j - i).toNat) else stuck
  | _ => stuck
def enumD (n : Nat) : List D → List D
  | [] => []
  | x :: xs => .tuple [.int (n : Nat), x] :: enumD (n + 1) xs
def zipD : List D → List D → List D
  | x :: xs, y :: ys => .tuple [x, y] :: zipD xs ys
  | _, _ => []
def fEnum (f : M (List Vl)) : M (List D) := bnd f fun vs => match vs with
  | [x] => bnd (frz x) fun d => bnd (asL d) fun xs => ret (enumD 0 xs)
  | _ => stuck
def fZip (f : M (List Vl)) : M (List D) := bnd f fun vs => match vs with
  | [x, y] => bnd (frz x) fun d => bnd (asL d) fun xs => bnd (frz y) fun e => bnd (asL e) fun ys => ret (zipD xs ys)
  | _ => stuck
/-! ### comprehensions -/
def wipeD (l : List (Option Vl)) : List Nat → List (Option Vl)
  | [] => l
  | v :: vs => (wipeD l vs).set v none
def lcT (k : Vl → M Unit) (t : M Bool) (e : M Vl) (x : D) : M (Option D) := bnd (k (.d x)) fun _ => bnd t fun b => if b = true then bnd (fFrz e) (fun v => match v with
  | .d d => ret (some d)
  | .c _ => stuck) else ret none
def lcL (k : Vl → M Unit) (t : M Bool) (e : M Vl) : List D → M (List D)
  | [] => ret []
  | x :: xs => fun s => match lcT k t e x s with
    | .ok o s' => (match lcL k t e xs ⟨s.sl, cutC s.ce.length s'.ce⟩ with
      | .ok ys s'' => .ok (o.toList ++ ys) s''
      | r => r)
    | .ex _ _ => .no
    | .no => .no
def fLc (fi : M (List D)) (k : Vl → M Unit) (t : M Bool) (e : M Vl) (vs : List Nat) : M (List D) := bnd fi fun xs s => if xs.length ≤ 1000000 then (match lcL k t e xs ⟨wipeD s.sl vs, s.ce⟩ with
  | .ok ys s' => .ok ys ⟨s.sl, s'.ce⟩
  | .ex _ _ => .no
  | .no => .no) else .no
def fYes : M Bool := ret true

section
variable {mg : Str → Option Value} {W : WX} {B : Bd mg} {σ : St} {H Hi : Hp} {as : List Addr} {s : S}
variable {ta tb tc te : TE} {fa fb fc fe : M Vl}
theorem Rep.cut {H' Hi' : Hp} {as' : List Addr} {s' : S} {σ' : St} (r : Rep B σ H Hi as s) (r' : Rep B σ' H' Hi' as' s') (e : Same Hi Hi') (p : as <+: as') : Rep B σ H' Hi' as ⟨s.sl, cutC s.ce.length s'.ce⟩ := by
  have pa : ∀ (j : Nat) (a : Addr), as[j]? = some a → as'[j]? = some a := fun j a h => by
    obtain ⟨t, rfl⟩ := p
    rw [List.getElem?_append_left (lt_of_get h)]
    exact h
  have look : ∀ (j : Nat) (c : Ce), (cutC s.ce.length s'.ce)[j]? = some c → ∃ c0, s'.ce[j]? = some c0 ∧ c = kl c0 := fun j c h => (cutC_get h).2
  have hl : as.length ≤ as'.length := p.length_le
  refine ⟨r'.sub, r'.lkd, r'.fr, r'.hin, fun j a c e1 e2 ax => ?_, r.len, fun i x h => ?_, ?_, fun j a c e1 e2 => ?_, fun i j a c c' e1 e2 e3 e4 a1 a2 => ?_⟩
  · obtain ⟨c0, q, rfl⟩ := look j c e2
    exact r'.new j a c0 (pa j a e1) q (kl_alive ax)
  · obtain ⟨v, q1, q2⟩ := r.slo i x h
    exact ⟨v, q1, q2.mono e (List.prefix_refl _)⟩
  · show as.length = (cutC s.ce.length s'.ce).length
    have h1 := r.lea
    have h2 := r'.lea
    rw [cutC_len]
    omega
  · obtain ⟨c0, q, rfl⟩ := look j c e2
    exact (r'.cel j a c0 (pa j a e1) q).kl
  · obtain ⟨c0, q, rfl⟩ := look i c e3
    obtain ⟨c1, q', rfl⟩ := look j c' e4
    exact r'.inj i j a c0 c1 (pa i a e1) (pa j a e2) q q' (kl_alive a1) (kl_alive a2)
theorem se_frz (h : SE mg W ta fa) : SE mg W ta (fFrz fa) := fun B σ H Hi as s Q rp w => by
  have w0 : wpR (bnd fa frz s) (fun y s2 => OKs B σ Hi as ⟨s.sl, cutC s.ce.length s2.ce⟩ fun H' Hi' as' => ∀ v, RelVl Hi' as' v (.d y) → Q v H') (XW mg W B σ Hi as) := by
    unfold fFrz at w
    cases e : bnd fa frz s with
    | ok y s2 => rw [e] at w; exact w
    | ex x s2 => rw [e] at w; exact w
    | no => rw [e] at w; exact w
  refine h B σ H Hi as s _ rp (wp_mono (wp_bnd w0) (fun x s1 w1 => ?_) fun _ _ z => z)
  intro H1 Hi1 as1 r1 e1 p1 v hv
  obtain ⟨y, s2, Hi2, w2, r2, e2, q2⟩ := r1.frz hv w1
  exact w2 H1 Hi2 as (rp.cut r2 (e1.trans e2) p1) (e1.trans e2) (List.prefix_refl _) v (.d q2)
/-- items of a list; of a tuple -/
theorem itd_list {K : PySem.W.Frag} {a : Addr} {vs : List V} {xs : List D} (h : Hi a = some (.lst vs)) (d : DqA Hi vs xs) : ItD (Itl K a) [] Hi xs := fun B _ σ H Hi' as s r e i => by
  have hs : SqL K H a vs := .inl (.inl (r.lst (e _ _ h)))
  refine ⟨fun y hy => ?_, fun hl => ⟨vs, hs, by rw [d.length]; exact hl⟩⟩
  obtain ⟨v, q1, q2⟩ := d.get hy
  refine ⟨⟨vs, v, hs, q1⟩, fun x H' ⟨e1, e2⟩ => ?_⟩
  subst e1
  have := e2 vs hs
  rw [q1] at this
  cases this
  exact ⟨Hi', r, Same.refl _, q2.mono e⟩
theorem itd_tup {K : PySem.W.Frag} {a : Addr} {vs : List V} {xs : List D} (h : Hi a = some (.tup vs)) (d : DqA Hi vs xs) : ItD (Itt K a) [] Hi xs := fun B _ σ H Hi' as s r e i => by
  have hs : SqT K H a vs := .inl (.inl (r.tup (e _ _ h)))
  refine ⟨fun y hy => ?_, fun hl => ⟨vs, hs, by rw [d.length]; exact hl⟩⟩
  obtain ⟨v, q1, q2⟩ := d.get hy
  refine ⟨⟨vs, v, hs, q1⟩, fun x H' ⟨e1, e2⟩ => ?_⟩
  subst e1
  have := e2 vs hs
  rw [q1] at this
  cases this
  exact ⟨Hi', r, Same.refl _, q2.mono e⟩
theorem si_list {K : PySem.W.Frag} (h : SE mg W ta fa) : SI mg W (iList K ta) (fItL fa) := fun B σ H Hi as s R rp w => by
  refine h B σ H Hi as s _ rp (wp_mono (wp_bnd w) (fun x s1 w1 => ?_) fun _ _ z => z)
  intro H1 Hi1 as1 r1 e1 p1 v hv
  obtain ⟨y, s2, Hi2, w2, r2, e2, q2⟩ := r1.frz hv (wp_bnd w1)
  cases q2 with
  | lst h1 h2 => exact ⟨_, rfl, ⟨_, .inl (.inl (r2.lst h1))⟩, w2 H1 Hi2 as1 r2 (e1.trans e2) p1 _ [] (by simp) (itd_list h1 h2)⟩
  | _ => exact w2.elim
theorem si_tup {K : PySem.W.Frag} (h : SE mg W ta fa) : SI mg W (iTup K ta) (fItT fa) := fun B σ H Hi as s R rp w => by
  refine h B σ H Hi as s _ rp (wp_mono (wp_bnd w) (fun x s1 w1 => ?_) fun _ _ z => z)
  intro H1 Hi1 as1 r1 e1 p1 v hv
  obtain ⟨y, s2, Hi2, w2, r2, e2, q2⟩ := r1.frz hv (wp_bnd w1)
  cases q2 with
  | tup h1 h2 => exact ⟨_, rfl, ⟨_, .inl (.inl (r2.tup h1))⟩, w2 H1 Hi2 as1 r2 (e1.trans e2) p1 _ [] (by simp) (itd_tup h1 h2)⟩
  | _ => exact w2.elim
theorem pi_or {X : Cx} {tg iter : Expr} {wi wi' : TI} (h : PI X tg iter wi) (h' : PI X tg iter wi') : PI X tg iter (fun σ H R => wi σ H R ∨ wi' σ H R) :=
  ⟨fun pins s σ H R I q => q.elim (h.run pins s σ H R I) (h'.run pins s σ H R I)⟩
theorem si_or {wi wi' : TI} {f g : M (List D)} (h : SI mg W wi f) (h' : SI mg W wi' g) : SI mg W (fun σ H R => wi σ H R ∨ wi' σ H R) (orI f g) := fun B σ H Hi as s R rp w => by
  unfold orI at w
  cases e : f s with
  | no => rw [e] at w; exact .inr (h' B σ H Hi as s R rp w)
  | ok a s' => rw [e] at w; exact .inl (h B σ H Hi as s R rp (by rw [e]; exact w))
  | ex x s' => rw [e] at w; exact .inl (h B σ H Hi as s R rp (by rw [e]; exact w))
theorem itd_rng {lo : Int} {n : Nat} : ItD (Itr lo n) [] Hi (rng lo n) := fun B _ σ H Hi' as s r e i => by
  refine ⟨fun y hy => ?_, fun hl => ?_⟩
  · unfold rng at hy
    rw [List.getElem?_map] at hy
    by_cases hi : i < n
    · rw [List.getElem?_range hi] at hy
      cases hy
      refine ⟨hi, fun x H' ⟨e1, e2⟩ => ?_⟩
      subst e1 e2
      exact ⟨Hi', r, Same.refl _, .int _⟩
    · rw [List.getElem?_eq_none (by simpa using hi)] at hy
      cases hy
  · show n ≤ i
    simpa [rng] using hl
theorem si_rng1 {tA : TA} {fA : M (List Vl)} (h : SA mg W tA fA) : SI mg W (iRng1 tA) (fRng1 fA) := fun B σ H Hi as s R rp w => by
  refine h B σ H Hi as s _ rp (wp_mono (wp_bnd w) (fun x s1 w1 => ?_) fun _ _ z => z)
  intro H1 Hi1 as1 r1 e1 p1 vs hv
  cases hv with
  | nil => exact w1.elim
  | cons a1 a2 =>
    cases a1 with
    | c q => cases a2 <;> exact w1.elim
    | d q =>
      cases a2 with
      | cons _ _ => cases q <;> exact w1.elim
      | nil =>
        cases q with
        | int j =>
          simp only at w1
          split at w1
          · rename_i hj
            exact ⟨j, rfl, by omega, by omega, w1 H1 Hi1 as1 r1 e1 p1 _ [] (by simp) itd_rng⟩
          · exact w1.elim
        | _ => exact w1.elim
theorem enumD_get : ∀ {xs : List D} {n i : Nat}, (enumD n xs)[i]? = (xs[i]?).map fun x => .tuple [.int ((n + i : Nat) : Int), x]
  | [], n, i => by simp [enumD]
  | x :: xs, n, 0 => by simp [enumD]
  | x :: xs, n, i + 1 => by
    simp only [enumD, List.getElem?_cons_succ]
    rw [enumD_get]
    rw [show n + 1 + i = n + (i + 1) by omega]
theorem enumD_len : ∀ {xs : List D} {n : Nat}, (enumD n xs).length = xs.length
  | [], n => rfl
  | x :: xs, n => by simp [enumD, enumD_len]
theorem itd_enum {K : PySem.W.Frag} {a : Addr} {vs : List V} {xs : List D} (h : Hi a = some (.lst vs)) (d : DqA Hi vs xs) : ItD (Ite K a) [] Hi (enumD 0 xs) := fun B _ σ H Hi' as s r e i => by
  have hs : SqL K H a vs := .inl (.inl (r.lst (e _ _ h)))
  refine ⟨fun y hy => ?_, fun hl => ⟨vs, hs, by rw [d.length]; rw [enumD_len] at hl; exact hl⟩⟩
  rw [enumD_get] at hy
  cases hx : xs[i]? with
  | none => rw [hx] at hy; cases hy
  | some z =>
    rw [hx] at hy
    cases hy
    obtain ⟨v, q1, q2⟩ := d.get hx
    refine ⟨⟨vs, v, hs, q1⟩, fun x H' ⟨T, w, e1, nT, e2, e3⟩ => ?_⟩
    have := e3 vs hs
    rw [q1] at this
    cases this
    subst e1 e2
    have sm : Same Hi' (upd Hi' T (.tup [.int (i : Nat), v])) := same_new (r.fresh nT)
    refine ⟨_, r.addI nT, sm, .tup upd_same (.cons ?_ (.cons ((q2.mono e).mono sm) .nil))⟩
    rw [Nat.zero_add]
    exact .int _
theorem si_enum {K : PySem.W.Frag} {tA : TA} {fA : M (List Vl)} (h : SA mg W tA fA) : SI mg W (iEnum K tA) (fEnum fA) := fun B σ H Hi as s R rp w => by
  refine h B σ H Hi as s _ rp (wp_mono (wp_bnd w) (fun x s1 w1 => ?_) fun _ _ z => z)
  intro H1 Hi1 as1 r1 e1 p1 vs hv
  cases hv with
  | nil => exact w1.elim
  | cons a1 a2 =>
    cases a2 with
    | cons _ _ => exact w1.elim
    | nil =>
      obtain ⟨y, s2, Hi2, w2, r2, e2, q2⟩ := r1.frz a1 (wp_bnd w1)
      cases q2 with
      | lst h1 h2 => exact ⟨_, _, rfl, .inl (.inl (r2.lst h1)), w2 H1 Hi2 as1 r2 (e1.trans e2) p1 _ [] (by simp) (itd_enum h1 h2)⟩
      | _ => exact w2.elim
end
end DL

end DLsec_5

section DLsec_6
set_option maxRecDepth 100000
namespace DL
open PySem PySem.Spec PyProof.Rows L2

abbrev WF : WX := fun _ _ _ _ => False
def era (H : Hp) (p : Addr) : Hp := fun b => if b = p then none else H b
theorem era_same {H : Hp} {p : Addr} : era H p p = none := by unfold era; rw [if_pos rfl]
theorem era_ne {H : Hp} {p b : Addr} (h : b ≠ p) : era H p b = H b := by unfold era; rw [if_neg h]
theorem upd_era {H : Hp} {p : Addr} {o : HO} (h : H p = some o) : upd (era H p) p o = H := by
  funext b
  by_cases e : b = p
  · subst e; rw [upd_same, h]
  · rw [upd_ne e, era_ne e]
section
variable {mg : Str → Option Value} {W : WX} {B : Bd mg} {σ : St} {H Hi : Hp} {as : List Addr} {s : S}
variable {ta tb tc te : TE} {fa fb fc fe : M Vl}
theorem wipe_get {l : List (Option Vl)} {i : Nat} {x : Vl} : ∀ {vs : List Nat}, (wipeD l vs)[i]? = some (some x) → l[i]? = some (some x) ∧ i ∉ vs
  | [], h => ⟨h, by simp⟩
  | v :: vs, h => by
    unfold wipeD at h
    by_cases e : i = v
    · subst e
      rw [List.getElem?_set] at h
      simp at h
    · rw [List.getElem?_set_ne (Ne.symm e)] at h
      obtain ⟨h1, h2⟩ := wipe_get (vs := vs) h
      exact ⟨h1, by simp [e, h2]⟩
theorem wipeD_length (l : List (Option Vl)) : ∀ vs : List Nat, (wipeD l vs).length = l.length
  | [] => rfl
  | v :: vs => by unfold wipeD; rw [List.length_set, wipeD_length l vs]
theorem Rep.wipe (r : Rep B σ H Hi as s) (vs : List Nat) : Rep B (L2.wipe σ vs) H Hi as ⟨wipeD s.sl vs, s.ce⟩ := by
  refine ⟨r.sub, r.lkd, r.fr, r.hin, r.new, ?_, fun i x h => ?_, r.lea, r.cel, r.inj⟩
  · rw [L2.wipe_length, r.len]; exact (wipeD_length s.sl vs).symm
  · obtain ⟨h1, h2⟩ := wipe_get h
    obtain ⟨v, q1, q2⟩ := r.slo i x h1
    exact ⟨v, by rw [wipe_out h2]; exact q1, q2⟩
theorem wipe_in {σ : St} {i : Nat} : ∀ {vs : List Nat}, i ∈ vs → (L2.wipe σ vs)[i]? = if i < σ.length then some none else none
  | [], h => by cases h
  | v :: vs, h => by
    unfold L2.wipe
    by_cases e : i = v
    · subst e
      rw [List.getElem?_set]
      simp [L2.wipe_length]
    · rw [List.getElem?_set_ne (Ne.symm e)]
      cases h with
      | head => exact absurd rfl e
      | tail _ h => exact wipe_in h
theorem wipe_wipe (σ : St) (vs : List Nat) : L2.wipe (L2.wipe σ vs) vs = L2.wipe σ vs := by
  refine List.ext_getElem? fun i => ?_
  by_cases h : i ∈ vs
  · rw [wipe_in h, wipe_in h, L2.wipe_length]
  · rw [wipe_out h]
/-! ### a part with a frame of its own -/
def aliveA (as : List Addr) (ce : List Ce) : List Addr := ((as.zip ce).filter fun p => p.2.alive).map (·.1)
theorem mem_aliveA {as : List Addr} {ce : List Ce} {a : Addr} : a ∈ aliveA as ce ↔ ∃ (j : Nat) (c : Ce), as[j]? = some a ∧ ce[j]? = some c ∧ c.alive = true := by
  unfold aliveA
  constructor
  · intro h
    obtain ⟨⟨x, c⟩, h1, h2⟩ := List.mem_map.mp h
    obtain ⟨h3, h4⟩ := List.mem_filter.mp h1
    obtain ⟨j, hj⟩ := List.getElem?_of_mem h3
    rw [List.getElem?_zip_eq_some] at hj
    cases h2
    exact ⟨j, c, hj.1, hj.2, h4⟩
  · rintro ⟨j, c, h1, h2, h3⟩
    exact List.mem_map.mpr ⟨(a, c), List.mem_filter.mpr ⟨List.mem_of_getElem? (List.getElem?_zip_eq_some.mpr ⟨h1, h2⟩), h3⟩, rfl⟩
def Bd.sub {mg : Str → Option Value} (B : Bd mg) (H Hi : Hp) (as : List Addr) (ce : List Ce) : Bd mg := ⟨H, Hi, aliveA as ce, B.lk0 ++ B.lk1, []⟩
theorem Rep.enter (r : Rep B σ H Hi as s) : Rep (B.sub H Hi as s.ce) σ H Hi as s := by
  refine ⟨fun b o e => ?_, fun b hb => r.lkd b ?_, fun b o e n => ?_, fun b o e => .inl e, fun j a c e1 e2 al => .inl (mem_aliveA.mpr ⟨j, c, e1, e2, al⟩), r.len, r.slo, r.lea, r.cel, r.inj⟩
  · show HL (B.lk0 ++ B.lk1 ++ []) H b o
    rw [List.append_nil]
    exact r.sub b o e
  · have hb' : b ∈ B.lk0 ++ B.lk1 ++ [] := hb
    rw [List.append_nil] at hb'
    exact hb'
  · show HL [] H b o
    unfold HL
    rw [if_neg (by simp)]
    exact e
theorem Rep.leave {σ' : St} {H' Hi' : Hp} {as' : List Addr} {s' : S} (r : Rep B σ H Hi as s) (r' : Rep (B.sub H Hi as s.ce) σ' H' Hi' as' s') : Rep B σ' H' Hi' as' s' := by
  have own : ∀ a, a ∈ aliveA as s.ce → a ∈ B.A0 ∨ B.H0 a = none := fun a h => by
    obtain ⟨j, c, h1, h2, h3⟩ := mem_aliveA.mp h
    exact r.new j a c h1 h2 h3
  refine ⟨fun b o e => ?_, fun b hb => r'.lkd b ?_, fun b o e n => ?_, fun b o e => ?_, fun j a c e1 e2 al => ?_, r'.len, r'.slo, r'.lea, r'.cel, r'.inj⟩
  · have := r'.sub b o e
    have q : HL (B.lk0 ++ B.lk1 ++ []) H' b o := this
    rw [List.append_nil] at q
    exact q
  · show b ∈ B.lk0 ++ B.lk1 ++ []
    rw [List.append_nil]
    exact hb
  · have h1 := r.fr b o e n
    have keep : ∀ u, H b = some u → H' b = some u := fun u hu => by
      have hn : b ∉ aliveA as s.ce := fun z => by
        rcases own b z with q | q
        · exact n q
        · rw [q] at e; cases e
      have q : HL [] H' b u := r'.fr b u hu hn
      unfold HL at q
      rw [if_neg (by simp)] at q
      exact q
    unfold HL at h1 ⊢
    split
    · rename_i hb
      rw [if_pos hb] at h1
      obtain ⟨ob, q⟩ := h1
      exact ⟨ob, keep _ q⟩
    · rename_i hb
      rw [if_neg hb] at h1
      exact keep _ h1
  · rcases r'.hin b o e with q | q | q | q
    · exact r.hin b o q
    · exact .inr (or3 (r.fresh0 q))
    · exact .inr (or3 (own b q).symm)
    · exact .inr (.inr (.inr q))
  · rcases r'.new j a c e1 e2 al with q | q
    · exact own a q
    · exact (r.fresh0 q).symm
/-- the new list of a comprehension is nobody's -/
theorem Rep.era (r : Rep B σ H Hi as s) {p : Addr} (h1 : Hi p = none) (h2 : B.H0 p = none ∨ p ∈ B.A0) (h3 : ∀ (j : Nat) (c : Ce), as[j]? = some p → s.ce[j]? = some c → c.alive = false) : Rep B σ (era H p) Hi as s := by
  have up : ∀ {lk : List Addr} {b : Addr} {o : HO}, HL lk H b o → b ≠ p → HL lk (DL.era H p) b o := fun {lk b o} h n => by
    unfold HL at h ⊢
    rw [era_ne n]
    exact h
  refine ⟨fun b o e => up (r.sub b o e) (ne_of_none e h1), r.lkd, fun b o e n => up (r.fr b o e n) (fun z => by subst z; rcases h2 with q | q; (rw [q] at e; cases e); exact n q), r.hin, r.new, r.len, r.slo, r.lea, fun j a c e1 e2 => ?_, r.inj⟩
  refine (r.cel j a c e1 e2).mono (Same.refl _) (List.prefix_refl _) (fun _ => rfl) fun al => era_ne fun z => ?_
  subst z
  rw [h3 j c e1 e2] at al
  cases al
/-- target and tests of a comprehension leave all names but their own -/
def KeepS (g : TG) (vs : List Nat) : Prop := ∀ (v : V) (σ : St) (H : Hp) (Q : St → Hp → Prop), g v σ H Q → g v σ H fun σ' H' => L2.wipe σ' vs = L2.wipe σ vs ∧ Q σ' H'
theorem keep_name {i : Nat} {vs : List Nat} (h : i ∈ vs) : KeepS (gName i) vs := fun v σ H Q q => by
  refine ⟨?_, q⟩
  clear q
  induction vs with
  | nil => cases h
  | cons a vs ih =>
    unfold L2.wipe
    by_cases e : i = a
    · subst e
      by_cases hm : i ∈ vs
      · rw [ih hm]
      · have key : ∀ ws : List Nat, i ∉ ws → L2.wipe (σ.set i (some v)) ws = (L2.wipe σ ws).set i (some v) := fun ws hw => by
          induction ws with
          | nil => rfl
          | cons b ws ih2 =>
            simp only [List.mem_cons, not_or] at hw
            unfold L2.wipe
            rw [ih2 hw.2, List.set_comm _ _ hw.1]
        rw [key vs hm, List.set_set]
    · have hm : i ∈ vs := by
        cases h with
        | head => exact absurd rfl e
        | tail _ h => exact h
      rw [ih hm]
def KeepSs (g : TGs) (vs : List Nat) : Prop := ∀ (v : List V) (σ : St) (H : Hp) (Q : St → Hp → Prop), g v σ H Q → g v σ H fun σ' H' => L2.wipe σ' vs = L2.wipe σ vs ∧ Q σ' H'
def MonoG (g : TG) : Prop := ∀ (v : V) (σ : St) (H : Hp) (Q Q' : St → Hp → Prop), (∀ σ H, Q σ H → Q' σ H) → g v σ H Q → g v σ H Q'
def MonoGs (g : TGs) : Prop := ∀ (v : List V) (σ : St) (H : Hp) (Q Q' : St → Hp → Prop), (∀ σ H, Q σ H → Q' σ H) → g v σ H Q → g v σ H Q'
structure KG (g : TG) (vs : List Nat) : Prop where
  keep : KeepS g vs
  mono : MonoG g
structure KGs (g : TGs) (vs : List Nat) : Prop where
  keep : KeepSs g vs
  mono : MonoGs g
theorem kg_name {i : Nat} {vs : List Nat} (h : i ∈ vs) : KG (gName i) vs := ⟨keep_name h, fun v σ H Q Q' m q => m _ _ q⟩
theorem st_yes : ST mg W tYes fYes := fun B σ H Hi as s Q rp w => OKs.now w rp
theorem sf_lc {wi : TI} {g : TG} {tt : TT} {vs : List Nat} {fi : M (List D)} {k : Vl → M Unit} {ft : M Bool} (hi : SI mg W wi fi) (hg : SG mg WF g k) (hk : KG g vs) (ht : ST mg WF tt ft) (he : SE mg WF te fe) : SF mg W (tLc wi g tt te vs) (fLc fi k ft fe vs) := fun B σ H Hi as s Q rp w => by
  refine hi B σ H Hi as s _ rp (wp_mono (wp_bnd w) (fun xs s1 w1 => ?_) fun _ _ z => z)
  intro H1 Hi1 as1 r1 e1 p1 J L hL hJ D hD
  by_cases hn : xs.length ≤ 1000000
  case neg => rw [if_neg hn] at w1; exact w1.elim
  rw [if_pos hn] at w1
  obtain ⟨ys, ce', q0, w2⟩ : ∃ ys s', lcL k ft fe xs ⟨wipeD s1.sl vs, s1.ce⟩ = .ok ys s' ∧ OKs B σ Hi as ⟨s1.sl, s'.ce⟩ (fun H' Hi' as' => ∀ p vs, H' p = none → DqA Hi' vs ys → Q (.ref p) (upd H' p (.lst vs))) := by
    cases e : lcL k ft fe xs ⟨wipeD s1.sl vs, s1.ce⟩ with
    | ok ys s' => rw [e] at w1; exact ⟨ys, s', rfl, w1⟩
    | ex x s' => rw [e] at w1; exact w1.elim
    | no => rw [e] at w1; exact w1.elim
  have HiD : Hi1 D = none := r1.fresh hD
  refine ⟨fun i m H => m + i = xs.length ∧ ∃ acc yacc ce Hi2, H D = some (.lst acc) ∧ acc.length ≤ i ∧ Hi2 D = none ∧ Rep B (L2.wipe σ vs) (era H D) Hi2 as1 ⟨wipeD s1.sl vs, ce⟩ ∧ Same Hi1 Hi2 ∧ DqA Hi2 acc yacc ∧
    ∃ zs s', lcL k ft fe (xs.drop i) ⟨wipeD s1.sl vs, ce⟩ = .ok zs s' ∧ yacc ++ zs = ys ∧ s' = ce', ⟨xs.length, rfl, [], [], s1.ce, Hi1, upd_same, Nat.zero_le _, HiD, ?_, Same.refl _, .nil, ys, ce', q0, rfl, rfl⟩, ?_⟩
  · have ee : era (upd H1 D (.lst [])) D = H1 := by
      funext b
      by_cases z : b = D
      · subst z; rw [era_same, hD]
      · rw [era_ne z, upd_ne z]
    rw [ee]
    exact r1.wipe vs
  · rintro i m H2 ⟨hm, acc, yacc, ce, Hi2, hDa, hal, hHiD, r2, e2, da, zs, s', q2, hys, hs'⟩
    have r2' : Rep B (L2.wipe σ vs) H2 Hi2 as1 ⟨wipeD s1.sl vs, ce⟩ := by
      have := r2.add (o := .lst acc) (p := D) era_same
      rw [upd_era hDa] at this
      exact this
    have hDA : D ∉ aliveA as1 ce := fun z => by
      obtain ⟨j, c, h1, h2, h3⟩ := mem_aliveA.mp z
      exact (r2.cel j D c h1 h2).ne_new h3 era_same rfl
    have rb := r2'.enter
    have hL' : ∀ a ∈ L, a ∈ (B.sub H2 Hi2 as1 ce).lk0 ++ (B.sub H2 Hi2 as1 ce).lk1 := fun a ha => by
      show a ∈ B.lk0 ++ B.lk1 ++ []
      rw [List.append_nil]
      exact hL a ha
    obtain ⟨step, stop⟩ := hJ _ hL' (L2.wipe σ vs) H2 Hi2 as1 _ rb e2 i
    by_cases hlt : i < xs.length
    · obtain ⟨d, hd⟩ : ∃ d, xs[i]? = some d := ⟨_, List.getElem?_eq_getElem hlt⟩
      have ex : xs.drop i = d :: xs.drop (i + 1) := by
        rw [List.drop_eq_getElem_cons hlt]
        rw [List.getElem?_eq_getElem hlt] at hd
        cases hd; rfl
      rw [ex] at q2
      obtain ⟨go, yl⟩ := step d hd
      -- what stands at D behind a part with its own frame
      have keepD : ∀ {σ' : St} {H' Hi' : Hp} {as' : List Addr} {s' : S}, Rep (B.sub H2 Hi2 as1 ce) σ' H' Hi' as' s' → H' D = some (.lst acc) ∧ Hi' D = none := fun {σ' H' Hi' as' s'} r => by
        refine ⟨?_, ?_⟩
        · have q : HL [] H' D (.lst acc) := r.fr D _ hDa hDA
          unfold HL at q
          rw [if_neg (by simp)] at q
          exact q
        · cases z : Hi' D with
          | none => rfl
          | some o =>
            rcases r.hin D o z with q | q | q | q
            · have q' : Hi2 D = some o := q
              rw [hHiD] at q'; cases q'
            · have q' : H2 D = none := q
              rw [hDa] at q'; cases q'
            · exact absurd q hDA
            · obtain ⟨vs', rfl⟩ := q
              have h' := r.tup z
              have q : HL [] H' D (.lst acc) := r.fr D _ hDa hDA
              unfold HL at q
              rw [if_neg (by simp), h'] at q
              cases q
      -- behind the turn
      have fin : ∀ {σ' : St} {H' Hi' : Hp} {as' : List Addr} {s' : S} (acc' : List V), Rep (B.sub H2 Hi2 as1 ce) σ' H' Hi' as' s' → Same Hi2 Hi' → as1 <+: as' →
          Rep B (L2.wipe σ vs) (era (upd H' D (.lst acc')) D) Hi' as1 ⟨wipeD s1.sl vs, cutC ce.length s'.ce⟩ := fun {σ' H' Hi' as' s'} acc' r e p => by
        have rc : Rep B (L2.wipe σ vs) H' Hi' as1 ⟨wipeD s1.sl vs, cutC ce.length s'.ce⟩ := r2'.leave (rb.cut r e p)
        have ee : era (upd H' D (.lst acc')) D = era H' D := by
          funext b
          by_cases z : b = D
          · subst z; rw [era_same, era_same]
          · rw [era_ne z, era_ne z, upd_ne z]
        rw [ee]
        refine rc.era (keepD r).2 (r2.fresh0 era_same) fun j c h1 h2 => ?_
        cases al : c.alive with
        | false => rfl
        | true =>
          rcases (rb.cut r e p).new j D c h1 h2 al with q | q
          · exact absurd q hDA
          · have q' : H2 D = none := q
            rw [hDa] at q'; cases q'
      refine .inr ⟨go, fun H' => ∃ acc yacc ce Hi2, H' D = some (.lst acc) ∧ acc.length ≤ i + 1 ∧ Hi2 D = none ∧ Rep B (L2.wipe σ vs) (era H' D) Hi2 as1 ⟨wipeD s1.sl vs, ce⟩ ∧ Same Hi1 Hi2 ∧ DqA Hi2 acc yacc ∧
        ∃ zs s', lcL k ft fe (xs.drop (i + 1)) ⟨wipeD s1.sl vs, ce⟩ = .ok zs s' ∧ yacc ++ zs = ys ∧ s' = ce', ?_, ?_⟩
      · rintro H' ⟨acc, yacc, ce, Hi3, z⟩
        exact ⟨m - 1, by omega, by omega, acc, yacc, ce, Hi3, z⟩
      · intro x H3 hy
        obtain ⟨Hi3, r3, e3, q3⟩ := yl x H3 hy
        obtain ⟨o, s4, zs', q4, q5, rfl⟩ : ∃ o s4 zs', lcT k ft fe d ⟨wipeD s1.sl vs, ce⟩ = .ok o s4 ∧ lcL k ft fe (xs.drop (i + 1)) ⟨wipeD s1.sl vs, cutC ce.length s4.ce⟩ = .ok zs' s' ∧ zs = o.toList ++ zs' := by
          simp only [lcL] at q2
          cases z : lcT k ft fe d ⟨wipeD s1.sl vs, ce⟩ with
          | no => rw [z] at q2; cases q2
          | ex x s' => rw [z] at q2; cases q2
          | ok o s4 =>
            rw [z] at q2
            simp only at q2
            cases z2 : lcL k ft fe (xs.drop (i + 1)) ⟨wipeD s1.sl vs, cutC ce.length s4.ce⟩ with
            | no => rw [z2] at q2; cases q2
            | ex x s' => rw [z2] at q2; cases q2
            | ok ys' s'' => rw [z2] at q2; cases q2; exact ⟨o, s4, ys', rfl, z2, rfl⟩
        have w4 : wpR (lcT k ft fe d ⟨wipeD s1.sl vs, ce⟩) (fun o' s' => o' = o ∧ s' = s4) (fun _ _ => False) := by rw [q4]; exact ⟨rfl, rfl⟩
        refine hk.mono _ _ _ _ _ (fun σ5 H5 ⟨k5, q⟩ => ⟨by rw [k5, wipe_wipe], q⟩) (hk.keep _ _ _ _ (hg _ _ H3 Hi3 as1 _ (.d d) x _ r3 (.d q3) (wp_mono (wp_bnd w4) (fun _ s5 w5 σ5 => ?_) fun _ _ z => z.elim)))
        intro H5 Hi5 as5 r5 e5 p5
        refine ht _ σ5 H5 Hi5 as5 s5 _ r5 (wp_mono (wp_bnd w5) (fun b s6 w6 => ?_) fun _ _ z => z.elim)
        intro H6 Hi6 as6 r6 e6 p6
        have E6 : Same Hi2 Hi6 := (e3.trans e5).trans e6
        cases b with
        | false =>
          obtain ⟨rfl, rfl⟩ := w6
          have := fin acc r6 E6 (p5.trans p6)
          obtain ⟨k1, k2⟩ := keepD r6
          refine ⟨acc, yacc, _, Hi6, k1, by omega, k2, ?_, e2.trans E6, da.mono E6, zs', s', q5, by simpa using hys, hs'⟩
          have ee : era (upd H6 D (.lst acc)) D = era H6 D := by
            funext b
            by_cases z : b = D
            · subst z; rw [era_same, era_same]
            · rw [era_ne z, era_ne z, upd_ne z]
          rw [ee] at this
          exact this
        | true =>
          simp only [if_true] at w6 ⊢
          refine se_frz he _ σ5 H6 Hi6 as6 s6 _ r6 (wp_mono (wp_bnd w6) (fun v s7 w7 => ?_) fun _ _ z => z.elim)
          intro H7 Hi7 as7 r7 e7 p7 y hy
          cases hy with
          | c q => exact w7.elim
          | d q =>
            obtain ⟨rfl, rfl⟩ := w7
            obtain ⟨k1, k2⟩ := keepD r7
            have E7 := E6.trans e7
            refine ⟨acc, k1, lt_line (by omega), acc ++ [y], yacc ++ [_], _, Hi7, upd_same, by simp; omega, k2, fin _ r7 E7 ((p5.trans p6).trans p7), e2.trans E7, (da.mono E7).append (.cons q .nil), zs', s', q5, by simpa using hys, hs'⟩
    · have ex : xs.drop i = [] := List.drop_eq_nil_of_le (by omega)
      rw [ex] at q2
      cases q2
      rw [List.append_nil] at hys
      subst hys hs'
      have r4 : Rep B σ (era H2 D) Hi2 as1 ⟨s1.sl, ce⟩ := ⟨r2.sub, r2.lkd, r2.fr, r2.hin, r2.new, r1.len, fun i x h => by
        obtain ⟨v, k1, k2⟩ := r1.slo i x h
        exact ⟨v, k1, k2.mono e2 (List.prefix_refl _)⟩, r2.lea, r2.cel, r2.inj⟩
      have := w2 (era H2 D) Hi2 as1 r4 (e1.trans e2) p1 D acc era_same da
      rw [upd_era hDa] at this
      exact .inl ⟨stop (by omega), this⟩
end
end DL

end DLsec_6

section DLsec_7
set_option maxRecDepth 100000
namespace DL
open PySem PySem.Spec PyProof.Rows L2

/-! ### defs -/
inductive FR where
  | ok (v : Vl) (cs : List Ce)
  | ex (e : Ex) (cs : List Ce)
  | no
abbrev FD := List Vl → List Ce → FR
def wpF (r : FR) (P : Vl → List Ce → Prop) (E : Ex → List Ce → Prop) : Prop := match r with
  | .ok v c => P v c
  | .ex e c => E e c
  | .no => False
/-- the promise of a def that does what g does -/
def FSp (mg : Str → Option Value) (g : FD) : Sp := fun vs H Q E => ∃ (Hi : Hp) (as : List Addr) (xs : List Vl) (cs : List Ce) (lk : List Addr),
  Rep (mg := mg) ⟨H, Hi, aliveA as cs, lk, []⟩ (vs.map some) H Hi as ⟨xs.map some, cs⟩ ∧
  wpF (g xs cs) (fun z cs' => ∀ v H' Hi' as', Rep (mg := mg) ⟨H, Hi, aliveA as cs, lk, []⟩ [] H' Hi' as' ⟨[], cs'⟩ → Same Hi Hi' → as <+: as' → RelVl Hi' as' v z → Q v H')
    (fun e cs' => ∀ cls d H' Hi' as', Rep (mg := mg) ⟨H, Hi, aliveA as cs, lk, []⟩ [] H' Hi' as' ⟨[], cs'⟩ → Same Hi Hi' → as <+: as' → ExR mg Hi' e cls d → E cls d H')
/-- a tuple with a new list behind a datum -/
def endT (n : Nat) (ce : List Ce) : List Vl → FR
  | [.d x, .c k] => if k < n then .no else match ce[k]? with
    | some (.l ys) => .ok (.c (n + 1)) (cutC n ce ++ [.l ys, .t [.d x, .c n]])
    | _ => .no
  | [.c k, .d x] => if k < n then .no else match ce[k]? with
    | some (.l ys) => .ok (.c (n + 1)) (cutC n ce ++ [.l ys, .t [.c n, .d x]])
    | _ => .no
  | _ => .no
def endF (n : Nat) (v : Vl) (ce : List Ce) : FR := match v with
  | .d x => .ok (.d x) (cutC n ce)
  | .c j => if j < n then .ok (.c j) (cutC n ce) else match ce[j]? with
    | some (.l xs) => .ok (.c n) (cutC n ce ++ [.l xs])
    | some (.m kvs) => .ok (.c n) (cutC n ce ++ [.m kvs])
    | some (.f xs) => .ok (.d (.list xs)) (cutC n ce)
    | some (.t xs) => endT n ce xs
    | _ => .no
/-- ar: how many parameters; n: how many names -/
def mkF (ar n : Nat) (body : M Fl) : FD := fun xs cs => if xs.length = ar then (match body ⟨xs.map some ++ List.replicate (n - ar) none, cs⟩ with
  | .ok .nx s => .ok (.d .none) (cutC cs.length s.ce)
  | .ok (.rt v) s => endF cs.length v s.ce
  | .ex e s => .ex e (cutC cs.length s.ce)
  | _ => .no) else .no
theorem fsp_len {mg : Str → Option Value} {ar n : Nat} {body : M Fl} {vs : List V} {H : Hp} {Q : VK} {E : XK} (h : FSp mg (mkF ar n body) vs H Q E) : vs.length = ar := by
  obtain ⟨Hi, as, xs, cs, lk, r, w⟩ := h
  unfold mkF at w
  split at w
  · rename_i e
    have := r.len
    simp at this
    omega
  · exact w.elim
theorem Rep.names {mg : Str → Option Value} {B : Bd mg} {σ : St} {H Hi : Hp} {as : List Addr} {s : S} (r : Rep B σ H Hi as s) (n : Nat) : Rep B (σ ++ List.replicate n none) H Hi as ⟨s.sl ++ List.replicate n none, s.ce⟩ := by
  refine ⟨r.sub, r.lkd, r.fr, r.hin, r.new, by simp [r.len], fun i x h => ?_, r.lea, r.cel, r.inj⟩
  by_cases hi : i < s.sl.length
  · rw [List.getElem?_append_left hi] at h
    obtain ⟨v, q1, q2⟩ := r.slo i x h
    exact ⟨v, by rw [List.getElem?_append_left (by rw [r.len]; exact hi)]; exact q1, q2⟩
  · rw [List.getElem?_append_right (by omega), List.getElem?_replicate] at h
    split at h <;> cases h
theorem Rep.nil {mg : Str → Option Value} {B : Bd mg} {σ : St} {H Hi : Hp} {as : List Addr} {s : S} (r : Rep B σ H Hi as s) : Rep B [] H Hi as ⟨[], s.ce⟩ :=
  ⟨r.sub, r.lkd, r.fr, r.hin, r.new, rfl, fun i x h => by simp at h, r.lea, r.cel, r.inj⟩
theorem Rep.takeC {mg : Str → Option Value} {B : Bd mg} {σ : St} {H Hi : Hp} {as : List Addr} {s : S} (r : Rep B σ H Hi as s) {n : Nat} (hn : n ≤ as.length) : Rep B [] H Hi (as.take n) ⟨[], cutC n s.ce⟩ := by
  have l1 : ∀ (l : List Addr) (j : Nat) (a : Addr), (l.take n)[j]? = some a → l[j]? = some a := fun l j a h => by
    rw [List.getElem?_take] at h
    split at h
    · exact h
    · cases h
  refine ⟨r.sub, r.lkd, r.fr, r.hin, fun j a c e1 e2 al => ?_, rfl, fun i x h => by simp at h, ?_, fun j a c e1 e2 => ?_, fun i j a c c' e1 e2 e3 e4 a1 a2 => ?_⟩
  · obtain ⟨_, c0, q, rfl⟩ := cutC_get e2
    exact r.new j a c0 (l1 _ _ _ e1) q (kl_alive al)
  · have := r.lea
    show (as.take n).length = (cutC n s.ce).length
    rw [cutC_len, List.length_take]
    omega
  · obtain ⟨_, c0, q, rfl⟩ := cutC_get e2
    exact (r.cel j a c0 (l1 _ _ _ e1) q).kl
  · obtain ⟨_, c0, q, rfl⟩ := cutC_get e3
    obtain ⟨_, c1, q', rfl⟩ := cutC_get e4
    exact r.inj i j a c0 c1 (l1 _ _ _ e1) (l1 _ _ _ e2) q q' (kl_alive a1) (kl_alive a2)
/-- the cell that is handed back stands last -/
theorem Rep.takeB {mg : Str → Option Value} {B : Bd mg} {σ : St} {H Hi : Hp} {as : List Addr} {s : S} (r : Rep B σ H Hi as s) {n j : Nat} {a : Addr} {c : Ce} (hn : n ≤ j) (ha : as[j]? = some a) (hc : s.ce[j]? = some c) : Rep B [] H Hi (as.take n ++ [a]) ⟨[], cutC n s.ce ++ [kl c]⟩ := by
  have hj := lt_of_get ha
  have hla : (as.take n).length = n := by rw [List.length_take]; omega
  have hlc : (cutC n s.ce).length = n := by have := r.lea; rw [cutC_len]; omega
  have look : ∀ i b x, (as.take n ++ [a])[i]? = some b → (cutC n s.ce ++ [kl c])[i]? = some x → ∃ k x0, as[k]? = some b ∧ s.ce[k]? = some x0 ∧ x = kl x0 ∧ (i < n → k = i) ∧ (¬ i < n → k = j ∧ i = n) := fun i b x e1 e2 => by
    by_cases hi : i < n
    · rw [List.getElem?_append_left (by omega), List.getElem?_take, if_pos hi] at e1
      rw [List.getElem?_append_left (by omega)] at e2
      obtain ⟨_, c0, q, rfl⟩ := cutC_get e2
      exact ⟨i, c0, e1, q, rfl, fun _ => rfl, fun z => absurd hi z⟩
    · rw [List.getElem?_append_right (by omega), hla] at e1
      rw [List.getElem?_append_right (by omega), hlc] at e2
      have hz : i - n = 0 := by
        cases hh : i - n with
        | zero => rfl
        | succ m => rw [hh] at e1; simp at e1
      rw [hz] at e1 e2
      simp at e1 e2
      subst e1 e2
      exact ⟨j, c, ha, hc, rfl, fun z => absurd z hi, fun _ => ⟨rfl, by omega⟩⟩
  refine ⟨r.sub, r.lkd, r.fr, r.hin, fun i b x e1 e2 al => ?_, rfl, fun i x h => by simp at h, by simp [hla, hlc], fun i b x e1 e2 => ?_, fun i k b x y e1 e2 e3 e4 a1 a2 => ?_⟩
  · obtain ⟨m, x0, q1, q2, rfl, _⟩ := look i b x e1 e2
    exact r.new m b x0 q1 q2 (kl_alive al)
  · obtain ⟨m, x0, q1, q2, rfl, _⟩ := look i b x e1 e2
    exact (r.cel m b x0 q1 q2).kl
  · obtain ⟨m, x0, q1, q2, rfl, z1, z2⟩ := look i b x e1 e3
    obtain ⟨m', y0, q3, q4, rfl, z3, z4⟩ := look k b y e2 e4
    have hm := r.inj m m' b x0 y0 q1 q3 q2 q4 (kl_alive a1) (kl_alive a2)
    by_cases h1 : i < n
    · by_cases h2 : k < n
      · rw [z1 h1, z3 h2] at hm; exact hm
      · rw [z1 h1, (z4 h2).1] at hm; omega
    · by_cases h2 : k < n
      · rw [(z2 h1).1, z3 h2] at hm; omega
      · rw [(z2 h1).2, (z4 h2).2]
/-- a tuple's cell at the end -/
theorem Rep.pushT {mg : Str → Option Value} {B : Bd mg} {σ : St} {H Hi : Hp} {as : List Addr} {s : S} (r : Rep B σ H Hi as s) {a : Addr} {vs : List V} {xs : List Vl} (ha : Hi a = some (.tup vs)) (hv : Paired (RelVl Hi as) vs xs) : Rep B σ H Hi (as ++ [a]) ⟨s.sl, s.ce ++ [.t xs]⟩ := by
  have lb := r.lea
  have look : ∀ (j : Nat) (b : Addr) (c : Ce), (as ++ [a])[j]? = some b → (s.ce ++ [Ce.t xs])[j]? = some c → (as[j]? = some b ∧ s.ce[j]? = some c) ∨ (b = a ∧ c = Ce.t xs) := fun j b c e1 e2 => by
    by_cases hj : j < as.length
    · rw [List.getElem?_append_left hj] at e1
      rw [List.getElem?_append_left (by omega)] at e2
      exact .inl ⟨e1, e2⟩
    · rw [List.getElem?_append_right (by omega)] at e1
      rw [List.getElem?_append_right (by omega), ← lb] at e2
      have hz : j - as.length = 0 := by
        cases hh : j - as.length with
        | zero => rfl
        | succ n => rw [hh] at e1; simp at e1
      rw [hz] at e1 e2
      simp at e1 e2
      exact .inr ⟨e1.symm, e2.symm⟩
  refine ⟨r.sub, r.lkd, r.fr, r.hin, fun j b c e1 e2 al => ?_, r.len, fun i x h => ?_, by simp [lb], fun j b c e1 e2 => ?_, fun i j b c c' e1 e2 e3 e4 a1 a2 => ?_⟩
  · rcases look j b c e1 e2 with ⟨q1, q2⟩ | ⟨_, rfl⟩
    · exact r.new j b c q1 q2 al
    · cases al
  · obtain ⟨v, q1, q2⟩ := r.slo i x h
    exact ⟨v, q1, q2.mono (Same.refl _) (List.prefix_append _ _)⟩
  · rcases look j b c e1 e2 with ⟨q1, q2⟩ | ⟨rfl, rfl⟩
    · exact (r.cel j b c q1 q2).mono (Same.refl _) (List.prefix_append _ _) (fun _ => rfl) fun _ => rfl
    · exact ⟨vs, ha, paired_mono (fun _ _ q => q.mono (Same.refl _) (List.prefix_append _ _)) hv⟩
  · rcases look i b c e1 e3 with ⟨q1, q3⟩ | ⟨_, rfl⟩
    · rcases look j b c' e2 e4 with ⟨q2, q4⟩ | ⟨_, rfl⟩
      · exact r.inj i j b c c' q1 q2 q3 q4 a1 a2
      · cases a2
    · cases a1
/-- a def's body keeps the promise -/
theorem fn_end {mg : Str → Option Value} {N : List Str} {ar : Nat} {t : TS} {body : M Fl} {vs : List V} {H : Hp} {Q : VK} {E : XK} (hs : SS mg (fun cls d _ H => E cls d H) t body) (h : FSp mg (mkF ar N.length body) vs H Q E) :
    t { nx := fun _ H' => Q .non H', rt := Q } (L2.start N vs) H := by
  have hl := fsp_len h
  obtain ⟨Hi, as, xs, cs, lk, r, w⟩ := h
  have hx : xs.length = ar := by have := r.len; simp at this; omega
  unfold mkF at w
  rw [if_pos hx] at w
  have r0 := r.names (N.length - ar)
  have es : L2.start N vs = vs.map some ++ List.replicate (N.length - ar) none := by unfold L2.start; rw [hl]
  rw [es]
  refine hs _ _ H Hi as _ _ r0 ?_
  have hlen : as.length = cs.length := r.lea
  show wpR (body ⟨xs.map some ++ List.replicate (N.length - ar) none, cs⟩) _ _
  have tk : ∀ {σ' : St} {H' Hi' : Hp} {as' : List Addr} {s' : S}, Rep (mg := mg) ⟨H, Hi, aliveA as cs, lk, []⟩ σ' H' Hi' as' s' → as <+: as' → Rep (mg := mg) ⟨H, Hi, aliveA as cs, lk, []⟩ [] H' Hi' as ⟨[], cutC cs.length s'.ce⟩ := fun {σ' H' Hi' as' s'} r' p => by
    have q := r'.takeC (n := cs.length) (by rw [← hlen]; exact p.length_le)
    have e : as'.take cs.length = as := by
      obtain ⟨t, rfl⟩ := p
      rw [← hlen]
      simp
    rw [e] at q
    exact q
  cases eb : body ⟨xs.map some ++ List.replicate (N.length - ar) none, cs⟩ with
  | no => rw [eb] at w; exact w
  | ex e s' =>
    rw [eb] at w
    intro σ' H' Hi' as' r' e' p' cls d hx
    exact w cls d H' Hi' as (tk r' p') e' (List.prefix_refl _) hx
  | ok fl s' =>
    rw [eb] at w
    intro σ' H' Hi' as' r' e' p'
    cases fl with
    | bk => exact w.elim
    | ct => exact w.elim
    | nx => exact w .non H' Hi' as (tk r' p') e' (List.prefix_refl _) (.d .non)
    | rt v =>
      intro u hu
      simp only [endF] at w
      cases hu with
      | d q => exact w u H' Hi' as (tk r' p') e' (List.prefix_refl _) (.d q)
      | @c a j q =>
        simp only at w
        split at w
        · rename_i hj
          refine w _ H' Hi' as (tk r' p') e' (List.prefix_refl _) (.c ?_)
          obtain ⟨t, rfl⟩ := p'
          rw [List.getElem?_append_left (by omega)] at q
          exact q
        · rename_i hj
          have ep : as'.take cs.length = as := by
            obtain ⟨t, rfl⟩ := p'
            rw [← hlen]
            simp
          cases hc : s'.ce[j]? with
          | none => rw [hc] at w; exact w.elim
          | some c =>
            rw [hc] at w
            cases c with
            | l ys =>
              have rr := r'.takeB (n := cs.length) (Nat.le_of_not_lt hj) q hc
              rw [ep] at rr
              refine w _ H' Hi' _ rr e' (List.prefix_append _ _) (.c ?_)
              rw [← hlen, List.getElem?_append_right (Nat.le_refl _), Nat.sub_self]
              rfl
            | f ys =>
              obtain ⟨ws, z1, z2⟩ := r'.cel j a _ q hc
              exact w _ H' Hi' as (tk r' p') e' (List.prefix_refl _) (.d (.lst z1 z2))
            | m ys =>
              have rr := r'.takeB (n := cs.length) (Nat.le_of_not_lt hj) q hc
              rw [ep] at rr
              refine w _ H' Hi' _ rr e' (List.prefix_append _ _) (.c ?_)
              rw [← hlen, List.getElem?_append_right (Nat.le_refl _), Nat.sub_self]
              rfl
            | g => exact w.elim
            | x e1 => exact w.elim
            | tb _ _ => exact w.elim
            | fn _ _ _ _ _ => exact w.elim
            | y _ => exact w.elim
            | yf _ => exact w.elim
            | o _ _ => exact w.elim
            | fv _ _ _ _ _ => exact w.elim
            | th _ => exact w.elim
            | tl _ => exact w.elim
            | v _ => exact w.elim
            | w _ => exact w.elim
            | t ys =>
              obtain ⟨ws, z1, z2⟩ := r'.cel j a _ q hc
              simp only at w
              unfold endT at w
              split at w
              · rename_i x k
                cases z2 with
                | cons y1 y2 =>
                cases y2 with
                | cons y3 y4 =>
                cases y4
                cases y1 with
                | d y1 =>
                cases y3 with
                | @c b _ y3 =>
                split at w
                · exact w.elim
                · rename_i hk
                  cases hck : s'.ce[k]? with
                  | none => rw [hck] at w; exact w.elim
                  | some ck =>
                    rw [hck] at w
                    cases ck with
                    | l us =>
                      have rr := r'.takeB (n := cs.length) (Nat.le_of_not_lt hk) y3 hck
                      rw [ep] at rr
                      have rr2 := rr.pushT z1 (xs := [.d x, .c cs.length]) (.cons (.d y1) (.cons (.c (by
                        rw [← hlen, List.getElem?_append_right (Nat.le_refl _), Nat.sub_self]
                        rfl)) .nil))
                      rw [List.append_assoc, List.append_assoc] at rr2
                      refine w _ H' Hi' _ rr2 e' (List.prefix_append _ _) (.c ?_)
                      rw [← hlen, List.getElem?_append_right (by omega)]
                      simp
                    | _ => exact w.elim
              · rename_i k x
                cases z2 with
                | cons y1 y2 =>
                cases y2 with
                | cons y3 y4 =>
                cases y4
                cases y3 with
                | d y5 =>
                cases y1 with
                | @c b _ y6 =>
                split at w
                · exact w.elim
                · rename_i hk
                  cases hck : s'.ce[k]? with
                  | none => rw [hck] at w; exact w.elim
                  | some ck =>
                    rw [hck] at w
                    cases ck with
                    | l us =>
                      have rr := r'.takeB (n := cs.length) (Nat.le_of_not_lt hk) y6 hck
                      rw [ep] at rr
                      have rr2 := rr.pushT z1 (xs := [.c cs.length, .d x]) (.cons (.c (by
                        rw [← hlen, List.getElem?_append_right (Nat.le_refl _), Nat.sub_self]
                        rfl)) (.cons (.d y5) .nil))
                      rw [List.append_assoc, List.append_assoc] at rr2
                      refine w _ H' Hi' _ rr2 e' (List.prefix_append _ _) (.c ?_)
                      rw [← hlen, List.getElem?_append_right (by omega)]
                      simp
                    | _ => exact w.elim
              · exact w.elim

/-! ### calls of defs -/
def cellsOf (xs : List Vl) : List Nat := xs.filterMap fun x => match x with
  | .c j => some j
  | .d _ => none
def renum (js : List Nat) : Vl → Vl
  | .d x => .d x
  | .c j => .c (js.idxOf j)
def putB : List Ce → List Nat → List Ce → List Ce
  | ce, j :: js, c :: cs => putB (ce.set j c) js cs
  | ce, _, _ => ce
def Ce.lone : Ce → Bool
  | .l _ => true
  | .m _ => true
  | .tb _ _ => true
  | _ => false
theorem lone_alive {c : Ce} (h : c.lone = true) : c.alive = true := by cases c <;> first | rfl | cases h
theorem lone_kl {c : Ce} (h : c.lone = true) : kl c = c := by cases c <;> first | rfl | cases h
def picks (ce : List Ce) : List Nat → Option (List Ce)
  | [] => some []
  | j :: js => match ce[j]?, picks ce js with
    | some c, some cs => if c.lone = true then some (c :: cs) else none
    | _, _ => none
/-- a tuple with a new list behind a datum is handed back -/
def callT (s : S) (js : List Nat) (n : Nat) (cs' : List Ce) : R Vl := match cs'[n + 1]?, cs'[n]? with
  | some (.t [.d x, .c k]), some (.l ys) => if k = n then .ok (.c (s.ce.length + 1)) { s with ce := putB s.ce js (cs'.map kl) ++ [.l ys, .t [.d x, .c s.ce.length]] } else .no
  | some (.t [.c k, .d x]), some (.l ys) => if k = n then .ok (.c (s.ce.length + 1)) { s with ce := putB s.ce js (cs'.map kl) ++ [.l ys, .t [.c s.ce.length, .d x]] } else .no
  | _, _ => .no
def callD (g : FD) (xs : List Vl) : M Vl := fun s => if (cellsOf xs).Nodup then (match picks s.ce (cellsOf xs) with
  | none => .no
  | some cs => match g (xs.map (renum (cellsOf xs))) cs with
    | .no => .no
    | .ex e cs' => .ex e { s with ce := putB s.ce (cellsOf xs) (cs'.map kl) }
    | .ok (.d x) cs' => .ok (.d x) { s with ce := putB s.ce (cellsOf xs) (cs'.map kl) }
    | .ok (.c k) cs' => if k = cs.length then (match cs'[k]? with
        | some (.l ys) => .ok (.c s.ce.length) { s with ce := putB s.ce (cellsOf xs) (cs'.map kl) ++ [.l ys] }
        | some (.m ys) => .ok (.c s.ce.length) { s with ce := putB s.ce (cellsOf xs) (cs'.map kl) ++ [.m ys] }
        | _ => .no) else if k = cs.length + 1 then callT s (cellsOf xs) cs.length cs' else .no) else .no
def fDef (g : FD) (f : M (List Vl)) : M Vl := bnd f (callD g)
end DL

end DLsec_7

section DLsec_8
set_option maxRecDepth 100000
namespace DL
open PySem PySem.Spec PyProof.Rows L2

theorem Rep.back {mg : Str → Option Value} {B : Bd mg} {σ σ' : St} {H Hi H' Hi' : Hp} {as as' : List Addr} {s s' : S} (r : Rep B σ H Hi as s) {A : List Addr} (own : ∀ a ∈ A, a ∈ B.A0 ∨ B.H0 a = none) (r' : Rep (mg := mg) ⟨H, Hi, A, B.lk0 ++ B.lk1, []⟩ σ' H' Hi' as' s') : Rep B σ' H' Hi' as' s' := by
  refine ⟨fun b o e => ?_, fun b hb => r'.lkd b ?_, fun b o e n => ?_, fun b o e => ?_, fun j a c e1 e2 al => ?_, r'.len, r'.slo, r'.lea, r'.cel, r'.inj⟩
  · have q : HL (B.lk0 ++ B.lk1 ++ []) H' b o := r'.sub b o e
    rw [List.append_nil] at q
    exact q
  · show b ∈ B.lk0 ++ B.lk1 ++ []
    rw [List.append_nil]
    exact hb
  · have h1 := r.fr b o e n
    have keep : ∀ u, H b = some u → H' b = some u := fun u hu => by
      have hn : b ∉ A := fun z => by
        rcases own b z with q | q
        · exact n q
        · rw [q] at e; cases e
      have q : HL [] H' b u := r'.fr b u hu hn
      unfold HL at q
      rw [if_neg (by simp)] at q
      exact q
    unfold HL at h1 ⊢
    split
    · rename_i hb
      rw [if_pos hb] at h1
      obtain ⟨ob, q⟩ := h1
      exact ⟨ob, keep _ q⟩
    · rename_i hb
      rw [if_neg hb] at h1
      exact keep _ h1
  · rcases r'.hin b o e with q | q | q | q
    · exact r.hin b o q
    · exact .inr (or3 (r.fresh0 q))
    · exact .inr (or3 (own b q).symm)
    · exact .inr (.inr (.inr q))
  · rcases r'.new j a c e1 e2 al with q | q
    · exact own a q
    · exact (r.fresh0 q).symm
theorem putB_length : ∀ {js : List Nat} {ce cs : List Ce}, (putB ce js cs).length = ce.length
  | [], ce, cs => by simp [putB]
  | j :: js, ce, [] => by simp [putB]
  | j :: js, ce, c :: cs => by unfold putB; rw [putB_length, List.length_set]
theorem putB_out : ∀ {js : List Nat} {ce cs : List Ce} {j : Nat}, j ∉ js → (putB ce js cs)[j]? = ce[j]?
  | [], ce, cs, j, h => by simp [putB]
  | i :: js, ce, [], j, h => by simp [putB]
  | i :: js, ce, c :: cs, j, h => by
    simp only [List.mem_cons, not_or] at h
    unfold putB
    rw [putB_out h.2, List.getElem?_set_ne (Ne.symm h.1)]
theorem putB_in : ∀ {js : List Nat} {ce cs : List Ce} {k j : Nat}, js.Nodup → js[k]? = some j → j < ce.length → k < cs.length → (putB ce js cs)[j]? = cs[k]?
  | [], ce, cs, k, j, n, h, l, l2 => by simp at h
  | i :: js, ce, [], k, j, n, h, l, l2 => by simp at l2
  | i :: js, ce, c :: cs, 0, j, n, h, l, l2 => by
    simp at h
    subst h
    unfold putB
    rw [putB_out (List.nodup_cons.mp n).1, List.getElem?_set_self l]
    rfl
  | i :: js, ce, c :: cs, k + 1, j, n, h, l, l2 => by
    unfold putB
    rw [putB_in (List.nodup_cons.mp n).2 (by simpa using h) (by rw [List.length_set]; exact l) (by simpa using l2)]
    simp
theorem picks_ok : ∀ {js : List Nat} {ce cs : List Ce}, picks ce js = some cs → cs.length = js.length ∧ ∀ (k j : Nat), js[k]? = some j → ∃ c, ce[j]? = some c ∧ cs[k]? = some c ∧ c.lone = true
  | [], ce, cs, h => by cases h; exact ⟨rfl, fun k j e => by simp at e⟩
  | i :: js, ce, cs, h => by
    unfold picks at h
    cases h1 : ce[i]? with
    | none => rw [h1] at h; cases h
    | some c =>
      cases h2 : picks ce js with
      | none => rw [h1, h2] at h; cases h
      | some cs' =>
        rw [h1, h2] at h
        simp only at h
        split at h
        · rename_i al
          cases h
          obtain ⟨l, f⟩ := picks_ok h2
          refine ⟨by simp [l], fun k j e => ?_⟩
          cases k with
          | zero => simp at e; subst e; exact ⟨c, h1, rfl, al⟩
          | succ k => simpa using f k j (by simpa using e)
        · cases h
theorem mem_cellsOf {xs : List Vl} {j : Nat} : j ∈ cellsOf xs ↔ Vl.c j ∈ xs := by
  unfold cellsOf
  rw [List.mem_filterMap]
  constructor
  · rintro ⟨x, h1, h2⟩
    cases x with
    | d x => cases h2
    | c i => cases h2; exact h1
  · intro h
    exact ⟨.c j, h, rfl⟩
theorem paired_get {α β : Type} {F : α → β → Prop} : ∀ {l : List α} {m : List β} {i : Nat} {y : β}, Paired F l m → m[i]? = some y → ∃ x, l[i]? = some x ∧ F x y
  | _, _, _, _, .nil, h => by simp at h
  | _, _, 0, _, .cons a _, h => by simp at h; subst h; exact ⟨_, rfl, a⟩
  | _, _, i + 1, y, .cons _ r, h => by
    obtain ⟨x, a, b⟩ := paired_get (i := i) (y := y) r (by simpa using h)
    exact ⟨x, by simpa using a, b⟩
theorem nodup_inj {α : Type} : ∀ {l : List α} {i k : Nat} {x : α}, l.Nodup → l[i]? = some x → l[k]? = some x → i = k
  | [], i, k, x, n, h1, h2 => by simp at h1
  | y :: l, 0, 0, x, n, h1, h2 => rfl
  | y :: l, 0, k + 1, x, n, h1, h2 => by
    simp at h1 h2
    subst h1
    exact absurd (List.mem_of_getElem? h2) (List.nodup_cons.mp n).1
  | y :: l, i + 1, 0, x, n, h1, h2 => by
    simp at h1 h2
    subst h2
    exact absurd (List.mem_of_getElem? h1) (List.nodup_cons.mp n).1
  | y :: l, i + 1, k + 1, x, n, h1, h2 => by
    simp only [List.getElem?_cons_succ] at h1 h2
    rw [nodup_inj (List.nodup_cons.mp n).2 h1 h2]
def pickA (as : List Addr) (js : List Nat) : List Addr := js.map fun j => (as[j]?).getD 0
section
variable {mg : Str → Option Value} {W : WX} {B : Bd mg} {σ : St} {H Hi : Hp} {as : List Addr} {s : S}
/-- the callee's view of the cells that are handed over -/
theorem Rep.hand (r : Rep B σ H Hi as s) {vs : List V} {xs : List Vl} (hv : RelVls Hi as vs xs) (nd : (cellsOf xs).Nodup) {cs : List Ce} (hc : picks s.ce (cellsOf xs) = some cs) :
    Rep (mg := mg) ⟨H, Hi, aliveA (pickA as (cellsOf xs)) cs, B.lk0 ++ B.lk1, []⟩ (vs.map some) H Hi (pickA as (cellsOf xs)) ⟨(xs.map (renum (cellsOf xs))).map some, cs⟩ := by
  obtain ⟨hl, hp⟩ := picks_ok hc
  have at_ : ∀ (k : Nat) (a : Addr) (c : Ce), (pickA as (cellsOf xs))[k]? = some a → cs[k]? = some c → ∃ j, (cellsOf xs)[k]? = some j ∧ as[j]? = some a ∧ s.ce[j]? = some c := fun k a c e1 e2 => by
    unfold pickA at e1
    rw [List.getElem?_map] at e1
    cases hj : (cellsOf xs)[k]? with
    | none => rw [hj] at e1; cases e1
    | some j =>
      rw [hj] at e1
      obtain ⟨c', q1, q2, q3⟩ := hp k j hj
      rw [e2] at q2
      cases q2
      have hlt : j < as.length := by rw [r.lea]; exact lt_of_get q1
      refine ⟨j, rfl, ?_, q1⟩
      simp only [Option.map_some] at e1
      rw [List.getElem?_eq_getElem hlt] at e1 ⊢
      exact e1
  refine ⟨fun b o e => ?_, fun b hb => r.lkd b ?_, fun b o e n => ?_, fun b o e => .inl e, fun j a c e1 e2 al => .inl (mem_aliveA.mpr ⟨j, c, e1, e2, al⟩), ?_, fun i x h => ?_, ?_, fun k a c e1 e2 => ?_, fun i k a c c' e1 e2 e3 e4 a1 a2 => ?_⟩
  · show HL (B.lk0 ++ B.lk1 ++ []) H b o
    rw [List.append_nil]
    exact r.sub b o e
  · have hb' : b ∈ B.lk0 ++ B.lk1 ++ [] := hb
    rw [List.append_nil] at hb'
    exact hb'
  · show HL [] H b o
    unfold HL
    rw [if_neg (by simp)]
    exact e
  · simp [Paired.length hv]
  · have h' : ((xs.map (renum (cellsOf xs))).map some)[i]? = some (some x) := h
    rw [List.getElem?_map, List.getElem?_map] at h'
    cases hx : xs[i]? with
    | none => rw [hx] at h'; cases h'
    | some y =>
      rw [hx] at h'
      simp at h'
      subst h'
      obtain ⟨v, q1, q2⟩ := paired_get hv hx
      refine ⟨v, by rw [List.getElem?_map, q1]; rfl, ?_⟩
      cases q2 with
      | d q => exact .d q
      | @c a j q =>
        have hm : j ∈ cellsOf xs := mem_cellsOf.mpr (List.mem_of_getElem? hx)
        refine .c ?_
        have hlt := List.idxOf_lt_length_of_mem hm
        unfold pickA
        rw [List.getElem?_map, List.getElem?_eq_getElem hlt, List.getElem_idxOf]
        simp [q]
  · unfold pickA
    simp [hl]
  · obtain ⟨j, q1, q2, q3⟩ := at_ k a c e1 e2
    obtain ⟨c', k1, k2, k3⟩ := hp k j q1
    rw [q3] at k1
    cases k1
    have := (r.cel j a c q2 q3).kl (as' := pickA as (cellsOf xs))
    rw [lone_kl k3] at this
    exact this
  · obtain ⟨j, q1, q2, q3⟩ := at_ i a c e1 e3
    obtain ⟨j', q1', q2', q3'⟩ := at_ k a c' e2 e4
    have := r.inj j j' a c c' q2 q2' q3 q3' a1 a2
    subst this
    exact nodup_inj nd q1 q1'
theorem Rep.takeBack (r : Rep B σ H Hi as s) {xs : List Vl} (nd : (cellsOf xs).Nodup) {cs : List Ce} (hc : picks s.ce (cellsOf xs) = some cs) {H' Hi' : Hp} {as' : List Addr} {cs' : List Ce}
    (r' : Rep (mg := mg) ⟨H, Hi, aliveA (pickA as (cellsOf xs)) cs, B.lk0 ++ B.lk1, []⟩ [] H' Hi' as' ⟨[], cs'⟩) (e : Same Hi Hi') (p : pickA as (cellsOf xs) <+: as') :
    Rep B σ H' Hi' as { s with ce := putB s.ce (cellsOf xs) (cs'.map kl) } ∧ ∀ k cc a, k = cs.length → cs'[k]? = some cc → cc.lone = true → as'[k]? = some a → Rep B σ H' Hi' (as ++ [a]) { s with ce := putB s.ce (cellsOf xs) (cs'.map kl) ++ [cc] } := by
  obtain ⟨hl, hp⟩ := picks_ok hc
  have hlp : (pickA as (cellsOf xs)).length = cs.length := by unfold pickA; simp [hl]
  have hlc : cs.length ≤ cs'.length := by
    have h1 : as'.length = cs'.length := r'.lea
    have h2 := p.length_le
    omega
  -- an address that the callee may change
  have inA : ∀ {a : Addr}, a ∈ aliveA (pickA as (cellsOf xs)) cs → ∃ j c, j ∈ cellsOf xs ∧ as[j]? = some a ∧ s.ce[j]? = some c ∧ c.alive = true := fun {a} h => by
    obtain ⟨k, c, h1, h2, h3⟩ := mem_aliveA.mp h
    unfold pickA at h1
    rw [List.getElem?_map] at h1
    cases hj : (cellsOf xs)[k]? with
    | none => rw [hj] at h1; cases h1
    | some j =>
      rw [hj] at h1
      obtain ⟨c', q1, q2, q3⟩ := hp k j hj
      have hlt : j < as.length := by rw [r.lea]; exact lt_of_get q1
      refine ⟨j, c', List.mem_of_getElem? hj, ?_, q1, lone_alive q3⟩
      simp only [Option.map_some] at h1
      rw [List.getElem?_eq_getElem hlt] at h1 ⊢
      exact h1
  have rB := r.back (fun a h => by
    obtain ⟨j, c, _, h1, h2, h3⟩ := inA h
    exact r.new j a c h1 h2 h3) r'
  -- a cell of the caller behind the call
  have cell : ∀ (j : Nat) (a : Addr) (c : Ce), as[j]? = some a → (putB s.ce (cellsOf xs) (cs'.map kl))[j]? = some c →
      (∃ k, k < cs.length ∧ (cellsOf xs)[k]? = some j ∧ as'[k]? = some a ∧ ∃ c0, cs'[k]? = some c0 ∧ c = kl c0) ∨ (j ∉ cellsOf xs ∧ s.ce[j]? = some c) := fun j a c e1 e2 => by
    by_cases hj : j ∈ cellsOf xs
    · left
      obtain ⟨k, hk⟩ := List.getElem?_of_mem hj
      have hkl : k < cs.length := by rw [hl]; exact lt_of_get hk
      rw [putB_in nd hk (by rw [← r.lea]; exact lt_of_get e1) (by rw [List.length_map]; omega), List.getElem?_map] at e2
      have e2' : ∃ c0, cs'[k]? = some c0 ∧ c = kl c0 := by
        cases z : cs'[k]? with
        | none => rw [z] at e2; cases e2
        | some c0 => rw [z] at e2; cases e2; exact ⟨c0, rfl, rfl⟩
      refine ⟨k, hkl, hk, ?_, e2'⟩
      obtain ⟨t, rfl⟩ := p
      rw [List.getElem?_append_left (by omega)]
      unfold pickA
      rw [List.getElem?_map, hk]
      simp [e1]
    · right
      rw [putB_out hj] at e2
      exact ⟨hj, e2⟩
  have oldAlive : ∀ (j : Nat) (a : Addr) (c : Ce), as[j]? = some a → (putB s.ce (cellsOf xs) (cs'.map kl))[j]? = some c → c.alive = true → ∃ c0, s.ce[j]? = some c0 ∧ c0.alive = true := fun j a c e1 e2 al => by
    rcases cell j a c e1 e2 with ⟨k, _, h2, _, _⟩ | ⟨h1, h2⟩
    · obtain ⟨c0, q1, q2, q3⟩ := hp k j h2
      exact ⟨c0, q1, lone_alive q3⟩
    · exact ⟨c, h2, al⟩
  have out : ∀ (j : Nat) (a : Addr) (c : Ce), j ∉ cellsOf xs → as[j]? = some a → s.ce[j]? = some c → c.alive = true → a ∉ aliveA (pickA as (cellsOf xs)) cs := fun j a c hj e1 e2 al h => by
    obtain ⟨i, c', h0, h1, h2, h3⟩ := inA h
    have := r.inj j i a c c' e1 h1 e2 h2 al h3
    subst this
    exact hj h0
  have base : Rep B σ H' Hi' as { s with ce := putB s.ce (cellsOf xs) (cs'.map kl) } := by
    refine ⟨rB.sub, rB.lkd, rB.fr, rB.hin, fun j a c e1 e2 al => ?_, r.len, fun i x h => ?_, ?_, fun j a c e1 e2 => ?_, fun i j a c c' e1 e2 e3 e4 a1 a2 => ?_⟩
    · obtain ⟨c0, q1, q2⟩ := oldAlive j a c e1 e2 al
      exact r.new j a c0 e1 q1 q2
    · obtain ⟨v, q1, q2⟩ := r.slo i x h
      exact ⟨v, q1, q2.mono e (List.prefix_refl _)⟩
    · show as.length = (putB s.ce (cellsOf xs) (cs'.map kl)).length
      rw [putB_length]
      exact r.lea
    · rcases cell j a c e1 e2 with ⟨k, _, _, h3, c0, h4, rfl⟩ | ⟨h1, h2⟩
      · exact (rB.cel k a c0 h3 h4).kl
      · have rc := r.cel j a c e1 h2
        refine rc.mono e (List.prefix_refl _) (fun al => ?_) fun al => ?_
        · rw [rc.hi_none al]
          cases z : Hi' a with
          | none => rfl
          | some o =>
            exfalso
            rcases r'.hin a o z with q | q | q | q
            · have q' : Hi a = some o := q
              rw [rc.hi_none al] at q'; cases q'
            · exact rc.ne_new al q rfl
            · exact out j a c h1 e1 h2 al q
            · obtain ⟨vs', rfl⟩ := q
              have h' := r'.tup z
              have hn := out j a c h1 e1 h2 al
              cases z2 : H a with
              | none => exact absurd rfl (rc.ne_new al z2)
              | some u =>
                have q : HL [] H' a u := r'.fr a u z2 hn
                unfold HL at q
                rw [if_neg (by simp), h'] at q
                cases q
                exact rc.no_tup al z2
        · have hn := out j a c h1 e1 h2 al
          cases z : H a with
          | none => exact absurd rfl (rc.ne_new al z)
          | some u =>
            have q : HL [] H' a u := r'.fr a u z hn
            unfold HL at q
            rw [if_neg (by simp)] at q
            exact q
    · obtain ⟨c0, q1, q2⟩ := oldAlive i a c e1 e3 a1
      obtain ⟨c1, q3, q4⟩ := oldAlive j a c' e2 e4 a2
      exact r.inj i j a c0 c1 e1 e2 q1 q3 q2 q4
  refine ⟨base, fun k cc a hk hy hln ha => ?_⟩
  have lb : as.length = (putB s.ce (cellsOf xs) (cs'.map kl)).length := base.lea
  have look : ∀ j b c, (as ++ [a])[j]? = some b → (putB s.ce (cellsOf xs) (cs'.map kl) ++ [cc])[j]? = some c → (as[j]? = some b ∧ (putB s.ce (cellsOf xs) (cs'.map kl))[j]? = some c) ∨ (j = as.length ∧ b = a ∧ c = cc) := fun j b c e1 e2 => by
    by_cases hj : j < as.length
    · rw [List.getElem?_append_left hj] at e1
      rw [List.getElem?_append_left (by omega)] at e2
      exact .inl ⟨e1, e2⟩
    · rw [List.getElem?_append_right (by omega)] at e1
      rw [List.getElem?_append_right (by omega), ← lb] at e2
      have hz : j - as.length = 0 := by
        cases hh : j - as.length with
        | zero => rfl
        | succ n => rw [hh] at e1; simp at e1
      rw [hz] at e1 e2
      simp at e1 e2
      exact .inr ⟨by omega, e1.symm, e2.symm⟩
  have other : ∀ (j : Nat) (c : Ce), as[j]? = some a → (putB s.ce (cellsOf xs) (cs'.map kl))[j]? = some c → c.alive = true → False := fun j c e1 e2 al => by
    rcases cell j a c e1 e2 with ⟨m, h1, h2, h3, c0, h4, rfl⟩ | ⟨h1, h2⟩
    · have := r'.inj m k a c0 cc h3 ha h4 hy (kl_alive al) (lone_alive hln)
      omega
    · rcases r'.new k a _ ha hy (lone_alive hln) with q | q
      · exact out j a c h1 e1 h2 al q
      · exact (r.cel j a c e1 h2).ne_new al q rfl
  refine ⟨base.sub, base.lkd, base.fr, base.hin, fun j b c e1 e2 al => ?_, base.len, fun i x h => ?_, ?_, fun j b c e1 e2 => ?_, fun i j b c c' e1 e2 e3 e4 a1 a2 => ?_⟩
  · rcases look j b c e1 e2 with ⟨q1, q2⟩ | ⟨_, rfl, rfl⟩
    · exact base.new j b c q1 q2 al
    · exact rB.new k b _ ha hy (lone_alive hln)
  · obtain ⟨v, q1, q2⟩ := base.slo i x h
    exact ⟨v, q1, q2.mono (Same.refl _) (List.prefix_append _ _)⟩
  · simp [lb]
  · rcases look j b c e1 e2 with ⟨q1, q2⟩ | ⟨_, rfl, rfl⟩
    · exact (base.cel j b c q1 q2).mono (Same.refl _) (List.prefix_append _ _) (fun _ => rfl) fun _ => rfl
    · have := (rB.cel k b _ ha hy).kl (as' := as ++ [b])
      rw [lone_kl hln] at this
      exact this
  · rcases look i b c e1 e3 with ⟨q1, q3⟩ | ⟨z1, rfl, rfl⟩
    · rcases look j b c' e2 e4 with ⟨q2, q4⟩ | ⟨z2, rfl, rfl⟩
      · exact base.inj i j b c c' q1 q2 q3 q4 a1 a2
      · exact (other i c q1 q3 a1).elim
    · rcases look j b c' e2 e4 with ⟨q2, q4⟩ | ⟨z2, _, rfl⟩
      · exact (other j c' q2 q4 a2).elim
      · omega
theorem call_d {g : FD} {xs : List Vl} {vs : List V} {Q : VK} (r : Rep B σ H Hi as s) (hv : RelVls Hi as vs xs) (w : wpR (callD g xs s) (fun x s' => OKs B σ Hi as s' fun H' Hi' as' => ∀ v, RelVl Hi' as' v x → Q v H') (XW mg W B σ Hi as)) :
    FSp mg g vs H Q (WE W σ) := by
  unfold callD at w
  split at w
  case isFalse => exact w.elim
  case isTrue nd =>
  cases hc : picks s.ce (cellsOf xs) with
  | none => rw [hc] at w; exact w.elim
  | some cs =>
    rw [hc] at w
    simp only at w
    refine ⟨Hi, pickA as (cellsOf xs), xs.map (renum (cellsOf xs)), cs, B.lk0 ++ B.lk1, r.hand hv nd hc, ?_⟩
    cases hg : g (xs.map (renum (cellsOf xs))) cs with
    | no => rw [hg] at w; exact w
    | ex e cs' =>
      rw [hg] at w
      intro cls d H' Hi' as' r' e' p' hx
      exact w H' Hi' as (r.takeBack nd hc r' e' p').1 e' (List.prefix_refl _) cls d hx
    | ok z cs' =>
      rw [hg] at w
      intro v H' Hi' as' r' e' p' hz
      cases hz with
      | d q => exact w H' Hi' as (r.takeBack nd hc r' e' p').1 e' (List.prefix_refl _) v (.d q)
      | @c a k q =>
        simp only at w
        split at w
        case isFalse hk0 =>
          split at w
          case isFalse => exact w.elim
          case isTrue hk1 =>
          unfold callT at w
          split at w
          · rename_i x k2 ys h1 h2
            split at w
            case isFalse => exact w.elim
            case isTrue hk2 =>
            obtain ⟨ws, z1, z2⟩ := r'.cel k a _ q (by rw [hk1]; exact h1)
            cases z2 with
            | cons y1 y2 =>
            cases y2 with
            | cons y3 y4 =>
            cases y4
            cases y1 with
            | d y1 =>
            cases y3 with
            | @c b _ y3 =>
            have rr := (r.takeBack nd hc r' e' p').2 k2 _ b hk2 (by rw [hk2]; exact h2) rfl y3
            have rr2 := rr.pushT z1 (xs := [.d x, .c s.ce.length]) (.cons (.d y1) (.cons (.c (by
              rw [← r.lea, List.getElem?_append_right (Nat.le_refl _), Nat.sub_self]
              rfl)) .nil))
            simp only [List.append_assoc] at rr2
            refine w H' Hi' _ rr2 e' (List.prefix_append _ _) _ (.c ?_)
            rw [← r.lea, List.getElem?_append_right (by omega)]
            simp
          · rename_i k2 x ys h1 h2
            split at w
            case isFalse => exact w.elim
            case isTrue hk2 =>
            obtain ⟨ws, z1, z2⟩ := r'.cel k a _ q (by rw [hk1]; exact h1)
            cases z2 with
            | cons y1 y2 =>
            cases y2 with
            | cons y3 y4 =>
            cases y4
            cases y3 with
            | d y5 =>
            cases y1 with
            | @c b _ y6 =>
            have rr := (r.takeBack nd hc r' e' p').2 k2 _ b hk2 (by rw [hk2]; exact h2) rfl y6
            have rr2 := rr.pushT z1 (xs := [.c s.ce.length, .d x]) (.cons (.c (by
              rw [← r.lea, List.getElem?_append_right (Nat.le_refl _), Nat.sub_self]
              rfl)) (.cons (.d y5) .nil))
            simp only [List.append_assoc] at rr2
            refine w H' Hi' _ rr2 e' (List.prefix_append _ _) _ (.c ?_)
            rw [← r.lea, List.getElem?_append_right (by omega)]
            simp
          · exact w.elim
        case isTrue hk =>
        cases hy : cs'[k]? with
        | none => rw [hy] at w; exact w.elim
        | some c =>
          rw [hy] at w
          cases c with
          | l ys =>
            refine w H' Hi' _ ((r.takeBack nd hc r' e' p').2 k _ a hk hy rfl q) e' (List.prefix_append _ _) _ (.c ?_)
            rw [← r.lea, List.getElem?_append_right (Nat.le_refl _), Nat.sub_self]
            rfl
          | m ys =>
            refine w H' Hi' _ ((r.takeBack nd hc r' e' p').2 k _ a hk hy rfl q) e' (List.prefix_append _ _) _ (.c ?_)
            rw [← r.lea, List.getElem?_append_right (Nat.le_refl _), Nat.sub_self]
            rfl
          | _ => exact w.elim
theorem se_def {g : FD} {t : TA} {f : M (List Vl)} (h : SA mg W t f) : SE mg W (tCallSD (FSp mg g) [] (WE W) t) (fDef g f) := fun B σ H Hi as s Q rp w => by
  refine h B σ H Hi as s _ rp (wp_mono (wp_bnd w) (fun xs s1 w1 => ?_) fun _ _ z => z)
  intro H1 Hi1 as1 r1 e1 p1 vs hv
  rw [List.append_nil]
  exact call_d r1 hv (wp_mono w1 (fun x s2 z => OKs.mono z e1 p1) fun e s2 z => XW.mono z e1 p1)
end
end DL

end DLsec_8

section DLsec_9
set_option maxRecDepth 100000
/-! defs that may ask for a repr: no repr is under way around them -/
namespace DL
open PySem PySem.Spec PyProof.Rows L2

structure FnG (P : Program) (w : World) (K : PySem.W.Frag) (mg : Str → Option Value) (base : Heap) (k : Nat) (f : Addr) (fd : FuncData) (ps : List Str) (sp : Sp) : Prop where
  len : ∀ us G Q E, sp us G Q E → us.length = ps.length
  run : ∀ (A : Around) (out : List Env) (s : Shared) (G : Hp) (args : Args) (us : List Value) (vs : List V) (Q : VK) (E : XK), Room k A → A.guards = some [] →
    Env0 P w K mg base A out s G → BindsTo s fd args (ps.zip us) → Vals vs us → sp vs G Q E → codeAny (model P w) A (.call (.ref f) args) (CR (L2.CX P w) out P w G s Q E) s
theorem FnG.mono {P : Program} {w : World} {K : PySem.W.Frag} {mg : Str → Option Value} {base : Heap} {j k : Nat} {f : Addr} {fd : FuncData} {ps : List Str} {sp : Sp} (F : FnG P w K mg base j f fd ps sp) (h : j ≤ k) : FnG P w K mg base k f fd ps sp :=
  ⟨F.len, fun A out s G args us vs Q E hr => F.run A out s G args us vs Q E (hr.mono h)⟩
theorem FnG.of {P : Program} {w : World} {K : PySem.W.Frag} {mg : Str → Option Value} {base : Heap} {k : Nat} {f : Addr} {fd : FuncData} {ps : List Str} {sp : Sp} (F : FnOk P w K mg base (L2.CX P w) k f fd ps sp) : FnG P w K mg base k f fd ps sp :=
  ⟨F.len, fun A out s G args us vs Q E hr _ => F.run A out s G args us vs Q E hr⟩
section
variable {P : Program} {w : World} {K : PySem.W.Frag} {mg : Str → Option Value} {base : Heap}
/-- a def by its body -/
theorem _root_.L2.Fun.okG {x qual : Str} {st : Stmt} {f : Addr} {fd : FuncData} {N ps : List Str} {k : Nat} {sp : Sp} (F : Fun K x qual st f fd) (S : FnScope N ps (defScope st)) (len : ∀ us G Q E, sp us G Q E → us.length = ps.length)
    (hbody : ∀ (cdv : Value) (A : Around) (out : List Env) (s : Shared) (G : Hp) (vs : List V) (Q : VK) (E : XK), Room k (A.deeper (envOfC qual (defScope st) s.heap.objs.size f cdv)) → A.guards = some [] → sp vs G Q E →
      ∃ t, PSs (cxOf (L2.CX P w) P w K mg base N qual (defScope st) f cdv A out s G E) (defBody st) t ∧ t { nx := fun _ G' => Q .non G', rt := Q } (L2.start N vs) G) : FnG P w K mg base (k + 1) f fd ps sp := by
  obtain ⟨oc, od, kV, doc, pm, an, cdv, ct, osl, rfl, lk, hcd⟩ := F.ex
  refine ⟨len, fun A out s G args us vs Q E room grd e0 bnd rel prom => ?_⟩
  have isIn : K.In s.heap := e0.mod.kin.keeps fun b o q => (e0.bs b o q).1
  have kinds : ∀ y ∈ ps.zip us, (defScope st).names.lookup y.1 = some .local ∨ ((defScope st).names.lookup y.1 = some .cell ∧
      ((cellsFrom (s.heap.objs.size + 1) (defScope st).names []).lookup y.1).isSome = true) := by
    rintro ⟨n, v⟩ hy
    exact (S.par n (List.of_mem_zip hy).1).imp id fun q => ⟨q, PySem.W.cellsFrom_some _ _ _ (.inl q)⟩
  refine codeAny_call_function room.depth (isIn _ _ lk) rfl S.co S.gen rfl
    (PySem.W.codeRec_of isIn hcd) (bnd _ _ _ _ (wpAny_newFunctionEnv_cells S.kind kinds fun env he s1 inc => ?_))
  subst he
  refine ⟨(e0.mod.nolimit.keeps fun b o q => (e0.bs b o q).1).keeps inc.toInCall.keep, codeAny_func ?_⟩
  obtain ⟨t, der, rd⟩ := hbody cdv A out s G vs Q E (room.deeper _) grd prom
  have I0 := inv_start (CX := L2.CX P w) (E := E) S room.hd e0 (len _ _ _ _ prom) rel inc
  refine wpAny_mono (der.run [] s1 _ G _ I0 rd) (fun fl s' q => ?_) fun _ _ q => q
  cases fl with
  | ret u => obtain ⟨v, _, G', J, rv, z⟩ := q; exact ⟨v, G', J.os, J.bare, J.base, J.hok, rv, z⟩
  | next => obtain ⟨_, G', J, z⟩ := q; exact ⟨.non, G', J.os, J.bare, J.base, J.hok, rfl, z⟩
  | brk => obtain ⟨_, _, _, z⟩ := q; exact z.elim
  | cont => obtain ⟨_, _, _, z⟩ := q; exact z.elim
end
section
variable {X : Cx} {k : Nat} {f : Addr} {fd : FuncData} {ps : List Str} {sp : Sp} {W : WX} {x : Str} {p pos : Pos} {e : Expr} {es : List Expr} {t : TA}
theorem run_g {pins : List (Addr × Obj)} {σ : St} {G : Hp} {s : Shared} {Q : VK} {args : Args} {us : List Value} {vs : List V} (F : FnG X.prog X.w X.K X.mg X.base k f fd ps sp) (hr : Room k X.A) (hg : X.A.guards = some []) (tk : Takes X W)
    (I : Inv X pins σ G s) (hb : BindsTo s fd args (ps.zip us)) (r : Vals vs us) (h : sp vs G Q (WE W σ)) : codeAny (model X.prog X.w) X.A (.call (.ref f) args) (fun res s' => match res with
      | .error e => X.xe e s'
      | .ok (.ret u) => EP X pins σ Q u s'
      | .ok _ => False) s := by
  refine codeAny_mono (F.run X.A X.stack s G args us vs Q (WE W σ) hr hg I.env0 hb r h) fun res s' q => ?_
  cases res with
  | error e => exact passAt tk σ pins G s e s' I q
  | ok fl => cases fl with
    | ret u => exact I.after q
    | next => exact q.elim
    | brk => exact q.elim
    | cont => exact q.elim
/-- f(e, ..) -/
theorem pe_callG (F : FnG X.prog X.w X.K X.mg X.base k f fd ps sp) (hr : Room k X.A) (hgd : X.A.guards = some []) (hg : Gl X x) (hm : X.mg x = some (.ref f)) (hk : PySem.W.keepIn X.K (.ref f) = true) (hb : Binds X.K fd ps []) (tk : Takes X W)
    (ha : PA X (e :: es) t) (hdb : (x == ("__debug__" : Str)) = false := by decide) (he : starEach (e :: es) X.env = (false, eval e X.env) :: starEach es X.env := by rfl) (hpl : (backTo pos (starEach es X.env)).any (·.1) = false := by rfl) :
    PE X (.Call (.Name x p) (e :: es) [] pos) (tCallSD sp [] (WE W) t) := by
  refine ⟨fun pins s σ G Q I h => wpAny_Call_Name_kw (ld_glob I hg hm ?_ hdb)⟩
  refine PySem.W.callWith_K (h₀ := X.base) I.ok.mod.kin hk
    (thn (ha.run pos pins s σ G _ I h) fun us s1 ⟨vs, G1, I1, r, q⟩ => ⟨I1.kIn, ?_⟩) he hpl
  have q' : sp vs G1 Q (WE W σ) := by
    have q2 : sp (vs ++ []) G1 Q (WE W σ) := q
    rw [List.append_nil] at q2
    exact q2
  have hl : (us ++ ([] : List Value)).length = ps.length := by rw [List.append_nil, ← r.length]; exact F.len _ _ _ _ q'
  have hbb := hb s1 us I1.kIn hl
  rw [List.append_nil] at hbb
  exact wpAny_call (codeAny_mono (run_g F hr hgd tk I1 hbb r q') fun res s' z => by
    cases res with
    | error e => exact z
    | ok fl => cases fl <;> first | exact z | exact z.elim)
def permL {α : Type} (is : List Nat) (zs : List α) : List α := is.filterMap fun i => zs[i]?
end
section
variable {mg : Str → Option Value} {W : WX} {B : Bd mg} {σ : St} {H Hi : Hp} {as : List Addr} {s : S}
def fPerm (is : List Nat) (f : M (List Vl)) : M (List Vl) := bnd f fun xs => ret (permL is xs)
end
end DL

end DLsec_9

section DLsec_10
set_option maxRecDepth 100000
namespace DL
open PySem PySem.Spec PyProof.Rows L2

def orA {α : Type} (o o' : OA α) : OA α := fun xs s => match o xs s with
  | some z => some z
  | none => o' xs s
theorem cas_or {r r' : RC} {o o' : OA Vl} (h : CaS r o) (h' : CaS r' o') : CaS (fun xs H Q => r xs H Q ∨ r' xs H Q) (orA o o') := fun B σ H Hi as s xs z vs Q rp hv e q => by
  unfold orA at e
  cases k : o xs s with
  | none => rw [k] at e; exact .inr (h' B σ H Hi as s xs z vs Q rp hv e q)
  | some w => rw [k] at e; cases e; exact .inl (h B σ H Hi as s xs z vs Q rp hv k q)
/-! ### len -/
def oLen : OA Vl := fun xs s => match xs with
  | [x] => match datL s x with
    | some ys => some (.d (.int ys.length))
    | none => match x with
      | .d (.tuple ys) => some (.d (.int ys.length))
      | _ => none
  | _ => none
theorem ca_len {K : PySem.W.Frag} : CaS (fun xs H Q => ∃ p ys, xs = [.ref p] ∧ (SqL K H p ys ∨ SqT K H p ys) ∧ Q (.int ys.length) H) oLen := fun B σ H Hi as s xs z vs Q rp hv e q => by
  cases hv with
  | nil => cases e
  | cons a1 a2 =>
    cases a2 with
    | cons _ _ => cases e
    | nil =>
      rename_i v x
      simp only [oLen] at e
      cases h1 : datL s x with
      | some ys =>
        rw [h1] at e
        cases e
        obtain ⟨a, ws, rfl, ha, da⟩ := rp.datL a1 h1
        exact ⟨a, ws, rfl, .inl (.inl (.inl ha)), by rw [da.length]; exact q.now rp (.d (.int _))⟩
      | none =>
        rw [h1] at e
        cases a1 with
        | c _ => cases e
        | d q' =>
          cases q' with
          | tup ha da => cases e; exact ⟨_, _, rfl, .inr (.inl (.inl (rp.tup ha))), by rw [da.length]; exact q.now rp (.d (.int _))⟩
          | _ => cases e
def oLenS : OA Vl := fun xs _ => match xs with
  | [.d (.str z)] => if z.length ≤ 1000000 then some (.d (.int z.length)) else none
  | _ => none
theorem ca_lenS : CaS (fun xs H Q => ∃ z : Str, xs = [.str z] ∧ z.length ≤ sizeLine ∧ Q (.int z.length) H) oLenS := fun B σ H Hi as s xs z vs Q rp hv e q => by
  cases hv with
  | nil => cases e
  | cons a1 a2 =>
    cases a1 with
    | c _ => cases e
    | d q' =>
      cases a2 with
      | cons _ _ => cases q' <;> cases e
      | nil =>
        cases q' <;> first | (cases e; done) | skip
        simp only [oLenS] at e
        split at e
        · rename_i hn; cases e; exact ⟨_, rfl, le_line hn, q.now rp (.d (.int _))⟩
        · cases e
/-! ### int -/
def oInt : OA Vl := fun xs _ => match xs with
  | [.d (.int i)] => some (.d (.int i))
  | [.d (.bool b)] => some (.d (.int (if b then 1 else 0)))
  | _ => none
theorem ca_int : CaS (fun xs H Q => (∃ i, xs = [.int i] ∧ Q (.int i) H) ∨ ∃ k, xs = [.bl k] ∧ Q (.int (if k then 1 else 0)) H) oInt := fun B σ H Hi as s xs z vs Q rp hv e q => by
  cases hv with
  | nil => cases e
  | cons a1 a2 =>
    cases a1 with
    | c _ => cases a2 <;> cases e
    | d q' =>
      cases a2 with
      | cons _ _ => cases q' <;> cases e
      | nil =>
        cases q' with
        | int i => cases e; exact .inl ⟨i, rfl, q.now rp (.d (.int _))⟩
        | bl b => cases e; exact .inr ⟨b, rfl, q.now rp (.d (.int _))⟩
        | _ => cases e
/-! ### list, tuple -/
def oList : OA (List D) := fun xs s => match xs with
  | [x] => match datL s x with
    | some ys => some ys
    | none => match x with
      | .d (.tuple ys) => some ys
      | _ => none
  | _ => none
def oTuple : OA Vl := fun xs s => match xs with
  | [x] => match datL s x with
    | some ys => some (.d (.tuple ys))
    | none => match x with
      | .d (.tuple ys) => some (.d (.tuple ys))
      | _ => none
  | _ => none
theorem ca_tuple {K : PySem.W.Frag} : CaS (fun xs H Q => ∃ p ys, xs = [.ref p] ∧ ((SqL K H p ys ∧ ∀ l, H l = none → Q (.ref l) (upd H l (.tup ys))) ∨ (SqT K H p ys ∧ Q (.ref p) H))) oTuple := fun B σ H Hi as s xs z vs Q rp hv e q => by
  cases hv with
  | nil => cases e
  | cons a1 a2 =>
    cases a2 with
    | cons _ _ => cases e
    | nil =>
      rename_i v x
      simp only [oTuple] at e
      cases h1 : datL s x with
      | some ys =>
        rw [h1] at e
        cases e
        obtain ⟨a, ws, rfl, ha, da⟩ := rp.datL a1 h1
        refine ⟨a, ws, rfl, .inl ⟨.inl (.inl ha), fun l hl => ?_⟩⟩
        have sm : Same Hi (upd Hi l (.tup ws)) := same_new (rp.fresh hl)
        exact q _ _ (rp.addI hl) sm _ (.d (.tup upd_same (da.mono sm)))
      | none =>
        rw [h1] at e
        cases a1 with
        | c _ => cases e
        | d q' =>
          cases q' with
          | tup ha da => cases e; exact ⟨_, _, rfl, .inr ⟨.inl (.inl (rp.tup ha)), q.now rp (.d (.tup ha da))⟩⟩
          | _ => cases e
/-! ### sorted, ints -/
def intsOf : List D → Option (List Int)
  | [] => some []
  | .int i :: xs => (intsOf xs).map (i :: ·)
  | _ => none
theorem intsOf_inv : ∀ {xs : List D} {ns : List Int}, intsOf xs = some ns → xs = ns.map PyData.int
  | [], ns, h => by cases h; rfl
  | .int i :: xs, ns, h => by
    simp only [intsOf] at h
    cases k : intsOf xs with
    | none => rw [k] at h; cases h
    | some ms => rw [k] at h; cases h; rw [intsOf_inv k]; rfl
  | .none :: xs, ns, h => by simp [intsOf] at h
  | .bool _ :: xs, ns, h => by simp [intsOf] at h
  | .str _ :: xs, ns, h => by simp [intsOf] at h
  | .list _ :: xs, ns, h => by simp [intsOf] at h
  | .tuple _ :: xs, ns, h => by simp [intsOf] at h
  | .dict _ :: xs, ns, h => by simp [intsOf] at h
def srt (ns : List Int) : List Int := ns.mergeSort fun a b => decide (a ≤ b)
def oSorted : OA (List D) := fun xs s => match xs with
  | [x] => match datL s x with
    | some ys => match intsOf ys with
      | some ns => some ((srt ns).map PyData.int)
      | none => none
    | none => none
  | _ => none
/-! ### isinstance of data -/
def tyN : D → String
  | .none => "NoneType"
  | .bool _ => "bool"
  | .int _ => "int"
  | .str _ => "str"
  | .list _ => "list"
  | .tuple _ => "tuple"
  | .dict _ => "dict"
def tyVl (s : S) : Vl → Option String
  | .d x => some (tyN x)
  | .c j => match s.ce[j]? with
    | some (.l _) => some "list"
    | some (.f _) => some "list"
    | _ => none
def fIsi (n : String) (f : M Vl) : M Vl := bnd f fun x => gets fun s => match tyVl s x with
  | some t => match kitB t n with
    | some b => some (.d (.bool b))
    | none => none
  | none => none
section
variable {mg : Str → Option Value} {W : WX} {B : Bd mg} {σ : St} {H Hi : Hp} {as : List Addr} {s : S}
variable {ta tb tc te : TE} {fa fb fc fe : M Vl}
theorem Rep.ty {K : PySem.W.Frag} (r : Rep B σ H Hi as s) (nl : B.lk0 ++ B.lk1 = [] ∨ ∀ y, (∃ ds, y = PyData.dict ds) → True) {v : V} {x : Vl} {n : String} (h : RelVl Hi as v x) (e : tyVl s x = some n) : TyX K H v (.type n) := by
  cases h with
  | d q =>
    cases e
    cases q with
    | non => exact .base .non
    | bl b => exact .base (.bl b)
    | int i => exact .base (.int i)
    | str z => exact .base (.str z)
    | lst h1 _ => exact .base (.lst (r.lst h1))
    | tup h1 _ => exact .base (.tup (r.tup h1))
    | dct h1 _ =>
      have q := r.sub _ _ h1
      unfold HL at q
      split at q
      · rename_i hl
        obtain ⟨k, z⟩ := r.lkd _ hl
        rw [h1] at z; cases z
      · exact .fDict q
  | @c a j q =>
    simp only [tyVl] at e
    cases hc : s.ce[j]? with
    | none => rw [hc] at e; cases e
    | some c =>
      rw [hc] at e
      have k := r.cel j a c q hc
      cases c with
      | l xs => cases e; obtain ⟨_, vs, z, _⟩ := k; exact .base (.lst z)
      | f xs => cases e; obtain ⟨vs, z, _⟩ := k; exact .base (.lst (r.lst z))
      | m k => cases e
      | g => cases e
      | x e1 => cases e
      | v _ => cases e
      | w _ => cases e
      | t _ => cases e
      | tb _ _ => cases e
      | fn _ _ _ _ _ => cases e
      | y _ => cases e
      | yf _ => cases e
      | o _ _ => cases e
      | fv _ _ _ _ _ => cases e
      | th _ => cases e
      | tl _ => cases e
theorem se_isi {K : PySem.W.Frag} {n : String} (h : SE mg W ta fa) : SE mg W (tCB (rIsi K) (tCons ta (tCons (tC (.ty n)) tNil))) (fIsi n fa) := fun B σ H Hi as s Q rp w => by
  refine h B σ H Hi as s _ rp (wp_mono (wp_bnd w) (fun x s1 w1 => ?_) fun _ _ z => z)
  intro H1 Hi1 as1 r1 e1 p1 v hv
  obtain ⟨z, q, w2⟩ := wp_gets w1
  cases h1 : tyVl s1 x with
  | none => rw [h1] at q; cases q
  | some t =>
    rw [h1] at q
    simp only at q
    cases h2 : kitB t n with
    | none => rw [h2] at q; cases q
    | some b =>
      rw [h2] at q
      cases q
      exact ⟨v, .ty n, .type t, .type n, b, rfl, .ty n, r1.ty (.inr fun _ _ => trivial) hv h1, kit_ty h2, w2 H1 Hi1 as1 r1 e1 p1 _ (.d (.bl b))⟩
/-! ### repr -/
def rRepr (K : PySem.W.Frag) : RC := fun xs H Q => ∃ x d, xs = [x] ∧ Dp K H x d ∧ d.showable = true ∧ d.hasDict = false ∧ d.depth ≤ 30 ∧ d.shown.length ≤ sizeLine ∧ Q (.str d.shown) H
theorem call_repr {X : Cx} {k : Nat} (hr : Room k X.A) (hgd : X.A.guards = some []) : CallR X (.builtin "repr") (rRepr X.K) := by
  intro pins s σ H xs us Q I r h
  obtain ⟨x, d, rfl, hd, hs, hn, hdp, hz, q⟩ := h
  obtain ⟨u, rfl, ru⟩ := vals1 r
  obtain ⟨ads, rd⟩ := Dp.reads I d x u hd ru
  have hun := hr.units
  cases rd with
  | none => exact PySem.P.repr_of_none ⟨.str _, H, I.tok _, ⟨_, rfl⟩, by simpa only [PyData.shown] using q⟩
  | bool b => exact PySem.P.repr_of_bool ⟨.str _, H, I.tok _, ⟨_, rfl⟩, by simpa only [PyData.shown] using q⟩
  | int i t => exact PySem.P.repr_of_int (by simpa [PyData.showable] using hs) ⟨.str _, H, I.tok _, ⟨_, rfl⟩, by simpa only [PyData.shown] using q⟩
  | str y t => exact PySem.P.repr_of_str ⟨.str _, H, I.tok _, ⟨_, rfl⟩, by simpa only [PyData.shown] using q⟩ (by simpa only [PyData.shown] using hz)
  | list h1 h2 h3 h4 =>
    exact PySem.repr_of_reads' (.list h1 h2 h3 h4) hs (PyData.noDict_hsm hn) hgd (by omega) (fun _ _ e => e) (fun h' t tk hk => ⟨.str _, H, I.kept hk, ⟨_, rfl⟩, q⟩) hz
  | tuple h1 h2 h3 h4 =>
    exact PySem.repr_of_reads' (.tuple h1 h2 h3 h4) hs (PyData.noDict_hsm hn) hgd (by omega) (fun _ _ e => e) (fun h' t tk hk => ⟨.str _, H, I.kept hk, ⟨_, rfl⟩, q⟩) hz
  | dict h1 h2 h3 h4 h5 => simp [PyData.hasDict] at hn
def okR (d : D) : Bool := noD d && d.showable && !d.hasDict && decide (d.depth ≤ 30) && decide (d.shown.length ≤ 1000000)
def oRepr : OA Vl := fun xs s => match xs with
  | [x] => match dat s x with
    | some d => if okR d = true then some (.d (.str d.shown)) else none
    | none => none
  | _ => none
theorem ca_repr {K : PySem.W.Frag} : CaS (rRepr K) oRepr := fun B σ H Hi as s xs z vs Q rp hv e q => by
  cases hv with
  | nil => cases e
  | cons a1 a2 =>
    cases a2 with
    | cons _ _ => cases e
    | nil =>
      rename_i v x
      simp only [oRepr] at e
      cases h1 : dat s x with
      | none => rw [h1] at e; cases e
      | some d =>
        rw [h1] at e
        simp only at e
        split at e
        · rename_i hk
          cases e
          simp only [okR, Bool.and_eq_true, decide_eq_true_eq, Bool.not_eq_true'] at hk
          exact ⟨v, d, rfl, rp.dpV a1 h1 hk.1.1.1.1, hk.1.1.1.2, hk.1.1.2, hk.1.2, le_line hk.2, q.now rp (.d (.str _))⟩
        · cases e
end
end DL

end DLsec_10

section DLsec_11
set_option maxRecDepth 100000
namespace DL
open PySem PySem.Spec PyProof.Rows L2
/-! ### methods that change a cell -/
def needL (x : Vl) : M Unit := fun s => match datL s x with
  | some _ => .ok () s
  | none => .no
def upC (x : Vl) (k : List D → Option (Vl × List D)) : M Vl := fun s => match x with
  | .c j => match s.ce[j]? with
    | some (.l xs) => match k xs with
      | some (y, ys) => .ok y { s with ce := s.ce.set j (.l ys) }
      | none => .no
    | _ => .no
  | _ => .no
def fApp (fo : M Vl) (fa : M Vl) : M Vl := bnd fo fun x => bnd (needL x) fun _ => bnd fa fun y => bnd (frz y) fun d => upC x fun xs => if xs.length < 1000000 then some (.d .none, xs ++ [d]) else none
def fPop (fo : M Vl) : M Vl := bnd fo fun x => bnd (needL x) fun _ => upC x fun xs => match xs.getLast? with
  | some d => some (.d d, xs.dropLast)
  | none => none
def fPopAt (fo : M Vl) (fi : M Vl) : M Vl := bnd fo fun x => bnd (needL x) fun _ => bnd fi fun i => match i with
  | .d (.int i) => upC x fun xs => if -1000000000 ≤ i ∧ i ≤ 1000000000 then (match seqIndex? i xs.length with
      | some k => (xs[k]?).map fun d => (.d d, xs.eraseIdx k)
      | none => none) else none
  | _ => stuck
def setIt (o i : Vl) (d : D) : M Unit := fun s => match o, i with
  | .c j, .d (.int i) => match s.ce[j]? with
    | some (.l xs) => match ixN xs.length i with
      | some k => .ok () { s with ce := s.ce.set j (.l (xs.set k d)) }
      | none => .no
    | _ => .no
  | _, _ => .no
def kSub (fo fi : M Vl) : Vl → M Unit := fun x => bnd fo fun o => bnd fi fun i => bnd (frz x) fun d => setIt o i d
section
variable {mg : Str → Option Value} {W : WX} {B : Bd mg} {σ : St} {H Hi : Hp} {as : List Addr} {s : S}
variable {ta tb tc te : TE} {fa fb fc fe : M Vl}
theorem wp_needL {x : Vl} {v : V} {P : Unit → S → Prop} {E : Ex → S → Prop} {K : PySem.W.Frag} (r : Rep B σ H Hi as s) (h : RelVl Hi as v x) (w : wpR (needL x s) P E) : P () s ∧ tyV K "list" v H := by
  unfold needL at w
  cases e : datL s x with
  | none => rw [e] at w; exact w.elim
  | some xs =>
    rw [e] at w
    obtain ⟨a, vs, rfl, h1, h2⟩ := r.datL h e
    exact ⟨w, .inl ⟨rfl, vs, .inl (.inl h1)⟩⟩
/-- the cell that is changed -/
theorem wp_upC {x : Vl} {v : V} {k : List D → Option (Vl × List D)} {P : Vl → S → Prop} {E : Ex → S → Prop} (r : Rep B σ H Hi as s) (h : RelVl Hi as v x) (w : wpR (upC x k s) P E) :
    ∃ j a xs vs y ys, x = .c j ∧ v = .ref a ∧ as[j]? = some a ∧ s.ce[j]? = some (.l xs) ∧ H a = some (.lst vs) ∧ DqA Hi vs xs ∧ k xs = some (y, ys) ∧ P y { s with ce := s.ce.set j (.l ys) } ∧
      ∀ ws, DqA Hi ws ys → Rep B σ (upd H a (.lst ws)) Hi as { s with ce := s.ce.set j (.l ys) } := by
  cases h with
  | d q => exact w.elim
  | @c a j q =>
    simp only [upC] at w
    cases hc : s.ce[j]? with
    | none => rw [hc] at w; exact w.elim
    | some c =>
      rw [hc] at w
      cases c with
      | l xs =>
        simp only at w
        cases hk : k xs with
        | none => rw [hk] at w; exact w.elim
        | some p =>
          obtain ⟨y, ys⟩ := p
          rw [hk] at w
          obtain ⟨hn, vs, h1, h2⟩ := r.cel j a _ q hc
          exact ⟨j, a, xs, vs, y, ys, rfl, rfl, q, hc, h1, h2, hk, w, fun ws hw => r.mut q hc rfl rfl ⟨hn, ws, upd_same, hw⟩⟩
      | _ => exact w.elim
theorem se_append {K : PySem.W.Frag} (ho : SE mg W ta fa) (hb : SE mg W tb fb) : SE mg W (tBM K "list" rAppend ta (tCons tb tNil)) (fApp fa fb) := fun B σ H Hi as s Q rp w => by
  refine ho B σ H Hi as s _ rp (wp_mono (wp_bnd w) (fun x s1 w1 => ?_) fun _ _ z => z)
  intro H1 Hi1 as1 r1 e1 p1 v hv
  obtain ⟨w2, ty⟩ := wp_needL (K := K) r1 hv (wp_bnd w1)
  refine ⟨ty, hb B σ H1 Hi1 as1 s1 _ r1 (wp_mono (wp_bnd w2) (fun y s2 w3 => ?_) fun e s' z => XW.mono z e1 p1)⟩
  intro H2 Hi2 as2 r2 e2 p2 u hu
  obtain ⟨d, s3, Hi3, w4, r3, e3, q3⟩ := r2.frz hu (wp_bnd w3)
  obtain ⟨j, a, xs, vs, y', ys, rfl, rfl, ha, hc, h1, h2, hk, w5, up⟩ := wp_upC r3 (hv.mono (e2.trans e3) p2) w4
  split at hk
  · rename_i hn
    cases hk
    refine ⟨a, vs, u, rfl, rfl, h1, by rw [h2.length]; exact lt_line hn, ?_⟩
    exact w5 _ Hi3 as2 (up (vs ++ [u]) (h2.append (.cons q3 .nil))) ((e1.trans e2).trans e3) (p1.trans p2) _ (.d .non)
  · cases hk
theorem DqA.dropLast {v : List V} {d : List D} (h : DqA Hi v d) : DqA Hi v.dropLast d.dropLast := by
  rw [List.dropLast_eq_take, List.dropLast_eq_take, h.length]
  exact h.take _
theorem sg_sub (ho : SE mg W ta fa) (hi : SE mg W tb fb) : SG mg W (gSub ta tb rSetL) (kSub fa fb) := fun B σ H Hi as s x v Q rp hv w => by
  refine ho B σ H Hi as s _ rp (wp_mono (wp_bnd w) (fun o s1 w1 => ?_) fun _ _ z => z σ)
  intro H1 Hi1 as1 r1 e1 p1 vo hvo
  refine hi B σ H1 Hi1 as1 s1 _ r1 (wp_mono (wp_bnd w1) (fun i s2 w2 => ?_) fun e s' z => XW.mono (z σ) e1 p1)
  intro H2 Hi2 as2 r2 e2 p2 vi hvi
  obtain ⟨d, s3, Hi3, w3, r3, e3, q3⟩ := r2.frz (hv.mono (e1.trans e2) (p1.trans p2)) (wp_bnd w2)
  have hvo' := hvo.mono (e2.trans e3) p2
  have hvi' := hvi.mono e3 (List.prefix_refl _)
  unfold setIt at w3
  cases hvo' with
  | d q => exact w3.elim
  | @c a j q =>
    cases hvi' with
    | c q' => exact w3.elim
    | d q' =>
      cases q' with
      | int i =>
        simp only at w3
        cases hc : s3.ce[j]? with
        | none => rw [hc] at w3; exact w3.elim
        | some c =>
          rw [hc] at w3
          cases c with
          | l xs =>
            simp only at w3
            obtain ⟨hn, vs, h1, h2⟩ := r3.cel j a _ q hc
            cases hk : ixN xs.length i with
            | none => rw [hk] at w3; exact w3.elim
            | some k =>
              rw [hk] at w3
              have r4 := r3.mut q hc rfl rfl (c' := .l (xs.set k d)) ⟨hn, vs.set k v, upd_same, h2.set q3 k⟩
              exact ⟨a, vs, i, k, rfl, rfl, h1, by rw [h2.length]; exact hk, w3 σ _ Hi3 as2 r4 ((e1.trans e2).trans e3) (p1.trans p2)⟩
          | _ => exact w3.elim
      | _ => exact w3.elim
/-! ### x += e -/
def fAug (i : Nat) (o : O2 Vl) (f : M Vl) : M Fl := bnd (fVar i) fun x => bnd f fun y => bnd (gets (o x y)) fun z => bnd (kName i z) fun _ => ret .nx
theorem ss_aug {i : Nat} {r : TIp} {o : O2 Vl} (ho : OpS r o) (h : SE mg W ta fa) : SS mg W (tAug i ta r) (fAug i o fa) := fun B σ H Hi as s Dn rp w => by
  have w0 := wp_bnd w
  unfold fVar at w0
  cases e : s.sl[i]? with
  | none => rw [e] at w0; exact w0.elim
  | some ov =>
    cases ov with
    | none => rw [e] at w0; exact w0.elim
    | some x =>
      rw [e] at w0
      obtain ⟨v, h1, h2⟩ := rp.slo i x e
      refine ⟨v, h1, h B σ H Hi as s _ rp (wp_mono (wp_bnd w0) (fun y s1 w1 => ?_) fun _ _ z => z σ)⟩
      intro H1 Hi1 as1 r1 e1 p1 u hu
      obtain ⟨z, q, w2⟩ := wp_gets (wp_bnd w1)
      exact ho B σ H1 Hi1 as1 s1 x y z v u _ r1 (h2.mono e1 p1) hu q fun H' Hi' r' e' t ht => (w2 _) H' Hi' as1 (r'.bind ht) (e1.trans e') p1
/-! ### in, not in: flat things -/
end
end DL

end DLsec_11

section DLsec_12
set_option maxRecDepth 100000
namespace DL
open PySem PySem.Spec PyProof.Rows L2
/-! ### the law's own end -/
end DL

end DLsec_12

section DLsec_13
set_option maxRecDepth 100000
namespace DL
open PySem PySem.Spec PyProof.Rows L2
/-! ### sum(lists, list) -/
section
variable {prog : Program} {w : World} {A : Around} {R : Result → Shared → Prop}
end
/-! .. as data -/
def listsOf : List D → Option (List (List D))
  | [] => some []
  | .list ys :: xs => (listsOf xs).map (ys :: ·)
  | _ => none
def oSumL : OA Vl := fun xs s => match xs with
  | [x, y] => match datL s x, y with
    | some ys, .d (.list zs) => match listsOf ys with
      | some yss => if zs.length + yss.flatten.length ≤ 1000000 then some (.d (.list (zs ++ yss.flatten))) else none
      | none => none
    | _, _ => none
  | _ => none
end DL

end DLsec_13

section DLsec_14
set_option maxRecDepth 100000
namespace DL
open PySem PySem.Spec PyProof.Rows L2
theorem tkF {X : Cx} : Takes X WF := fun u s' h => by
  obtain ⟨_, _, _, _, _, _, _, _, _, _, _, _, _, _, _, _, z⟩ := h
  exact z.elim
/-! great powers -/
def CPowW (i j : Int) : Prop := 0 ≤ j ∧ (Builtin.Int.intBits i : Int) * j ≤ 2 ^ 27
theorem op_powW {X : Cx} : OpR X (binaryOp .Pow) (rI CPowW fun i j => .int (i ^ j.toNat)) := opI fun _ _ _ _ _ _ _ hc q => pow_int hc.1 hc.2 q
def cPowW (i j : Int) : Bool := decide (0 ≤ j) && decide ((Builtin.Int.intBits i : Int) * j ≤ 134217728)
abbrev oPowW : O2 Vl := oIC cPowW fun i j => .int (i ^ j.toNat)
theorem os_powW : OpS (rI CPowW fun i j => .int (i ^ j.toNat)) oPowW := ops_IC (fun i j h => by
  simp only [cPowW, Bool.and_eq_true, decide_eq_true_eq] at h
  exact ⟨h.1, by simpa using h.2⟩) fun i j _ => .int _
/-! unary minus -/
def fNeg (f : M Vl) : M Vl := bnd f fun x => match x with
  | .d (.int i) => ret (.d (.int (-i)))
  | _ => stuck
section
variable {mg : Str → Option Value} {W : WX} {ta : TE} {fa : M Vl}
theorem se_neg (h : SE mg W ta fa) : SE mg W (tUn (rU fun i => .int (-i)) ta) (fNeg fa) := fun B σ H Hi as s Q rp w => by
  refine h B σ H Hi as s _ rp (wp_mono (wp_bnd w) (fun x s1 w1 => ?_) fun _ _ z => z)
  intro H1 Hi1 as1 r1 e1 p1 v hv
  cases hv with
  | c q => exact w1.elim
  | d q =>
    cases q with
    | int i => exact ⟨i, rfl, w1 H1 Hi1 as1 r1 e1 p1 _ (.d (.int _))⟩
    | _ => exact w1.elim
end
/-! tuples joined -/
def oCatT : O2 Vl
  | .d (.tuple xs), .d (.tuple ys), _ => if xs.length + ys.length ≤ 1000000 then some (.d (.tuple (xs ++ ys))) else none
  | _, _, _ => none
theorem os_catT {K : PySem.W.Frag} : OpS (rCatA K) oCatT := fun B σ H Hi as s x y z u v Q rp hu hv e q => by
  cases hu with
  | c _ => cases e
  | d q1 =>
    cases hv with
    | c _ => cases q1 <;> cases e
    | d q2 =>
      cases q1 with
      | tup h1 d1 =>
        cases q2 with
        | tup h2 d2 =>
          simp only [oCatT] at e
          split at e
          · rename_i hn
            cases e
            refine ⟨_, _, _, _, rfl, rfl, .inl (.inl (rp.tup h1)), .inl (.inl (rp.tup h2)), by rw [d1.length, d2.length]; exact le_line hn, fun z => ?_, fun _ z => ?_, fun _ _ p hp => ?_⟩
            · subst z
              cases d1
              exact q.now rp (.d (.tup h2 d2))
            · subst z
              cases d2
              rw [List.append_nil] at q
              exact q.now rp (.d (.tup h1 d1))
            · exact q _ _ (rp.addI hp) (same_new (rp.fresh hp)) _ (.d (.tup upd_same ((d1.append d2).mono (same_new (rp.fresh hp)))))
          · cases e
        | _ => cases e
      | _ => cases q2 <;> cases e
abbrev oAdd : O2 Vl := orO oAddI (orO oCatD (orO oAddS oCatT))
theorem op_addG {X : Cx} {K : PySem.W.Frag} (hK : X.K = K := by rfl) : OpR X (binaryOp .Add) (fun x y H Q => (rI0 fun i j => .int (i + j)) x y H Q ∨ (rCat x y H Q ∨ ((∃ i j, x = .str i ∧ y = .str j ∧ i.length + j.length ≤ sizeLine ∧ Q (.str (i ++ j)) H) ∨ rCatA K x y H Q))) := op_add.or (op_cat.or (op_add_str.or (hK ▸ op_catA)))
theorem os_addG {K : PySem.W.Frag} : OpS (fun x y H Q => (rI0 fun i j => .int (i + j)) x y H Q ∨ (rCat x y H Q ∨ ((∃ i j, x = .str i ∧ y = .str j ∧ i.length + j.length ≤ sizeLine ∧ Q (.str (i ++ j)) H) ∨ rCatA K x y H Q))) oAdd := ops_or os_addI (ops_or os_cat (ops_or os_addS os_catT))
abbrev oSl : Vl → Option Int → Option Int → S → Option Vl := slOr oSlD (slOr oSlT oSlS)
theorem sl_G {X : Cx} : SlR X (fun x lo hi H Q => rSlL X.K x lo hi H Q ∨ (rSlA X.K x lo hi H Q ∨ rSlS x lo hi H Q)) := sl_list.or (sl_tupA.or sl_str)
theorem ss_G {K : PySem.W.Frag} : SlS (fun x lo hi H Q => rSlL K x lo hi H Q ∨ (rSlA K x lo hi H Q ∨ rSlS x lo hi H Q)) oSl := sls_or sl_lS (sls_or sl_tS sl_sS)
abbrev oLenG : OA Vl := orA oLen oLenS
theorem call_lenG {X : Cx} : CallR X (.builtin "len") (fun xs H Q => (∃ p ys, xs = [.ref p] ∧ (SqL X.K H p ys ∨ SqT X.K H p ys) ∧ Q (.int ys.length) H) ∨ ∃ z : Str, xs = [.str z] ∧ z.length ≤ sizeLine ∧ Q (.int z.length) H) := call_len_seq.or call_len_str
theorem ca_lenG {K : PySem.W.Frag} : CaS (fun xs H Q => (∃ p ys, xs = [.ref p] ∧ (SqL K H p ys ∨ SqT K H p ys) ∧ Q (.int ys.length) H) ∨ ∃ z : Str, xs = [.str z] ∧ z.length ≤ sizeLine ∧ Q (.int z.length) H) oLenG := cas_or ca_len ca_lenS
end DL

end DLsec_14

section DLsec_15
set_option maxRecDepth 100000
/-! the rules with the written part by name (a reading must not hang on a block's own context) -/
namespace DL
open PySem PySem.Spec PyProof.Rows L2
/-- texts are compared as they stand -/
def oEqS : O2 Vl
  | .d (.str a), .d (.str b), _ => some (.d (.bool (decide (a = b))))
  | _, _, _ => none
def oNeS : O2 Vl
  | .d (.str a), .d (.str b), _ => some (.d (.bool (!decide (a = b))))
  | _, _, _ => none
theorem dec_strV (a b : Str) : decide (V.str a = V.str b) = decide (a = b) := by
  by_cases h : a = b <;> simp [h]
theorem os_eqS : OpS rEq oEqS := fun B σ H Hi as s x y z u v Q rp hu hv e q => by
  cases hu with
  | c q => cases e
  | d q1 =>
    cases hv with
    | c q' => cases q1 <;> cases e
    | d q2 =>
      cases q1 <;> cases q2 <;> first | (cases e; done) | skip
      cases e
      exact ⟨rfl, by rw [dec_strV]; exact q.now rp (.d (.bl _))⟩
theorem os_neS : OpS rNe oNeS := fun B σ H Hi as s x y z u v Q rp hu hv e q => by
  cases hu with
  | c q => cases e
  | d q1 =>
    cases hv with
    | c q' => cases q1 <;> cases e
    | d q2 =>
      cases q1 <;> cases q2 <;> first | (cases e; done) | skip
      cases e
      exact ⟨rfl, by rw [dec_strV]; exact q.now rp (.d (.bl _))⟩
abbrev oEqG : O2 Vl := orO oEqS oEq
abbrev oNeG : O2 Vl := orO oNeS oNe
theorem os_eqG {K : PySem.W.Frag} : OpS (fun x y H Q => rEq x y H Q ∨ rEqD K x y H Q) oEqG := ops_or os_eqS os_eq
theorem os_neG {K : PySem.W.Frag} : OpS (fun x y H Q => rNe x y H Q ∨ rNeD K x y H Q) oNeG := ops_or os_neS os_ne
section
variable {X : Cx} {K : PySem.W.Frag}
theorem ixK (hK : X.K = K := by rfl) : IxR X (rIx K) := hK ▸ ix_seq
theorem slK (hK : X.K = K := by rfl) : SlR X (fun x lo hi H Q => rSlL K x lo hi H Q ∨ (rSlA K x lo hi H Q ∨ rSlS x lo hi H Q)) := hK ▸ sl_G
theorem slLK (hK : X.K = K := by rfl) : SlR X (rSlL K) := hK ▸ sl_list
theorem lenK (hK : X.K = K := by rfl) : CallR X (.builtin "len") (fun xs H Q => (∃ p ys, xs = [.ref p] ∧ (SqL K H p ys ∨ SqT K H p ys) ∧ Q (.int ys.length) H) ∨ ∃ z : Str, xs = [.str z] ∧ z.length ≤ sizeLine ∧ Q (.int z.length) H) := hK ▸ call_lenG
theorem eqK (hu : X.A.units + 64 < cLine) (hK : X.K = K := by rfl) : OpR X (compareOp .Eq) (fun x y H Q => rEq x y H Q ∨ rEqD K x y H Q) := op_eq.or (hK ▸ op_eqD hu)
theorem neK (hu : X.A.units + 64 < cLine) (hK : X.K = K := by rfl) : OpR X (compareOp .NotEq) (fun x y H Q => rNe x y H Q ∨ rNeD K x y H Q) := op_ne.or (hK ▸ op_neD hu)
theorem isiK (hK : X.K = K := by rfl) : CallR X (.builtin "isinstance") (rIsi K) := hK ▸ call_isi
theorem reprK {k : Nat} (hr : Room k X.A) (hgd : X.A.guards = some []) (hK : X.K = K := by rfl) : CallR X (.builtin "repr") (rRepr K) := hK ▸ call_repr hr hgd
theorem tupleK (hK : X.K = K := by rfl) : CallR X (.type "tuple") (fun xs H Q => ∃ p ys, xs = [.ref p] ∧ ((SqL K H p ys ∧ ∀ l, H l = none → Q (.ref l) (upd H l (.tup ys))) ∨ (SqT K H p ys ∧ Q (.ref p) H))) := hK ▸ call_tuple_of
theorem piLK {tg l : Expr} {tl : TE} (hl : PE X l tl) (hK : X.K = K := by rfl) : PI X tg l (iList K tl) := hK ▸ pi_list hl
theorem piTK {tg l : Expr} {tl : TE} (hl : PE X l tl) (hK : X.K = K := by rfl) : PI X tg l (iTup K tl) := hK ▸ pi_tup hl
theorem piEK {e : Expr} {ta : TA} {p pos tpos : Pos} {elts : List Expr} {kk : Nat} (hg : Gl X "enumerate") (hm : X.mg "enumerate" = none) (ha : PA X [e] ta) (hs : starEach [e] X.env = [(false, eval e X.env)] := by rfl) (hK : X.K = K := by rfl) :
    PI X (.Tuple elts kk tpos) (.Call (.Name "enumerate" p) [e] [] pos) (iEnum K ta) := hK ▸ pi_enum hg hm ha hs
theorem pgTK {es : List Expr} {k : Nat} {t : TGs} {n : Nat} {pos : Pos} (hc : X.calm = true) (h : PGs X es t) (q : (assignEach es X.env).length = n := by rfl) (q2 : (assignEach es X.env).findIdx? (·.1) = none := by rfl) (hK : X.K = K := by rfl) : PG X (.Tuple es k pos) (gTup K n t) := by
  subst hK
  exact pg_tup hc h q q2
theorem ptK {a : Expr} {ta : TE} (ha : PE X a ta) (he : ∀ whole, isTrue a X.env whole = (do let v ← whole; standAt a.pos; holding [v] (truthy v))) (hK : X.K = K := by rfl) : PT X a (fun σ H Q => ta σ H fun x H' => ∃ k, TruV K x H' k ∧ Q k H') := hK ▸ pt_truth ha he
end
end DL

end DLsec_15

section DLsec_16
set_option maxRecDepth 100000
/-! the two shapes of a law's own def -/
namespace DL
open PySem PySem.Spec PyProof.Rows L2
def spLaw (K : PySem.W.Frag) : Sp := fun vs G Q _ => ∃ (a : Addr) (ns : List Int), vs = [.ref a] ∧ SqL K G a (ns.map V.int) ∧ ns.length ≤ 63 ∧ ∀ G', Q (.bl true) G'
theorem spLaw_len {K : PySem.W.Frag} {vs : List V} {G : Hp} {Q : VK} {E : XK} (h : spLaw K vs G Q E) : vs.length = 1 := by
  obtain ⟨a, ns, rfl, _⟩ := h
  rfl
theorem hl_nil {H : Hp} {b : Addr} {o : HO} (h : HL [] H b o) : H b = some o := HL.of_notin h (by simp)
end DL

end DLsec_16

section DLsec_17
set_option maxRecDepth 100000
/-! plain facts about data and the state functions -/
namespace DL
open PySem PySem.Spec PyProof.Rows L2
abbrev il (ns : List Int) : D := .list (ns.map PyData.int)
theorem ofs_len (s : String) : (Str.ofString s).length = s.length := PySem.ofString_length s
theorem textFrom_le : ∀ (ts : List Str) (k : Nat) (acc : Str), (textFrom k acc ts).length ≤ acc.length + piled ts
  | [], k, acc => by simp [textFrom, piled]
  | t :: ts, k, acc => by
    unfold textFrom
    refine Nat.le_trans (textFrom_le ts (k + 1) _) ?_
    rw [piled_cons, Str.length_append, Str.length_append, ofs_len]
    have : (if k > 0 then ", " else "" : String).length ≤ 2 := by split <;> decide
    omega
theorem listText_le (ts : List Str) : (listText ts).length ≤ 2 + piled ts := by
  unfold listText
  rw [Str.length_append]
  have := textFrom_le ts 0 (Str.ofString "[")
  have h1 : (Str.ofString "[").length = 1 := by rw [ofs_len]; rfl
  have h2 : (Str.ofString "]").length = 1 := by rw [ofs_len]; rfl
  omega
theorem tupleText_le (ts : List Str) : (tupleText ts).length ≤ 3 + piled ts := by
  unfold tupleText
  rw [Str.length_append, Str.length_append, ofs_len, ofs_len]
  have h1 : ("(" : String).length = 1 := rfl
  have h2 : (if (ts.length == 1) = true then ",)" else ")" : String).length ≤ 2 := by split <;> decide
  cases ts with
  | nil =>
    have : (Str.join (Str.ofString ", ") []).length = 0 := rfl
    rw [this]
    simp [piled]
    decide
  | cons t ts =>
    have := join_length_add (t :: ts) (by simp)
    omega
/-- no dict, to be compared and shown, of depth at most k, shown in at most w signs -/
structure Sm (k w : Nat) (d : D) : Prop where
  nd : noD d = true
  lay : d.canLay0 = true
  dep : d.depth ≤ k
  sho : d.showable = true
  len : d.shown.length ≤ w
theorem Sm.mono {k k' w w' : Nat} {d : D} (h : Sm k w d) (hk : k ≤ k') (hw : w ≤ w') : Sm k' w' d := ⟨h.nd, h.lay, Nat.le_trans h.dep hk, h.sho, Nat.le_trans h.len hw⟩
theorem Sm.int {i : Int} (h : i.natAbs < 10 ^ 40) : Sm 0 42 (.int i) := by
  refine ⟨rfl, rfl, Nat.le_refl _, ?_, ?_⟩
  · simp only [PyData.showable, decide_eq_true_eq]
    have h2 : i.natAbs < 2 ^ 1920 := Nat.lt_of_lt_of_le h (by decide)
    by_cases e : i.natAbs = 0
    · rw [e]; decide
    · exact (Nat.log2_lt e).mpr h2
  · simp only [PyData.shown]
    rw [ofs_len]
    exact Nat.le_trans (int_text_length_le10 (by decide) h) (by decide)
theorem Sm.none : Sm 0 42 .none := ⟨rfl, rfl, Nat.le_refl _, rfl, by simp only [PyData.shown]; rw [ofs_len]; decide⟩
theorem Sm.bool (b : Bool) : Sm 0 42 (.bool b) := ⟨rfl, rfl, Nat.le_refl _, rfl, by simp only [PyData.shown]; cases b <;> (simp only [if_true, Bool.false_eq_true, if_false]; rw [ofs_len]; decide)⟩
theorem noDs_of : ∀ {xs : List D}, (∀ x ∈ xs, noD x = true) → noDs xs = true
  | [], _ => rfl
  | x :: xs, h => by simp [noDs, h x, noDs_of (xs := xs) fun y hy => h y (List.mem_cons_of_mem _ hy)]
theorem lay_of : ∀ {xs : List D}, (∀ x ∈ xs, x.canLay0 = true) → PyData.canLayAll0 xs = true
  | [], _ => by simp [PyData.canLayAll0]
  | x :: xs, h => by simp [PyData.canLayAll0, h x, lay_of (xs := xs) fun y hy => h y (List.mem_cons_of_mem _ hy)]
theorem dep_of {k : Nat} : ∀ {xs : List D}, (∀ x ∈ xs, x.depth ≤ k) → PyData.depthAll xs ≤ k
  | [], _ => by simp [PyData.depthAll]
  | x :: xs, h => by
    have h1 := h x List.mem_cons_self
    have h2 := dep_of (xs := xs) fun y hy => h y (List.mem_cons_of_mem _ hy)
    simp only [PyData.depthAll]
    omega
theorem sho_of : ∀ {xs : List D}, (∀ x ∈ xs, x.showable = true) → PyData.showableAll xs = true
  | [], _ => by simp [PyData.showableAll]
  | x :: xs, h => by simp [PyData.showableAll, h x, sho_of (xs := xs) fun y hy => h y (List.mem_cons_of_mem _ hy)]
theorem pil_of {w : Nat} : ∀ {xs : List D}, (∀ x ∈ xs, x.shown.length ≤ w) → piled (PyData.shownAll xs) ≤ xs.length * (w + 2)
  | [], _ => by simp [PyData.shownAll, piled]
  | x :: xs, h => by
    have h1 := h x List.mem_cons_self
    have h2 := pil_of (xs := xs) fun y hy => h y (List.mem_cons_of_mem _ hy)
    simp only [PyData.shownAll, piled_cons, List.length_cons, Nat.add_mul, Nat.one_mul]
    omega
theorem Sm.list {k w n : Nat} {xs : List D} (h : ∀ x ∈ xs, Sm k w x) (hn : xs.length ≤ n) : Sm (k + 1) (3 + n * (w + 2)) (.list xs) := by
  refine ⟨noDs_of fun x hx => (h x hx).nd, lay_of fun x hx => (h x hx).lay, ?_, sho_of fun x hx => (h x hx).sho, ?_⟩
  · simp only [PyData.depth]
    have := dep_of fun x hx => (h x hx).dep
    omega
  · simp only [PyData.shown]
    refine Nat.le_trans (listText_le _) ?_
    have h1 := pil_of fun x hx => (h x hx).len
    have h2 := Nat.mul_le_mul_right (w + 2) hn
    omega
theorem Sm.tuple {k w n : Nat} {xs : List D} (h : ∀ x ∈ xs, Sm k w x) (hn : xs.length ≤ n) : Sm (k + 1) (3 + n * (w + 2)) (.tuple xs) := by
  refine ⟨noDs_of fun x hx => (h x hx).nd, lay_of fun x hx => (h x hx).lay, ?_, sho_of fun x hx => (h x hx).sho, ?_⟩
  · simp only [PyData.depth]
    have := dep_of fun x hx => (h x hx).dep
    omega
  · simp only [PyData.shown]
    refine Nat.le_trans (tupleText_le _) ?_
    have h1 := pil_of fun x hx => (h x hx).len
    have h2 := Nat.mul_le_mul_right (w + 2) hn
    omega
/-- equality of int lists; without bounds -/
theorem okE_il (ns : List Int) : okE (il ns) = true := by
  simp only [okE, SeqAt.shaped, Bool.and_eq_true, decide_eq_true_eq]
  refine ⟨noDs_of fun x hx => ?_, lay_of fun x hx => ?_, ?_⟩
  · obtain ⟨i, _, rfl⟩ := List.mem_map.mp hx; rfl
  · obtain ⟨i, _, rfl⟩ := List.mem_map.mp hx; rfl
  · simp only [PyData.depth]
    have := dep_of (k := 0) (xs := ns.map PyData.int) fun x hx => by obtain ⟨i, _, rfl⟩ := List.mem_map.mp hx; exact Nat.le_refl _
    omega
theorem okE_nil : okE (.list []) = true := okE_il []
theorem eqvAll_ints : ∀ (xs ys : List Int), PyData.eqvAll (xs.map .int) (ys.map .int) = decide (xs = ys)
  | [], [] => by simp [PyData.eqvAll]
  | [], y :: ys => by simp [PyData.eqvAll]
  | x :: xs, [] => by simp [PyData.eqvAll]
  | x :: xs, y :: ys => by
    simp only [List.map_cons, PyData.eqvAll, PyData.eqv, eqvAll_ints xs ys]
    by_cases h : x = y <;> by_cases h2 : xs = ys <;> simp [h, h2]
theorem eqv_il (xs ys : List Int) : PyData.eqv (il xs) (il ys) = decide (xs = ys) := by simp only [il, PyData.eqv, eqvAll_ints]
theorem okE_int (i : Int) : okE (.int i) = true := rfl
/-- ints within bounds -/
def Bdd (b : Nat) (ns : List Int) : Prop := ∀ x ∈ ns, x.natAbs ≤ b
theorem Sm.il {ns : List Int} {n : Nat} (h : Bdd (10 ^ 30) ns) (hn : ns.length ≤ n) : Sm 1 (3 + n * 44) (il ns) := Sm.list (w := 42) (fun x hx => by
  obtain ⟨i, hi, rfl⟩ := List.mem_map.mp hx
  exact Sm.int (Nat.lt_of_le_of_lt (h i hi) (by decide))) (by simpa using hn)

/-! ### comprehensions -/
theorem lcL_fm {k : Vl → M Unit} {t : M Bool} {e : M Vl} {sl : List (Option Vl)} {ce : List Ce} {f : D → Option D} : ∀ {xs : List D}, (∀ x ∈ xs, ∃ s', lcT k t e x ⟨sl, ce⟩ = .ok (f x) s' ∧ cutC ce.length s'.ce = ce) → lcL k t e xs ⟨sl, ce⟩ = .ok (xs.filterMap f) ⟨sl, ce⟩
  | [], _ => rfl
  | x :: xs, h => by
    obtain ⟨s', e1, e2⟩ := h x List.mem_cons_self
    simp only [lcL, e1, e2]
    rw [lcL_fm fun y hy => h y (List.mem_cons_of_mem _ hy)]
    simp only [List.filterMap_cons]
    cases f x <;> simp
theorem lcL_all {k : Vl → M Unit} {e : M Vl} {sl : List (Option Vl)} {P : D → Prop} {I : Nat → List Ce → Prop} (step : ∀ x n ce, I (n + 1) ce → ∃ z s', lcT k fYes e x ⟨sl, ce⟩ = .ok (some z) s' ∧ P z ∧ I n (cutC ce.length s'.ce)) :
    ∀ (xs : List D) (n : Nat) (ce : List Ce), I (n + xs.length) ce → ∃ ys ce', lcL k fYes e xs ⟨sl, ce⟩ = .ok ys ⟨sl, ce'⟩ ∧ ys.length = xs.length ∧ (∀ y ∈ ys, P y) ∧ I n ce'
  | [], n, ce, h => ⟨[], ce, rfl, rfl, by simp, h⟩
  | x :: xs, n, ce, h => by
    obtain ⟨z, s', e1, e2, e3⟩ := step x (n + xs.length) ce (by simpa [Nat.add_assoc] using h)
    obtain ⟨ys, ce', f1, f2, f3, f4⟩ := lcL_all step xs n _ e3
    refine ⟨z :: ys, ce', ?_, by simp [f2], fun y hy => ?_, f4⟩
    · simp only [lcL, e1, f1]
      rfl
    · rcases List.mem_cons.mp hy with rfl | hy
      · exact e2
      · exact f3 y hy
theorem forL_cons {k : Vl → M Unit} {b : M Fl} {x : D} {xs : List D} {s s' : S} (h : bnd (k (.d x)) (fun _ => b) s = .ok .nx s') : forL k b (x :: xs) s = forL k b xs s' := by simp only [forL, h]
/-- a loop that goes through, by an invariant -/
theorem forL_inv {k : Vl → M Unit} {b : M Fl} {xs : List D} (I : Nat → S → Prop) (step : ∀ i x s, xs[i]? = some x → I i s → ∃ s', bnd (k (.d x)) (fun _ => b) s = .ok .nx s' ∧ I (i + 1) s') :
    ∀ s, I 0 s → ∃ s', forL k b xs s = .ok .nx s' ∧ I xs.length s' := by
  have gen : ∀ (n i : Nat) (s : S), n + i = xs.length → I i s → ∃ s', forL k b (xs.drop i) s = .ok .nx s' ∧ I xs.length s' := fun n => by
    induction n with
    | zero =>
      intro i s hi hI
      have : i = xs.length := by omega
      subst this
      rw [List.drop_length]
      exact ⟨s, rfl, hI⟩
    | succ n ih =>
      intro i s hi hI
      have hlt : i < xs.length := by omega
      rw [List.drop_eq_getElem_cons hlt]
      obtain ⟨s', e1, e2⟩ := step i _ s (List.getElem?_eq_getElem hlt) hI
      rw [forL_cons e1]
      exact ih (i + 1) s' (by omega) e2
  intro s h
  have := gen xs.length 0 s (by omega) h
  rwa [List.drop_zero] at this
end DL

end DLsec_17

section DLsec_18
/-! the state functions at a state: for simp, so that nothing is unfolded where no state stands -/
namespace DL
open PySem PySem.Spec PyProof.Rows L2
section
variable {α β : Type} {s : S} {f g fa fb fo fi fl fh fe : M Vl} {c d : M Bool} {ff gg : M Fl} {fA : M (List Vl)} {fL gL : M (List D)}
theorem x_bnd (m : M α) (k : α → M β) (s : S) : bnd m k s = match m s with
  | .ok a s' => k a s'
  | .ex e s' => .ex e s'
  | .no => .no := id rfl
theorem x_ret (a : α) (s : S) : DL.ret a s = .ok a s := id rfl
theorem x_stuck (s : S) : (stuck : M α) s = .no := id rfl
theorem x_gets (o : S → Option α) (s : S) : gets o s = match o s with
  | some a => .ok a s
  | none => .no := id rfl
theorem x_fVar (i : Nat) (s : S) : fVar i s = match s.sl[i]? with
  | some (some x) => .ok x s
  | _ => .no := id rfl
theorem x_fC (x : D) (s : S) : fC x s = .ok (.d x) s := id rfl
theorem x_fOp (o : O2 α) (s : S) : fOp o fa fb s = bnd fa (fun x => bnd fb fun y => gets (o x y)) s := id rfl
theorem x_fNil (s : S) : fNil s = .ok [] s := id rfl
theorem x_fCons (s : S) : fCons fa fA s = bnd fa (fun x => bnd fA fun xs => DL.ret (x :: xs)) s := id rfl
theorem x_fCall (o : OA α) (s : S) : fCall o fA s = bnd fA (fun xs => gets (o xs)) s := id rfl
theorem x_fDat (s : S) : fDat fL s = bnd fL (fun xs => DL.ret (.d (.list xs))) s := id rfl
theorem x_fCell (s : S) : fCell fL s = bnd fL (fun xs s => .ok (.c s.ce.length) { s with ce := s.ce ++ [.l xs] }) s := id rfl
theorem x_fLst (s : S) : fLst fA s = bnd fA (fun xs => if xs.length ≤ 1000000 then frzs xs else stuck) s := id rfl
theorem x_fTup (s : S) : fTup fA s = bnd fA (fun xs => if xs.length ≤ 1000000 then bnd (frzs xs) fun ys => DL.ret (.d (.tuple ys)) else stuck) s := id rfl
theorem x_fTest (s : S) : fTest f s = bnd f (fun x => match x with
  | .d (.bool b) => DL.ret b
  | _ => stuck) s := id rfl
theorem x_fTru (s : S) : fTru f s = bnd f (fun x => gets fun s => tru s x) s := id rfl
theorem x_fAnd (s : S) : fAnd c d s = bnd c (fun b => if b = true then d else DL.ret false) s := id rfl
theorem x_fOr (s : S) : fOr c d s = bnd c (fun b => if b = true then DL.ret true else d) s := id rfl
theorem x_fNot (s : S) : fNot c s = bnd c (fun b => DL.ret (!b)) s := id rfl
theorem x_fIf (p q : M α) (s : S) : fIf c p q s = bnd c (fun b => if b = true then p else q) s := id rfl
theorem x_asB (x : Vl) (s : S) : asB x s = match x with
  | .d (.bool b) => .ok b s
  | _ => .no := by
  cases x with
  | c j => rfl
  | d y => cases y <;> rfl
theorem x_fAndV (s : S) : fAndV f g s = bnd f (fun x => bnd (asB x) fun b => if b = true then g else DL.ret (.d (.bool false))) s := id rfl
theorem x_fOrV (s : S) : fOrV f g s = bnd f (fun x => bnd (asB x) fun b => if b = true then DL.ret (.d (.bool true)) else g) s := id rfl
theorem x_fNotV (s : S) : fNotV f s = bnd f (fun x => bnd (asB x) fun b => DL.ret (.d (.bool (!b)))) s := id rfl
theorem x_fIsN (s : S) : fIsN f s = bnd f (fun x => DL.ret (.d (.bool (isNon x)))) s := id rfl
theorem x_fNotN (s : S) : fNotN f s = bnd f (fun x => DL.ret (.d (.bool (!isNon x)))) s := id rfl
theorem x_frz (x : Vl) (s : S) : frz x s = match x with
  | .d y => .ok y s
  | .c j => match s.ce[j]? with
    | some (.l xs) => .ok (.list xs) { s with ce := s.ce.set j (.f xs) }
    | some (.f xs) => .ok (.list xs) s
    | some (.v xs) => bnd (frzs0 xs) (fun ys s' => .ok (.list ys) { s' with ce := s'.ce.set j (.f ys) }) s
    | some (.t xs) => bnd (frzs0 xs) (fun ys s' => .ok (.tuple ys) s') s
    | _ => .no := id rfl
theorem x_frzs0 (s : S) : frzs [] s = .ok [] s := id rfl
theorem x_frzs1 (x : Vl) (xs : List Vl) (s : S) : frzs (x :: xs) s = bnd (frz x) (fun y => bnd (frzs xs) fun ys => DL.ret (y :: ys)) s := id rfl
theorem x_fFrz (s : S) : fFrz f s = match bnd f frz s with
  | .ok y s2 => .ok (.d y) ⟨s.sl, cutC s.ce.length s2.ce⟩
  | .ex e s2 => .ex e s2
  | .no => .no := id rfl
theorem x_fSeq (s : S) : fSeq ff gg s = match ff s with
  | .ok .nx s' => gg s'
  | r => r := id rfl
theorem x_fNext (s : S) : fNext s = .ok .nx s := id rfl
theorem x_fExpr (s : S) : fExpr f s = bnd f (fun _ => DL.ret .nx) s := id rfl
theorem x_fRet (s : S) : fRet f s = bnd f (fun x => DL.ret (.rt x)) s := id rfl
theorem x_fRetN (s : S) : fRetN s = .ok (.rt (.d .none)) s := id rfl
theorem x_fAsg (k : Vl → M Unit) (s : S) : fAsg f k s = bnd f (fun x => bnd (k x) fun _ => DL.ret .nx) s := id rfl
theorem x_kName (i : Nat) (x : Vl) (s : S) : kName i x s = .ok () { s with sl := s.sl.set i (some x) } := id rfl
theorem x_fPar (i j : Nat) (s : S) : fPar i j fA s = bnd fA (fun vs => match vs with
  | [x, y] => bnd (kName i x) fun _ => bnd (kName j y) fun _ => DL.ret .nx
  | _ => stuck) s := id rfl
theorem x_kNil (s : S) : kNil [] s = .ok () s := id rfl
theorem x_kCons (k : Vl → M Unit) (ks : List D → M Unit) (x : D) (xs : List D) (s : S) : kCons k ks (x :: xs) s = bnd (k (.d x)) (fun _ => ks xs) s := id rfl
theorem x_kTup (n : Nat) (ks : List D → M Unit) (xs : List D) (s : S) : kTup n ks (.d (.tuple xs)) s = (if xs.length = n then ks xs else stuck) s := id rfl
theorem x_kSub (x : Vl) (s : S) : kSub fo fi x s = bnd fo (fun o => bnd fi fun i => bnd (frz x) fun d => setIt o i d) s := id rfl
theorem x_setIt (o i : Vl) (d : D) (s : S) : setIt o i d s = match o, i with
  | .c j, .d (.int i) => match s.ce[j]? with
    | some (.l xs) => match ixN xs.length i with
      | some k => .ok () { s with ce := s.ce.set j (.l (xs.set k d)) }
      | none => .no
    | _ => .no
  | _, _ => .no := id rfl
theorem x_needL (x : Vl) (s : S) : needL x s = match datL s x with
  | some _ => .ok () s
  | none => .no := id rfl
theorem x_upC (x : Vl) (k : List D → Option (Vl × List D)) (s : S) : upC x k s = match x with
  | .c j => match s.ce[j]? with
    | some (.l xs) => match k xs with
      | some (y, ys) => .ok y { s with ce := s.ce.set j (.l ys) }
      | none => .no
    | _ => .no
  | _ => .no := id rfl
theorem x_fApp (s : S) : fApp fo fa s = bnd fo (fun x => bnd (needL x) fun _ => bnd fa fun y => bnd (frz y) fun d => upC x fun xs => if xs.length < 1000000 then some (.d .none, xs ++ [d]) else none) s := id rfl
theorem x_fPopAt (s : S) : fPopAt fo fi s = bnd fo (fun x => bnd (needL x) fun _ => bnd fi fun i => match i with
  | .d (.int i) => upC x fun xs => if -1000000000 ≤ i ∧ i ≤ 1000000000 then (match seqIndex? i xs.length with
      | some k => (xs[k]?).map fun d => (.d d, xs.eraseIdx k)
      | none => none) else none
  | _ => stuck) s := id rfl
theorem x_fPop (s : S) : fPop fo s = bnd fo (fun x => bnd (needL x) fun _ => upC x fun xs => match xs.getLast? with
  | some d => some (.d d, xs.dropLast)
  | none => none) s := id rfl
theorem x_fSl (o : Vl → Option Int → Option Int → S → Option α) (pl ph : M (Option Int)) (s : S) : fSl o f pl ph s = bnd f (fun x => bnd pl fun lo => bnd ph fun hi => gets (o x lo hi)) s := id rfl
theorem x_fNoP (s : S) : fNoP s = .ok none s := id rfl
theorem x_fP (s : S) : fP f s = bnd f (fun x => match x with
  | .d (.int i) => DL.ret (some i)
  | _ => stuck) s := id rfl
theorem x_fDef (g : FD) (s : S) : fDef g fA s = bnd fA (callD g) s := id rfl
theorem x_callD (g : FD) (xs : List Vl) (s : S) : callD g xs s = if (cellsOf xs).Nodup then (match picks s.ce (cellsOf xs) with
  | none => .no
  | some cs => match g (xs.map (renum (cellsOf xs))) cs with
    | .no => .no
    | .ex e cs' => .ex e { s with ce := putB s.ce (cellsOf xs) (cs'.map kl) }
    | .ok (.d x) cs' => .ok (.d x) { s with ce := putB s.ce (cellsOf xs) (cs'.map kl) }
    | .ok (.c k) cs' => if k = cs.length then (match cs'[k]? with
        | some (.l ys) => .ok (.c s.ce.length) { s with ce := putB s.ce (cellsOf xs) (cs'.map kl) ++ [.l ys] }
        | some (.m ys) => .ok (.c s.ce.length) { s with ce := putB s.ce (cellsOf xs) (cs'.map kl) ++ [.m ys] }
        | _ => .no) else if k = cs.length + 1 then callT s (cellsOf xs) cs.length cs' else .no) else .no := id rfl
theorem x_fPerm (is : List Nat) (s : S) : fPerm is fA s = bnd fA (fun xs => DL.ret (permL is xs)) s := id rfl
theorem x_fIsi (n : String) (s : S) : fIsi n f s = bnd f (fun x => gets fun s => match tyVl s x with
  | some t => match kitB t n with
    | some b => some (.d (.bool b))
    | none => none
  | none => none) s := id rfl
theorem x_fNeg (s : S) : fNeg f s = bnd f (fun x => match x with
  | .d (.int i) => DL.ret (.d (.int (-i)))
  | _ => stuck) s := id rfl
theorem x_asL (xs : List D) (s : S) : asL (.list xs) s = .ok xs s := id rfl
theorem x_asLt (xs : List D) (s : S) : asL (.tuple xs) s = .no := id rfl
theorem x_asT (xs : List D) (s : S) : asT (.tuple xs) s = .ok xs s := id rfl
theorem x_fItL (s : S) : fItL f s = bnd f (fun x => bnd (frz x) asL) s := id rfl
theorem x_fItT (s : S) : fItT f s = bnd f (fun x => bnd (frz x) asT) s := id rfl
theorem x_orI (p q : M α) (s : S) : orI p q s = match p s with
  | .no => q s
  | r => r := id rfl
theorem x_fRng1 (s : S) : fRng1 fA s = bnd fA (fun vs => match vs with
  | [.d (.int j)] => if -1000000000 ≤ j ∧ j ≤ 1000000000 then DL.ret (rng 0 j.toNat) else stuck
  | _ => stuck) s := id rfl
theorem x_fRng2 (s : S) : fRng2 fA s = bnd fA (fun vs => match vs with
  | [.d (.int i), .d (.int j)] => if (-1000000000 ≤ i ∧ i ≤ 1000000000) ∧ (-1000000000 ≤ j ∧ j ≤ 1000000000) then DL.ret (rng i (j - i).toNat) else stuck
  | _ => stuck) s := id rfl
theorem x_fEnum (s : S) : fEnum fA s = bnd fA (fun vs => match vs with
  | [x] => bnd (frz x) fun d => bnd (asL d) fun xs => DL.ret (enumD 0 xs)
  | _ => stuck) s := id rfl
theorem x_fZip (s : S) : fZip fA s = bnd fA (fun vs => match vs with
  | [x, y] => bnd (frz x) fun d => bnd (asL d) fun xs => bnd (frz y) fun e => bnd (asL e) fun ys => DL.ret (zipD xs ys)
  | _ => stuck) s := id rfl
theorem x_fFor (fi : M (List D)) (k : Vl → M Unit) (b : M Fl) (s : S) : fFor fi k b s = bnd fi (fun xs => forL k b xs) s := id rfl
theorem x_forL0 (k : Vl → M Unit) (b : M Fl) (s : S) : forL k b [] s = .ok .nx s := id rfl
theorem x_fAug (i : Nat) (o : O2 Vl) (s : S) : fAug i o f s = bnd (fVar i) (fun x => bnd f fun y => bnd (gets (o x y)) fun z => bnd (kName i z) fun _ => DL.ret .nx) s := id rfl
theorem x_fYes (s : S) : fYes s = .ok true s := id rfl
theorem x_lcT (k : Vl → M Unit) (t : M Bool) (e : M Vl) (x : D) (s : S) : lcT k t e x s = bnd (k (.d x)) (fun _ => bnd t fun b => if b = true then bnd (fFrz e) (fun v => match v with
  | .d d => DL.ret (some d)
  | .c _ => stuck) else DL.ret none) s := id rfl
theorem x_fRstT (m : M α) (s : S) : fRstT m s = match m s with
  | .ok a s' => .ok a (rst s s')
  | .ex e s' => .ex e s'
  | .no => .no := id rfl
theorem x_fRstV (s : S) : fRstV f s = match f s with
  | .ok (.d x) s' => if flat x = true then .ok (.d x) (rst s s') else .ok (.d x) s'
  | r => r := id rfl
theorem x_ite {p : Prop} [Decidable p] (m n : M α) (s : S) : (if p then m else n) s = if p then m s else n s := by split <;> rfl
end
end DL

end DLsec_18

section DLsec_19
set_option maxRecDepth 100000
/-! exceptions of own classes: raised, kept, read -/
namespace DL
open PySem PySem.Spec PyProof.Rows L2

/-! ### an object that is known is told of -/
section
variable {X : Cx} {pins : List (Addr × Obj)} {σ : St} {G : Hp} {s : Shared} {a : Addr} {ob : Obj} {cls : Value} {d : Option Addr}
theorem exK_dct {e : Addr} {kvs : List (Key × V)} (z : exK e cls d = .dK kvs) : False := by
  have z' : HO.ext _ = HO.dK kvs := z
  cases z'
theorem exK_ok {P : Program} {w : World} {h : Heap} {vs : Array Value} (ha : h.get? a = some ob) (h1 : ob.cls = cls) (h2 : ob.dict = d) (h3 : ob.data = .fields vs) : ObjOk P w G h a (exK a cls d) :=
  ⟨⟨ob, vs, ha, h1, h2, h3⟩, ⟨_, ha⟩, fun p q z k => by
    obtain ⟨o, us, z1, z2⟩ := z
    exact ⟨o, us, k _ z1, z2⟩⟩
theorem exK_at {P : Program} {w : World} {h : Heap} (hok : HOk P w G h) (ha : G a = some (exK a cls d)) : ∃ (o : Obj) (vs : Array Value), h.get? a = some o ∧ o.cls = cls ∧ o.dict = d ∧ o.data = .fields vs := by
  have x : ObjOk P w G h a (.ext fun h => ∃ (o : Obj) (vs : Array Value), h.get? a = some o ∧ o.cls = cls ∧ o.dict = d ∧ o.data = .fields vs) := hok a _ ha
  exact x.1
theorem _root_.L2.Inv.keepX {vs : Array Value} (I : Inv X pins σ G s) (n0 : X.s_0.heap.get? a = none) (na : G a = none) (nL : a ≠ X.env.locals) (ha : s.heap.get? a = some ob) (h1 : ob.cls = cls) (h2 : ob.dict = d) (h3 : ob.data = .fields vs) (np : ∀ p ∈ X.pn ++ pins, p.1 ≠ a) : Inv X pins σ (upd G a (exK a cls d)) s := by
  have nn : ∀ {c : Addr} {o : HO}, G c = some o → c ≠ a := fun {c o} hc z => by rw [z, na] at hc; cases hc
  refine ⟨I.ok, I.os, I.bare, ⟨I.base.keep, I.base.slot, fun b o q n hx => ?_, I.base.there, fun b xs q => ?_, fun b o u q => ?_, fun b ps q => ?_⟩, I.loc, I.cell, ?_, fun y c e => ?_, fun p hp => ?_, fun b o q => ?_, I.len⟩
  · rw [upd_ne (fun z => by rw [z, n0] at q; cases q)]
    exact I.base.free b o q n hx
  · rw [upd_ne (nn (I.base.tups b xs q))]
    exact I.base.tups b xs q
  · rw [upd_ne (nn (I.base.frzs b o u q))]
    exact I.base.frzs b o u q
  · obtain ⟨m, e⟩ := I.base.tbls b ps q
    exact ⟨m, by rw [upd_ne (nn e)]; exact e⟩
  · rw [upd_ne (Ne.symm nL)]
    exact I.free
  · refine (upd_ne fun z => ?_).trans (I.freeC y c e)
    obtain ⟨v, o, q1, q2⟩ := I.cell y c e
    rw [z, ha] at q1
    cases q1
    rw [h3] at q2
    cases q2
  · obtain ⟨z1, z2, z3⟩ := I.pin p hp
    exact ⟨z1, by rw [upd_ne (np p hp)]; exact z2, z3⟩
  · by_cases hb : b = a
    · subst hb
      rw [upd_same] at q
      cases q
      exact exK_ok ha h1 h2 h3
    · rw [upd_ne hb] at q
      exact (I.hok b o q).stay (fun c v _ z => z) (fun c hc => by rw [upd_ne (nn hc)]; exact hc) (fun c xs hc => by rw [upd_ne (nn hc)]; exact hc)
end
/-! ### try: .. except C as n: m = n -/
/-- what the clause wishes: the exception stands in m's slot j, and is told of -/
def wKp (K : PySem.W.Frag) (f : Value → Option Bool) (i j : Nat) (Wout : WX) (Dn : Ends) : WX := fun cls d σ G =>
  ∃ b, f cls = some b ∧ (b = true → ∀ a, G a = none → Dn.nx ((((σ.set i (some (.ref a))).set j (some (.ref a)))).set i none) (upd G a (exK a cls d))) ∧ (b = false → Wout cls d σ G)
section
variable {X : Cx} {te : Expr} {n m : Str} {f : Value → Option Bool} {i j : Nat} {body : List Stmt} {mp np2 ap pos pos' : Pos} {tb : WX → TS} {Wout : WX}
end
end DL

end DLsec_19

section DLsec_20
set_option maxRecDepth 100000
/-! exceptions: the data side -/
namespace DL
open PySem PySem.Spec PyProof.Rows L2

section
variable {mg : Str → Option Value} {W : WX} {B : Bd mg} {σ : St} {H Hi : Hp} {as : List Addr} {s : S}
/-- a slot is emptied -/
theorem Rep.clear (r : Rep B σ H Hi as s) {i : Nat} : Rep B (σ.set i none) H Hi as { s with sl := s.sl.set i none } := by
  refine ⟨r.sub, r.lkd, r.fr, r.hin, r.new, by simp [r.len], fun k y e => ?_, r.lea, r.cel, r.inj⟩
  by_cases z : k = i
  · subst z
    have hk : k < s.sl.length := by
      have := lt_of_get e
      simpa using this
    rw [List.getElem?_set_self hk] at e
    cases e
  · rw [List.getElem?_set_ne (Ne.symm z)] at e ⊢
    exact r.slo k y e
/-- a cell that is never changed -/
theorem Rep.addX (r : Rep B σ H Hi as s) {p : Addr} {c : Ce} (hc : c.alive = false) (hr : RelCe mg H Hi (as ++ [p]) p c) : Rep B σ H Hi (as ++ [p]) { s with ce := s.ce ++ [c] } := by
  have look : ∀ j a c', (as ++ [p])[j]? = some a → (s.ce ++ [c])[j]? = some c' → (as[j]? = some a ∧ s.ce[j]? = some c') ∨ (a = p ∧ c' = c) := fun j a c' e1 e2 => by
    by_cases hj : j < as.length
    · rw [List.getElem?_append_left hj] at e1
      rw [List.getElem?_append_left (by rw [← r.lea]; exact hj)] at e2
      exact .inl ⟨e1, e2⟩
    · rw [List.getElem?_append_right (by omega)] at e1
      rw [List.getElem?_append_right (by rw [← r.lea]; omega), ← r.lea] at e2
      have hz : j - as.length = 0 := by
        cases hh : j - as.length with
        | zero => rfl
        | succ n => rw [hh] at e1; simp at e1
      rw [hz] at e1 e2
      simp at e1 e2
      exact .inr ⟨e1.symm, e2.symm⟩
  refine ⟨r.sub, r.lkd, r.fr, r.hin, fun j a c' e1 e2 al => ?_, r.len, fun i x e => ?_, by simp [r.lea], fun j a c' e1 e2 => ?_, fun i j a c1 c2 e1 e2 e3 e4 a1 a2 => ?_⟩
  · rcases look j a c' e1 e2 with ⟨q1, q2⟩ | ⟨_, rfl⟩
    · exact r.new j a c' q1 q2 al
    · rw [hc] at al; cases al
  · obtain ⟨v, a, b⟩ := r.slo i x e
    exact ⟨v, a, b.mono (Same.refl _) (List.prefix_append _ _)⟩
  · rcases look j a c' e1 e2 with ⟨q1, q2⟩ | ⟨rfl, rfl⟩
    · exact (r.cel j a c' q1 q2).mono (Same.refl _) (List.prefix_append _ _) (fun _ => rfl) fun _ => rfl
    · exact hr
  · rcases look i a c1 e1 e3 with ⟨q1, q3⟩ | ⟨_, rfl⟩
    · rcases look j a c2 e2 e4 with ⟨q2, q4⟩ | ⟨_, rfl⟩
      · exact r.inj i j a c1 c2 q1 q2 q3 q4 a1 a2
      · rw [hc] at a2; cases a2
    · rw [hc] at a1; cases a1
def fTry (cs : Str → Option Bool) (i j : Nat) (f : M Fl) : M Fl := fun s => match f s with
  | .ex e s' => (match cs e.cls with
    | some true => .ok .nx ⟨((s'.sl.set i (some (.c s'.ce.length))).set j (some (.c s'.ce.length))).set i none, s'.ce ++ [.x e]⟩
    | some false => .ex e s'
    | none => .no)
  | r => r
theorem ss_try {K : PySem.W.Frag} {f : Value → Option Bool} {cs : Str → Option Bool} {i j : Nat} {tb : WX → TS} {fb : M Fl} (hm : ∀ nm b cls, cs nm = some b → mg nm = some cls → f cls = some b) (hb : ∀ W' : WX, SS mg W' (tb W') fb) :
    SS mg W (fun Dn σ G => tb (wKp K f i j W Dn) Dn σ G) (fTry cs i j fb) := fun B σ H Hi as s Dn rp w => by
  refine hb (wKp K f i j W Dn) B σ H Hi as s Dn rp ?_
  unfold fTry at w
  cases e : fb s with
  | no => rw [e] at w; exact w
  | ok fl s' => rw [e] at w; exact w
  | ex x s' =>
    rw [e] at w
    simp only at w
    intro σ' H' Hi' as' r' e' p' cls d hx
    cases h1 : cs x.cls with
    | none => rw [h1] at w; exact w.elim
    | some b =>
      rw [h1] at w
      cases b with
      | false => exact ⟨false, hm _ _ _ h1 hx.1, fun z => Bool.noConfusion z, fun _ => w σ' H' Hi' as' r' e' p' cls d hx⟩
      | true =>
        refine ⟨true, hm _ _ _ h1 hx.1, fun _ a na => ?_, fun z => Bool.noConfusion z⟩
        have r1 := r'.addI (o := exK a cls d) na
        have sm : Same Hi' (upd Hi' a (exK a cls d)) := same_new (r'.fresh na)
        have r2 := r1.addX (p := a) (c := .x x) rfl ⟨cls, d, upd_same, hx.mono sm⟩
        have hv : RelVl (upd Hi' a (exK a cls d)) (as' ++ [a]) (.ref a) (.c s'.ce.length) := .c (by rw [← r'.lea, List.getElem?_append_right (Nat.le_refl _), Nat.sub_self]; rfl)
        exact w _ _ _ _ (((r2.bind (i := i) hv).bind (i := j) hv).clear (i := i)) (e'.trans sm) (p'.trans (List.prefix_append _ _))
/-! raise C(e) -/
def spI (K : PySem.W.Frag) (f : Str) : Sp := fun vs G Q _ => ∃ (a C : Addr) (y : V), vs = [.ref a, y] ∧ OexC K C ∧ PySem.W.findIn K (.ref C) f = some none ∧ G a = some (exo a C none) ∧
  ∀ dx, G dx = none → dx ≠ a → Q .non (upd (upd G dx (exd dx [(f, y)])) a (exo a C (some dx)))
theorem init_rd {K : PySem.W.Frag} {f : Str} {N : List Str} {vs : List V} {G : Hp} {Q : VK} {E : XK} (h : spI K f vs G Q E) : tOst K f (tVar 0) (tVar 1) { nx := fun _ G' => Q .non G', rt := Q } (L2.start N vs) G := by
  obtain ⟨a, C, y, rfl, T, nf, ha, q⟩ := h
  exact ⟨y, rfl, .ref a, rfl, a, C, rfl, T, nf, .inl ⟨ha, q⟩⟩
theorem spI_len {K : PySem.W.Frag} {f : Str} {vs : List V} {G : Hp} {Q : VK} {E : XK} (h : spI K f vs G Q E) : vs.length = 2 := by
  obtain ⟨a, C, y, rfl, _⟩ := h
  rfl
def fRaise (c f : Str) (fa : M Vl) : M Fl := bnd fa fun x => bnd (frz x) fun y => fun s => .ex ⟨c, some (f, y)⟩ s
def tRaise (K : PySem.W.Frag) (W : WX) (C : Addr) (f : Str) (ta : TE) : TS := fun _ σ G => tMkO C (spI K f) [] (tCons ta tNil) σ G fun cls d G' => W cls d σ G'
theorem ss_raise {K : PySem.W.Frag} {c f : Str} {C : Addr} {ta : TE} {fa : M Vl} (hc : mg c = some (.ref C)) (T : OexC K C) (nf : PySem.W.findIn K (.ref C) f = some none) (h : SE mg W ta fa) : SS mg W (tRaise K W C f ta) (fRaise c f fa) := fun B σ H Hi as s Dn rp w => by
  unfold tRaise tMkO tCons tNil
  refine h B σ H Hi as s _ rp (wp_mono (wp_bnd w) (fun x s1 w1 => ?_) fun _ _ z => z σ)
  intro H1 Hi1 as1 r1 e1 p1 v hv
  obtain ⟨y, s2, Hi2, w2, r2, sm, dq⟩ := r1.frz hv (wp_bnd w1)
  refine ⟨by simp, fun a na => ⟨a, C, v, rfl, T, nf, upd_same, fun dx hd ne => ?_⟩⟩
  have hdx : H1 dx = none := by rw [upd_ne ne] at hd; exact hd
  have nda : a ≠ dx := Ne.symm ne
  refine ⟨rfl, dx, [(f, v)], upd_same, by rw [upd_ne ne, upd_same], hdx, ?_⟩
  have eH : upd (del (upd (upd (upd H1 a (exo a C none)) dx (exd dx [(f, v)])) a (exo a C (some dx))) a) dx (.xd [(f, v)]) = upd H1 dx (.xd [(f, v)]) := by
    funext b
    by_cases hb : b = dx
    · subst hb; rw [upd_same, upd_same]
    · rw [upd_ne hb, upd_ne hb]
      by_cases ha : b = a
      · subst ha; rw [del_same, na]
      · rw [del_ne ha, upd_ne ha, upd_ne hb, upd_ne ha]
  rw [eH]
  have r3 := r2.addI (o := .xd [(f, v)]) hdx
  have sm2 : Same Hi2 (upd Hi2 dx (.xd [(f, v)])) := same_new (r2.fresh hdx)
  exact w2 σ _ _ _ r3 ((e1.trans sm).trans sm2) p1 (.ref C) (some dx) ⟨hc, dx, v, rfl, upd_same, dq.mono sm2⟩
end
/-! ### what an exception's class says -/
structure ExA (K : PySem.W.Frag) (C : Addr) : Prop where
  ga : PySem.W.findIn K (.ref C) "__getattribute__" = some (some (.builtin "BaseException.__getattribute__"))
  gg : PySem.W.findIn K (.ref C) "__getattr__" = some none
  ex : PySem.W.subIn K (.ref C) (.type "BaseException") = some true
  hd : PySem.W.hasDictIn K C = true
  ty : PySem.W.typeIn K (.ref C) = some (.type "type")
  ic : PySem.W.isClsIn K C = true
  ca : PySem.W.findIn K (.ref C) "__class__" = some (some (.builtin "object.__class__"))
  sp : PySem.W.specialIn K (.builtin "object.__class__") "__get__" = some (some (.builtin "getset_descriptor.__get__"))
  tk : PySem.W.takesIn K (.builtin "object.__class__") = some true
  mo : PySem.W.mroIn K C (.type "object") = some true
/-- e.f -/
def tAtX (K : PySem.W.Frag) (f : Str) (te : TE) : TE := fun σ G Q => te σ G fun x G1 => ∃ (a D dd : Addr) (v : V), x = .ref a ∧ G1 a = some (exK a (.ref D) (some dd)) ∧ G1 dd = some (.xd [(f, v)]) ∧ ExA K D ∧ PySem.W.findIn K (.ref D) f = some none ∧ Q v G1
theorem lookup_one (f : Str) (v : V) : List.lookup f [(f, v)] = some v := by simp [List.lookup]
theorem pe_atX {X : Cx} {e : Expr} {te : TE} {f : Str} {pos : Pos} (he : PE X e te) (hb : attributeBase e f X.env (eval e X.env) = eval e X.env := by rfl) : PE X (.Attribute e f pos) (tAtX X.K f te) := by
  refine ⟨fun pins s σ G Q I h => attr_of hb (thn (he.run pins s σ G _ I h) fun u s1 z => ?_)⟩
  obtain ⟨x, G1, I1, rx, a, D, dd, v, rfl, ha, hd, T, nf, q⟩ := z
  cases (show u = Value.ref a from rx)
  obtain ⟨o, vs, g1, g2, g3, g4⟩ := exK_at I1.hok ha
  obtain ⟨mA, hns, hr⟩ := (show ObjOk X.prog X.w G1 s1.heap dd (.xd [(f, v)]) from I1.hok dd _ hd)
  obtain ⟨od, ho, hl⟩ := lookIn_ns hns
  have hf := hr f
  rw [lookup_one] at hf
  obtain ⟨u, hu, ru⟩ := RelO.some_of (v := v) (o := mA f) hf
  have J : PySem.W.InstAt s1.heap a o D (some od) := ⟨g1, g2, by unfold PySem.W.notCls; rw [g4] <;> rfl, by rw [g3]; exact ho⟩
  exact HandSPX.exc_get I1.kIn J T.ga T.gg T.ex (PySem.W.findObj_own T.hd nf rfl (by rw [hl, hu])) (handed_of ru) ⟨v, G1, I1.tok _, ru, q⟩
/-- isinstance(x, c): x data, or an exception that is kept -/
def TyE (K : PySem.W.Frag) (G : Hp) (x : V) (t : Value) : Prop := ∃ (a D dd : Addr) (fs : List (Str × V)), x = .ref a ∧ t = .ref D ∧ G a = some (exK a (.ref D) (some dd)) ∧ G dd = some (.xd fs) ∧ ExA K D
def rIsE2 (K : PySem.W.Frag) : RC := fun xs G Q => ∃ (x c : V) (t u : Value) (b : Bool), xs = [x, c] ∧ ClsV c u ∧ (TyX K G x t ∨ TyE K G x t) ∧ PySem.W.kitOne K t u = some b ∧ Q (.bl b) G
theorem call_isE2 {X : Cx} : CallR X (.builtin "isinstance") (rIsE2 X.K) := by
  intro pins s σ G xs us Q I r h
  obtain ⟨x, c, t, u, b, rfl, k, ty | ty, e, q⟩ := h
  · exact call_isi pins s σ G _ us Q I r ⟨x, c, t, u, b, rfl, k, ty, e, q⟩
  · obtain ⟨u1, u2, rfl, r1, r2⟩ := vals2 r
    have e2 := k.eq r2
    subst e2
    obtain ⟨a, D, dd, fs, rfl, rfl, ha, hd, T⟩ := ty
    cases (show u1 = Value.ref a from r1)
    obtain ⟨o, vs, g1, g2, g3, g4⟩ := exK_at I.hok ha
    obtain ⟨mA, hns, hr⟩ := (show ObjOk X.prog X.w G s.heap dd (.xd fs) from I.hok dd _ hd)
    obtain ⟨od, ho, hl⟩ := lookIn_ns hns
    have J : PySem.W.InstAt s.heap a o D (some od) := ⟨g1, g2, by unfold PySem.W.notCls; rw [g4] <;> rfl, by rw [g3]; exact ho⟩
    exact PySem.W.kia_one (PySem.W.kitx_exc (show (PySem.W.clsIn X.K D).isSome = true from T.ic) T.ga T.gg T.ex T.ca T.sp T.tk T.mo) I.kIn J e (fun z => nomatch z) fun tk => ⟨.bl b, G, I.tok tk, rfl, q⟩
theorem isE2K {X : Cx} {K : PySem.W.Frag} (hK : X.K = K := by rfl) : CallR X (.builtin "isinstance") (rIsE2 K) := hK ▸ call_isE2
theorem atXK {X : Cx} {K : PySem.W.Frag} {e : Expr} {te : TE} {f : Str} {pos : Pos} (he : PE X e te) (hK : X.K = K := by rfl) (hb : attributeBase e f X.env (eval e X.env) = eval e X.env := by rfl) : PE X (.Attribute e f pos) (tAtX K f te) := hK ▸ pe_atX he hb
/-- by names -/
inductive TyNm where
  | b (n : String)
  | o (n : Str)
def tyE (s : S) : Vl → Option TyNm
  | .c j => (match s.ce[j]? with
    | some (.x e) => (match e.arg with
      | some _ => some (.o e.cls)
      | none => none)
    | _ => (tyVl s (.c j)).map .b)
  | x => (tyVl s x).map .b
def fIsE (ans : TyNm → Option Bool) (f : M Vl) : M Vl := bnd f fun x => gets fun s => match tyE s x with
  | some t => match ans t with
    | some b => some (.d (.bool b))
    | none => none
  | none => none
def fAtX (f : Str) (nms : List Str) (fa : M Vl) : M Vl := bnd fa fun x => gets fun s => match x with
  | .c j => match s.ce[j]? with
    | some (.x e) => match e.arg with
      | some (g, y) => if g = f ∧ e.cls ∈ nms then some (.d y) else none
      | none => none
    | _ => none
  | _ => none
section
variable {mg : Str → Option Value} {W : WX}
theorem se_atX {K : PySem.W.Frag} {f : Str} {nms : List Str} {ta : TE} {fa : M Vl} (hn : ∀ nm ∈ nms, ∃ D, mg nm = some (.ref D) ∧ ExA K D ∧ PySem.W.findIn K (.ref D) f = some none) (h : SE mg W ta fa) : SE mg W (tAtX K f ta) (fAtX f nms fa) := fun B σ H Hi as s Q rp w => by
  refine h B σ H Hi as s _ rp (wp_mono (wp_bnd w) (fun x s1 w1 => ?_) fun _ _ z => z)
  intro H1 Hi1 as1 r1 e1 p1 v hv
  obtain ⟨z, q, w2⟩ := wp_gets w1
  cases hv with
  | d _ => cases q
  | @c a j ha =>
    simp only at q
    cases hc : s1.ce[j]? with
    | none => rw [hc] at q; cases q
    | some c =>
      rw [hc] at q
      cases c with
      | x e =>
        obtain ⟨cn, arg⟩ := e
        cases arg with
        | none => cases q
        | some p =>
          obtain ⟨g, y⟩ := p
          simp only at q
          split at q
          · rename_i hg
            obtain ⟨rfl, hm⟩ := hg
            cases q
            obtain ⟨cls, d, k1, k2, da, v', rfl, k4, k5⟩ := r1.cel j a _ ha hc
            obtain ⟨D, m1, m2, m3⟩ := hn _ hm
            have k2' : mg cn = some cls := k2
            rw [m1] at k2'
            cases k2'
            refine ⟨a, D, da, v', rfl, ?_, ?_, m2, m3, w2 H1 Hi1 as1 r1 e1 p1 _ (.d k5)⟩
            · exact (r1.sub _ _ k1).of_notin fun z => by obtain ⟨kv, q⟩ := r1.lkd _ z; rw [k1] at q; exact exK_dct (Option.some.inj q)
            · exact (r1.sub _ _ k4).of_notin fun z => by obtain ⟨kv, q⟩ := r1.lkd _ z; rw [k4] at q; cases q
          · cases q
      | _ => cases q
theorem se_isE {K : PySem.W.Frag} {ans : TyNm → Option Bool} {c : V} {cv : Value} {ta : TE} {fa : M Vl} (hc : ClsV c cv) (hb : ∀ n b, ans (.b n) = some b → PySem.W.kitOne K (.type n) cv = some b)
    (ho : ∀ nm b, ans (.o nm) = some b → ∃ D, mg nm = some (.ref D) ∧ ExA K D ∧ PySem.W.kitOne K (.ref D) cv = some b) (h : SE mg W ta fa) : SE mg W (tCB (rIsE2 K) (tCons ta (tCons (tC c) tNil))) (fIsE ans fa) := fun B σ H Hi as s Q rp w => by
  refine h B σ H Hi as s _ rp (wp_mono (wp_bnd w) (fun x s1 w1 => ?_) fun _ _ z => z)
  intro H1 Hi1 as1 r1 e1 p1 v hv
  obtain ⟨z, q, w2⟩ := wp_gets w1
  cases h1 : tyE s1 x with
  | none => rw [h1] at q; cases q
  | some t =>
    rw [h1] at q
    simp only at q
    cases h2 : ans t with
    | none => rw [h2] at q; cases q
    | some b =>
      rw [h2] at q
      cases q
      have bas : ∀ n, tyVl s1 x = some n → t = .b n → rIsE2 K [v, c] H1 Q := fun n hn ht => by
        subst ht
        exact ⟨v, c, .type n, cv, b, rfl, hc, .inl (r1.ty (.inr fun _ _ => trivial) hv hn), hb n b h2, w2 H1 Hi1 as1 r1 e1 p1 _ (.d (.bl b))⟩
      have viaB : (tyVl s1 x).map TyNm.b = some t → rIsE2 K [v, c] H1 Q := fun hh => by
        cases h3 : tyVl s1 x with
        | none => rw [h3] at hh; cases hh
        | some n => rw [h3] at hh; exact bas n h3 (Option.some.inj hh).symm
      cases x with
      | d y => exact viaB h1
      | c j =>
        simp only [tyE] at h1
        cases h4 : s1.ce[j]? with
        | none => rw [h4] at h1; exact viaB h1
        | some ce =>
          rw [h4] at h1
          cases ce with
          | x e =>
            obtain ⟨cn, arg⟩ := e
            cases arg with
            | none => cases h1
            | some p =>
              obtain ⟨g, y⟩ := p
              cases h1
              cases hv with
              | @c a _ ha =>
                obtain ⟨cls, d, k1, k2, da, v', rfl, k4, k5⟩ := r1.cel j a _ ha h4
                obtain ⟨D, m1, m2, m3⟩ := ho _ _ h2
                have k2' : mg cn = some cls := k2
                rw [m1] at k2'
                cases k2'
                refine ⟨.ref a, c, .ref D, cv, b, rfl, hc, .inr ⟨a, D, da, [(g, v')], rfl, rfl, ?_, ?_, m2⟩, m3, w2 H1 Hi1 as1 r1 e1 p1 _ (.d (.bl b))⟩
                · exact (r1.sub _ _ k1).of_notin fun z => by obtain ⟨kv, q⟩ := r1.lkd _ z; rw [k1] at q; exact exK_dct (Option.some.inj q)
                · exact (r1.sub _ _ k4).of_notin fun z => by obtain ⟨kv, q⟩ := r1.lkd _ z; rw [k4] at q; cases q
          | l _ => exact viaB h1
          | f _ => exact viaB h1
          | m _ => exact viaB h1
          | g => exact viaB h1
          | v _ => exact viaB h1
          | w _ => exact viaB h1
          | t _ => exact viaB h1
          | tb _ _ => exact viaB h1
          | fn _ _ _ _ _ => exact viaB h1
          | y _ => exact viaB h1
          | yf _ => exact viaB h1
          | o _ _ => exact viaB h1
          | fv _ _ _ _ _ => exact viaB h1
          | th _ => exact viaB h1
          | tl _ => exact viaB h1
end
end DL

end DLsec_20

section DLsec_21
set_option maxRecDepth 100000
/-! exceptions: what the generator leans on -/
namespace DL
open PySem PySem.Spec PyProof.Rows L2
def csL (l : List (Str × Bool)) : Str → Option Bool := fun nm => l.lookup nm
def Cs (mg : Str → Option Value) (f : Value → Option Bool) (l : List (Str × Bool)) : Prop := ∀ nm b cls, csL l nm = some b → mg nm = some cls → f cls = some b
theorem cs_nil {mg : Str → Option Value} {f : Value → Option Bool} : Cs mg f [] := fun nm b cls h => by cases h
theorem cs_cons {mg : Str → Option Value} {f : Value → Option Bool} {l : List (Str × Bool)} {n : Str} {b : Bool} {c : Value} (hm : mg n = some c) (he : f c = some b) (r : Cs mg f l) : Cs mg f ((n, b) :: l) := fun nm b' cls h hc => by
  unfold csL at h
  by_cases e : nm = n
  · subst e
    simp [List.lookup] at h
    subst h
    rw [hm] at hc
    cases hc
    exact he
  · have e' : (nm == n) = false := by simpa using e
    simp only [List.lookup, e'] at h
    exact r nm b' cls h hc
theorem csL_self (n : Str) (b : Bool) (l : List (Str × Bool)) : csL ((n, b) :: l) n = some b := by simp [csL, List.lookup]
theorem csL_skip {n m : Str} (b : Bool) (l : List (Str × Bool)) (h : (n == m) = false) : csL ((m, b) :: l) n = csL l n := by simp only [csL, List.lookup, h]
def ansL (bs : List (String × Bool)) (os : List (Str × Bool)) : TyNm → Option Bool
  | .b n => bs.lookup n
  | .o n => csL os n
def AnB (K : PySem.W.Frag) (cv : Value) (bs : List (String × Bool)) : Prop := ∀ n b, bs.lookup n = some b → PySem.W.kitOne K (.type n) cv = some b
theorem anb_nil {K : PySem.W.Frag} {cv : Value} : AnB K cv [] := fun _ _ h => by cases h
theorem anb_cons {K : PySem.W.Frag} {cv : Value} {l : List (String × Bool)} {n : String} {b : Bool} (h : PySem.W.kitOne K (.type n) cv = some b) (r : AnB K cv l) : AnB K cv ((n, b) :: l) := fun nm b' q => by
  by_cases e : nm = n
  · subst e
    simp [List.lookup] at q
    subst q
    exact h
  · have e' : (nm == n) = false := by simpa using e
    simp only [List.lookup, e'] at q
    exact r nm b' q
def AnO (K : PySem.W.Frag) (mg : Str → Option Value) (cv : Value) (os : List (Str × Bool)) : Prop := ∀ nm b, csL os nm = some b → ∃ D, mg nm = some (.ref D) ∧ ExA K D ∧ PySem.W.kitOne K (.ref D) cv = some b
theorem ano_nil {K : PySem.W.Frag} {mg : Str → Option Value} {cv : Value} : AnO K mg cv [] := fun _ _ h => by cases h
theorem ano_cons {K : PySem.W.Frag} {mg : Str → Option Value} {cv : Value} {l : List (Str × Bool)} {n : Str} {b : Bool} {D : Addr} (hm : mg n = some (.ref D)) (T : ExA K D) (h : PySem.W.kitOne K (.ref D) cv = some b) (r : AnO K mg cv l) : AnO K mg cv ((n, b) :: l) := fun nm b' q => by
  by_cases e : nm = n
  · subst e
    rw [csL_self] at q
    cases q
    exact ⟨D, hm, T, h⟩
  · rw [csL_skip b l (by simpa using e)] at q
    exact r nm b' q
theorem se_isX {mg : Str → Option Value} {W : WX} {K : PySem.W.Frag} {bs : List (String × Bool)} {os : List (Str × Bool)} {c : V} {cv : Value} {ta : TE} {fa : M Vl} (hc : ClsV c cv) (hb : AnB K cv bs) (ho : AnO K mg cv os) (h : SE mg W ta fa) :
    SE mg W (tCB (rIsE2 K) (tCons ta (tCons (tC c) tNil))) (fIsE (ansL bs os) fa) := se_isE hc (fun n b q => hb n b q) (fun n b q => ho n b q) h
/-- an exception class of the text with one field -/
structure OwnEx (K : PySem.W.Frag) (mg : Str → Option Value) (nm f q : Str) (st : Stmt) where
  C : Addr
  fI : Addr
  fd : FuncData
  m : mg nm = some (.ref C)
  oc : OexC K C
  nf : PySem.W.findIn K (.ref C) f = some none
  iC : PySem.W.findIn K (.ref C) "__init__" = some (some (.ref fI))
  tI : PySem.W.typeIn K (.ref fI) = some (.type "function")
  F : Fun K "__init__" q st fI fd
  xa : ExA K C
theorem atN_nil {K : PySem.W.Frag} {mg : Str → Option Value} {f : Str} : ∀ nm ∈ ([] : List Str), ∃ D, mg nm = some (.ref D) ∧ ExA K D ∧ PySem.W.findIn K (.ref D) f = some none := fun nm h => by cases h
theorem atN_cons {K : PySem.W.Frag} {mg : Str → Option Value} {f n q : Str} {st : Stmt} {l : List Str} (O : OwnEx K mg n f q st) (r : ∀ nm ∈ l, ∃ D, mg nm = some (.ref D) ∧ ExA K D ∧ PySem.W.findIn K (.ref D) f = some none) :
    ∀ nm ∈ n :: l, ∃ D, mg nm = some (.ref D) ∧ ExA K D ∧ PySem.W.findIn K (.ref D) f = some none := fun nm h => by
  rcases List.mem_cons.mp h with rfl | h
  · exact ⟨O.C, O.m, O.xa, O.nf⟩
  · exact r nm h
section
variable {α : Type} (s : S)
theorem x_fRaise (c f : Str) (fa : M Vl) : fRaise c f fa s = bnd fa (fun x => bnd (frz x) fun y => fun s => .ex ⟨c, some (f, y)⟩ s) s := id rfl
theorem x_fTry_ex {cs : Str → Option Bool} {i j : Nat} {f : M Fl} {e : Ex} {s' : S} (h : f s = .ex e s') (hc : cs e.cls = some true) : fTry cs i j f s = .ok .nx ⟨((s'.sl.set i (some (.c s'.ce.length))).set j (some (.c s'.ce.length))).set i none, s'.ce ++ [.x e]⟩ := by simp only [fTry, h, hc]
end
end DL

end DLsec_21

section DLsec_22
set_option maxRecDepth 100000
/-! loops: plain facts -/
namespace DL
theorem forL_pre {k : Vl → M Unit} {b : M Fl} {xs : List D} (I : Nat → S → Prop) (step : ∀ i x s, xs[i]? = some x → I i s → ∃ s', bnd (k (.d x)) (fun _ => b) s = .ok .nx s' ∧ I (i + 1) s') (ys : List D) :
    ∀ s, I 0 s → ∃ s', forL k b (xs ++ ys) s = forL k b ys s' ∧ I xs.length s' := by
  induction xs generalizing I with
  | nil => exact fun s h => ⟨s, rfl, h⟩
  | cons x xs ih =>
    intro s h
    obtain ⟨s1, e1, h1⟩ := step 0 x s rfl h
    obtain ⟨s2, e2, h2⟩ := ih (fun i => I (i + 1)) (fun i y t hy ht => step (i + 1) y t (by simpa using hy) ht) s1 h1
    exact ⟨s2, by simp only [List.cons_append, forL, e1, e2], h2⟩
theorem forL_ex {k : Vl → M Unit} {b : M Fl} {y : D} {ys : List D} {s s' : S} {e : Ex} (h : bnd (k (.d y)) (fun _ => b) s = .ex e s') : forL k b (y :: ys) s = .ex e s' := by simp only [forL, h]
theorem fFor_ok {fi : M (List D)} {k : Vl → M Unit} {b : M Fl} {s s1 : S} {xs : List D} {r : R Fl} (h1 : fi s = .ok xs s1) (h2 : forL k b xs s1 = r) : fFor fi k b s = r := by simp only [fFor, bnd, h1, h2]
end DL

end DLsec_22

section DLsec_23
set_option maxRecDepth 100000
/-! more built-ins: min, max, all, any; in; chains; n copies -/
namespace DL
open PySem PySem.Spec PyProof.Rows L2
/-! ### min, max of two -/
def oI2 (g : Int → Int → Int) : OA Vl := fun xs _ => match xs with
  | [.d (.int i), .d (.int j)] => some (.d (.int (g i j)))
  | _ => none
abbrev oMin2 : OA Vl := oI2 fun i j => if j < i then j else i
abbrev oMax2 : OA Vl := oI2 fun i j => if j > i then j else i
/-! ### a list of ints at hand -/
def intsA (s : S) : List Vl → Option (List Int)
  | [x] => match datL s x with
    | some ys => intsOf ys
    | none => none
  | _ => none
theorem Rep.intsA {mg : Str → Option Value} {B : Bd mg} {σ : St} {H Hi : Hp} {as : List Addr} {s : S} (rp : Rep B σ H Hi as s) {xs : List Vl} {vs : List V} {ns : List Int} (hv : RelVls Hi as vs xs) (e : DL.intsA s xs = some ns) : ∃ a, vs = [.ref a] ∧ H a = some (.lst (ns.map V.int)) := by
  cases hv with
  | nil => cases e
  | cons a1 a2 =>
    cases a2 with
    | cons _ _ => cases e
    | nil =>
      rename_i v x
      simp only [DL.intsA] at e
      cases h1 : DL.datL s x with
      | none => rw [h1] at e; cases e
      | some ys =>
        rw [h1] at e
        have hy := intsOf_inv e
        subst hy
        obtain ⟨a, ws, rfl, ha, da⟩ := rp.datL a1 h1
        have hw := da.ints_inv
        subst hw
        exact ⟨a, rfl, ha⟩
def oMinL : OA Vl := fun xs s => match intsA s xs with
  | some ns => ns.min?.map fun m => .d (.int m)
  | none => none
def oMaxL : OA Vl := fun xs s => match intsA s xs with
  | some ns => ns.max?.map fun m => .d (.int m)
  | none => none
/-! ### all, any of bools -/
def boolsOf : List D → Option (List Bool)
  | [] => some []
  | .bool i :: xs => (boolsOf xs).map (i :: ·)
  | _ => none
def oBools (g : List Bool → Bool) : OA Vl := fun xs s => match xs with
  | [x] => match datL s x with
    | some ys => (boolsOf ys).map fun bs => .d (.bool (g bs))
    | none => none
  | _ => none
abbrev oAll : OA Vl := oBools fun bs => bs.all id
abbrev oAny : OA Vl := oBools fun bs => bs.any id
/-! ### in -/
def oInD (neg : Bool) : O2 Vl := fun x y s => match dat s x, dat s y with
  | some a, some (.list ds) => if (okE a && okE (.list ds)) = true then some (.d (.bool (if neg then !ds.any fun z => PyData.eqv z a else ds.any fun z => PyData.eqv z a))) else none
  | _, _ => none
theorem oInD_inv {K : PySem.W.Frag} {mg : Str → Option Value} {B : Bd mg} {σ : St} {H Hi : Hp} {as : List Addr} {s : S} (rp : Rep B σ H Hi as s) {neg : Bool} {x y z : Vl} {u v : V} (hu : RelVl Hi as u x) (hv : RelVl Hi as v y) (e : oInD neg x y s = some z) :
    ∃ d ds, Dp K H u d ∧ Dp K H v (.list ds) ∧ SeqAt.shaped d = true ∧ SeqAt.shaped (.list ds) = true ∧ z = .d (.bool (if neg then !ds.any fun z => PyData.eqv z d else ds.any fun z => PyData.eqv z d)) := by
  unfold oInD at e
  cases h1 : dat s x with
  | none => rw [h1] at e; cases e
  | some a =>
    cases h2 : dat s y with
    | none => rw [h1, h2] at e; cases e
    | some b =>
      rw [h1, h2] at e
      cases b with
      | list ds =>
        simp only at e
        split at e
        · rename_i hn
          cases e
          simp only [okE, Bool.and_eq_true] at hn
          exact ⟨a, ds, rp.dpV hu h1 hn.1.1, rp.dpV hv h2 hn.2.1, hn.1.2, hn.2.2, rfl⟩
        · cases e
      | _ => cases e
theorem os_inD {K : PySem.W.Frag} : OpS (rInD K) (oInD false) := fun B σ H Hi as s x y z u v Q rp hu hv e q => by
  obtain ⟨d, ds, h1, h2, h3, h4, rfl⟩ := oInD_inv (K := K) rp hu hv e
  exact ⟨d, ds, h1, h2, h3, h4, q.now rp (.d (.bl _))⟩
/-- a sign in a text -/
def oInSg (neg : Bool) : O2 Vl
  | .d (.str x), .d (.str z), _ => match x.cps.toList with
    | [c] => some (.d (.bool (if neg then !decide (c ∈ z.cps.toList) else decide (c ∈ z.cps.toList))))
    | _ => none
  | _, _, _ => none
theorem oInSg_inv {Hi : Hp} {as : List Addr} {s : S} {neg : Bool} {x y z : Vl} {u v : V} (hu : RelVl Hi as u x) (hv : RelVl Hi as v y) (e : oInSg neg x y s = some z) :
    ∃ (c : Nat) (t : Str), u = .str ⟨#[c]⟩ ∧ v = .str t ∧ z = .d (.bool (if neg then !decide (c ∈ t.cps.toList) else decide (c ∈ t.cps.toList))) := by
  cases hu with
  | c _ => cases e
  | d q =>
    cases hv with
    | c _ => cases q <;> cases e
    | d q' =>
      cases q <;> cases q' <;> first | (cases e; done) | skip
      rename_i a b
      simp only [oInSg] at e
      split at e
      · rename_i c hc
        cases e
        obtain ⟨⟨l⟩⟩ := a
        simp at hc
        subst hc
        exact ⟨c, b, rfl, rfl, rfl⟩
      · cases e
theorem os_inS : OpS (fun x y H Q => ∃ (c : Nat) (z : Str), x = .str ⟨#[c]⟩ ∧ y = .str z ∧ Q (.bl (decide (c ∈ z.cps.toList))) H) (oInSg false) := fun B σ H Hi as s x y z u v Q rp hu hv e q => by
  obtain ⟨c, t, rfl, rfl, rfl⟩ := oInSg_inv hu hv e
  exact ⟨c, t, rfl, rfl, q.now rp (.d (.bl _))⟩
abbrev oIn : O2 Vl := orO (oInD false) (oInSg false)
abbrev oNotIn : O2 Vl := orO (oInD true) (oInSg true)
theorem os_in {K : PySem.W.Frag} : OpS (fun x y H Q => rInD K x y H Q ∨ ∃ (c : Nat) (z : Str), x = .str ⟨#[c]⟩ ∧ y = .str z ∧ Q (.bl (decide (c ∈ z.cps.toList))) H) oIn := ops_or os_inD os_inS
/-! ### n copies -/
theorem DqA.rep {H : Hp} {vs : List V} {xs : List D} (h : DqA H vs xs) : ∀ n, DqA H (List.replicate n vs).flatten (List.replicate n xs).flatten
  | 0 => .nil
  | n + 1 => by
    simp only [List.replicate_succ, List.flatten_cons]
    exact h.append (h.rep n)
theorem of_rep : OpF rRep oRep := fun B σ H Hi as s x y z u v Q rp hu hv e q => by
  unfold oRep at e
  cases h1 : datL s x with
  | none => rw [h1] at e; cases e
  | some xs =>
    rw [h1] at e
    cases hv with
    | c _ => cases e
    | d q' =>
      cases q' with
      | int k =>
        simp only at e
        split at e
        · rename_i hn
          cases e
          obtain ⟨a, vs, rfl, ha, da⟩ := rp.datL hu h1
          exact ⟨a, k, vs, rfl, rfl, ha, by omega, by omega, by rw [da.length]; exact le_line hn.2.2, fun p hp => q.now rp hp (da.rep _)⟩
        · cases e
      | _ => cases e
abbrev oRepD : O2 Vl := datO oRep
theorem os_rep : OpS rRep oRepD := ops_dat of_rep
abbrev oMulG : O2 Vl := orO oMul oRepD
theorem op_mulG {X : Cx} : OpR X (binaryOp .Mult) (fun x y H Q => (rI CMul fun i j => .int (i * j)) x y H Q ∨ rRep x y H Q) := op_mul.or op_rep
theorem os_mulG : OpS (fun x y H Q => (rI CMul fun i j => .int (i * j)) x y H Q ∨ rRep x y H Q) oMulG := ops_or os_mul os_rep
/-! ### a < b < c -/
def fChain (o o' : O2 Vl) (fa fb fc : M Vl) : M Vl := bnd fa fun x => bnd fb fun y => bnd (gets (o x y)) fun z => bnd (asB z) fun k => if k = true then bnd fc fun w => gets (o' y w) else ret (.d (.bool false))
section
variable {mg : Str → Option Value} {W : WX} {B : Bd mg} {σ : St} {H Hi : Hp} {as : List Addr} {s : S}
variable {ta tb tc : TE} {fa fb fc : M Vl}
end
theorem x_fChain (o o' : O2 Vl) (fa fb fc : M Vl) (s : S) : fChain o o' fa fb fc s = bnd fa (fun x => bnd fb fun y => bnd (gets (o x y)) fun z => bnd (asB z) fun k => if k = true then bnd fc fun w => gets (o' y w) else DL.ret (.d (.bool false))) s := id rfl
section
variable {X : Cx} {K : PySem.W.Frag}
theorem _root_.L2.Room.units65 {k : Nat} {A : Around} (r : Room k A) : A.units + 65 < cLine := by have := r.un; omega
theorem inK (hu : X.A.units + 65 < cLine) (hK : X.K = K := by rfl) : OpR X (compareOp .In) (fun x y H Q => rInD K x y H Q ∨ ∃ (c : Nat) (z : Str), x = .str ⟨#[c]⟩ ∧ y = .str z ∧ Q (.bl (decide (c ∈ z.cps.toList))) H) := (hK ▸ op_inD hu).or op_in_sign
end
end DL

end DLsec_23

section DLsec_24
set_option maxRecDepth 100000
/-! lists of lists that change, dicts of lists that change -/
namespace DL
open PySem PySem.Spec PyProof.Rows L2
def fCellV (f : M (List D)) : M Vl := bnd f fun xs s => .ok (.c s.ce.length) { s with ce := s.ce ++ [.v (xs.map .d)] }
def needV (x : Vl) : M Unit := fun s => match x with
  | .c j => match s.ce[j]? with
    | some (.v _) => .ok () s
    | _ => .no
  | _ => .no
def upV (x y : Vl) : M Vl := fun s => match x with
  | .c j => match s.ce[j]? with
    | some (.v xs) => if xs.length < 1000000 then .ok (.d .none) { s with ce := s.ce.set j (.v (xs ++ [y])) } else .no
    | _ => .no
  | _ => .no
def fAppV (fo fa : M Vl) : M Vl := bnd fo fun x => bnd (needV x) fun _ => bnd fa fun y => upV x y
def oIxV : O2 Vl := fun x y s => match x, y with
  | .c j, .d (.int i) => match s.ce[j]? with
    | some (.v xs) => atI xs i
    | _ => none
  | _, _ => none
theorem dqa_rel {Hi : Hp} {as : List Addr} : ∀ {vs : List V} {xs : List D}, DqA Hi vs xs → Paired (RelVl Hi as) vs (xs.map .d)
  | _, _, .nil => .nil
  | _, _, .cons h r => .cons (.d h) (dqa_rel r)
theorem paired_app {α β : Type} {F : α → β → Prop} : ∀ {l l' : List α} {m m' : List β}, Paired F l m → Paired F l' m' → Paired F (l ++ l') (m ++ m')
  | _, _, _, _, .nil, h => h
  | _, _, _, _, .cons a r, h => .cons a (paired_app r h)
section
variable {mg : Str → Option Value} {W : WX} {B : Bd mg} {σ : St} {H Hi : Hp} {as : List Addr} {s : S}
variable {ta tb tc te : TE} {fa fb fc fe : M Vl}
end
/-! ### dicts -/
def keyD : D → Option Key
  | .int i => some (.inl i)
  | .str x => some (.inr x)
  | _ => none
def valW {α : Type} (kvs : List (Key × α)) (k : Key) : Option α := (kvs.find? fun p => decide (p.1 = k)).map (·.2)
def fDNew : M Vl := fun s => .ok (.c s.ce.length) { s with ce := s.ce ++ [.w []] }
def needW (x : Vl) : M Unit := fun s => match x with
  | .c j => match s.ce[j]? with
    | some (.w _) => .ok () s
    | _ => .no
  | _ => .no
/-- d.setdefault(k, []) -/
def setdL (x y : Vl) : M Vl := fun s => match x, y with
  | .c j, .d y => match s.ce[j]?, keyD y with
    | some (.w kvs), some k => if kvs.length < 1000000 then (match valW kvs k with
      | some v => .ok v s
      | none => .ok (.c s.ce.length) { s with ce := s.ce.set j (.w (kvs ++ [(k, .c s.ce.length)])) ++ [.l []] }) else .no
    | _, _ => .no
  | _, _ => .no
def fSetdL (fo fk : M Vl) : M Vl := bnd fo fun x => bnd (needW x) fun _ => bnd fk fun y => setdL x y
section
variable {mg : Str → Option Value} {W : WX} {B : Bd mg} {σ : St} {H Hi : Hp} {as : List Addr} {s : S}
variable {ta tb tc te : TE} {fa fb fc fe : M Vl}
end
section
variable {α : Type} (s : S)
theorem x_fCellV (f : M (List D)) : fCellV f s = bnd f (fun xs s => .ok (.c s.ce.length) { s with ce := s.ce ++ [.v (xs.map .d)] }) s := id rfl
theorem x_fAppV (fo fa : M Vl) : fAppV fo fa s = bnd fo (fun x => bnd (needV x) fun _ => bnd fa fun y => upV x y) s := id rfl
theorem x_needV (x : Vl) : needV x s = match x with
  | .c j => match s.ce[j]? with
    | some (.v _) => .ok () s
    | _ => .no
  | _ => .no := id rfl
theorem x_upV (x y : Vl) : upV x y s = match x with
  | .c j => match s.ce[j]? with
    | some (.v xs) => if xs.length < 1000000 then .ok (.d .none) { s with ce := s.ce.set j (.v (xs ++ [y])) } else .no
    | _ => .no
  | _ => .no := id rfl
theorem x_fDNew : fDNew s = .ok (.c s.ce.length) { s with ce := s.ce ++ [.w []] } := id rfl
theorem x_fSetdL (fo fk : M Vl) : fSetdL fo fk s = bnd fo (fun x => bnd (needW x) fun _ => bnd fk fun y => setdL x y) s := id rfl
theorem x_needW (x : Vl) : needW x s = match x with
  | .c j => match s.ce[j]? with
    | some (.w _) => .ok () s
    | _ => .no
  | _ => .no := id rfl
theorem x_setdL (x y : Vl) : setdL x y s = match x, y with
  | .c j, .d y => match s.ce[j]?, keyD y with
    | some (.w kvs), some k => if kvs.length < 1000000 then (match valW kvs k with
      | some v => .ok v s
      | none => .ok (.c s.ce.length) { s with ce := s.ce.set j (.w (kvs ++ [(k, .c s.ce.length)])) ++ [.l []] }) else .no
    | _, _ => .no
  | _, _ => .no := id rfl
end
end DL

end DLsec_24

section DLsec_25
set_option maxRecDepth 100000
/-! sorted(set(ints)) -/
namespace DL
open PySem PySem.Spec PyProof.Rows L2
section
variable {P : Program} {w : World} {A : Around} {E : Value → Shared → Prop} {s : Shared}
end
/-! ### the data side -/
/-- each once, ascending -/
def ddp : List Int → List Int
  | [] => []
  | x :: xs => if x ∈ xs then ddp xs else x :: ddp xs
def srtS (ns : List Int) : List Int := srt (ddp ns)
def fSrtS (f : M Vl) : M (List D) := bnd f fun x => gets fun s => match intsA s [x] with
  | some ns => if ns.length ≤ 63 then some ((srtS ns).map .int) else none
  | none => none
section
variable {mg : Str → Option Value} {W : WX} {ta : TE} {fa : M Vl}
theorem x_fSrtS (s : S) : fSrtS fa s = bnd fa (fun x => gets fun s => match intsA s [x] with
  | some ns => if ns.length ≤ 63 then some ((srtS ns).map .int) else none
  | none => none) s := id rfl
end
end DL

end DLsec_25

section DLsec_26
set_option maxRecDepth 100000
/-! dicts that are read; sorted pairs -/
namespace DL
open PySem PySem.Spec PyProof.Rows L2
section
variable {mg : Str → Option Value} {W : WX} {B : Bd mg} {σ : St} {H Hi : Hp} {as : List Addr} {s : S}
/-- more objects -/
theorem Rep.ext {H' : Hp} (r : Rep B σ H Hi as s) (e : ∀ b o, H b = some o → H' b = some o) : Rep B σ H' Hi as s := by
  have up : ∀ {lk : List Addr} {b : Addr} {o : HO}, HL lk H b o → HL lk H' b o := fun {lk b o} h => by
    unfold HL at h ⊢
    split
    · rename_i hb
      rw [if_pos hb] at h
      obtain ⟨ob, q⟩ := h
      exact ⟨ob, e _ _ q⟩
    · rename_i hb
      rw [if_neg hb] at h
      exact e _ _ h
  refine ⟨fun b o q => up (r.sub b o q), r.lkd, fun b o q n => up (r.fr b o q n), r.hin, r.new, r.len, r.slo, r.lea, fun j a c e1 e2 => ?_, r.inj⟩
  refine (r.cel j a c e1 e2).mono (Same.refl _) (List.prefix_refl _) (fun _ => rfl) fun al => ?_
  cases z : H a with
  | none => exact absurd rfl ((r.cel j a c e1 e2).ne_new al z)
  | some o => exact e a o z
/-- an object that nobody owns is known from now on -/
theorem Rep.know {p : Addr} {o : HO} (r : Rep B σ H Hi as s) (hp : H p = some o) (hn : Hi p = none) (h0 : B.H0 p = none ∨ p ∈ B.A0) (na : ∀ (j : Nat) (c : Ce), as[j]? = some p → s.ce[j]? = some c → c.alive = false) : Rep B σ H (upd Hi p o) as s := by
  have sm : Same Hi (upd Hi p o) := same_new hn
  have hlk : p ∉ B.lk0 ++ B.lk1 := fun z => by
    obtain ⟨k, e⟩ := r.lkd p z
    rw [hn] at e; cases e
  refine ⟨fun b u e => ?_, fun b hb => ?_, r.fr, fun b u e => ?_, r.new, r.len, fun i x e => ?_, r.lea, fun j a c e1 e2 => ?_, r.inj⟩
  · by_cases z : b = p
    · subst z
      rw [upd_same] at e; cases e
      unfold HL
      rw [if_neg hlk]
      exact hp
    · rw [upd_ne z] at e
      exact r.sub b u e
  · obtain ⟨k, e⟩ := r.lkd b hb
    exact ⟨k, sm _ _ e⟩
  · by_cases z : b = p
    · subst z
      exact .inr (or3 h0)
    · rw [upd_ne z] at e
      exact r.hin b u e
  · obtain ⟨v, q1, q2⟩ := r.slo i x e
    exact ⟨v, q1, q2.mono sm (List.prefix_refl _)⟩
  · refine (r.cel j a c e1 e2).mono sm (List.prefix_refl _) (fun al => upd_ne fun z => ?_) fun _ => rfl
    subst z
    rw [na j c e1 e2] at al
    cases al
end
/-! ### what a dict holds -/
def dictOf (s : S) : Vl → Option (List (D × D))
  | .d (.dict ds) => some ds
  | .c j => match s.ce[j]? with
    | some (.m kvs) => some (kvs.map fun p => (kD p.1, p.2))
    | _ => none
  | _ => none
def lookD (ds : List (D × D)) (k : Key) : Option D := (ds.find? fun p => decide (keyD p.1 = some k)).map (·.2)
section
variable {mg : Str → Option Value} {W : WX} {B : Bd mg} {σ : St} {H Hi : Hp} {as : List Addr} {s : S}
variable {ta tb tc te : TE} {fa fb fc fe : M Vl}
theorem Rep.dictOf (r : Rep B σ H Hi as s) {v : V} {x : Vl} {ds : List (D × D)} (h : RelVl Hi as v x) (e : DL.dictOf s x = some ds) : ∃ a vs, v = .ref a ∧ Rd H a (.dK vs) ∧ DqM Hi vs ds := by
  cases h with
  | d q =>
    cases q with
    | dct h1 h2 =>
      cases e
      refine ⟨_, _, rfl, ?_, h2⟩
      have q := r.sub _ _ h1
      unfold HL at q
      split at q
      · rename_i hl
        obtain ⟨k, z⟩ := r.lkd _ hl
        rw [h1] at z; cases z
      · exact .inr ⟨_, q⟩
    | _ => cases e
  | @c a j q =>
    simp only [DL.dictOf] at e
    cases hc : s.ce[j]? with
    | none => rw [hc] at e; cases e
    | some c =>
      rw [hc] at e
      cases c with
      | m kvs =>
        cases e
        obtain ⟨_, vs, h1, h2⟩ := r.cel j a _ q hc
        exact ⟨a, vs, rfl, .inl h1, h2.toM⟩
      | _ => cases e
def needD (x : Vl) : M Unit := fun s => match dictOf s x with
  | some _ => .ok () s
  | none => .no
def oGet2 (x y z : Vl) (s : S) : Option Vl := match dictOf s x, y with
  | some ds, .d y => match keyD y with
    | some k => some (match lookD ds k with
      | some d => .d d
      | none => z)
    | none => none
  | _, _ => none
def fGet2 (fo fk fx : M Vl) : M Vl := bnd fo fun x => bnd (needD x) fun _ => bnd fk fun y => bnd fx fun z => gets (oGet2 x y z)
def oDSub (x y : Vl) (s : S) : Option Vl := match dictOf s x, y with
  | some ds, .d y => match keyD y with
    | some k => (lookD ds k).map .d
    | none => none
  | _, _ => none
def fDSub (fo fk : M Vl) : M Vl := bnd fo fun x => bnd fk fun y => gets (oDSub x y)
/-! ### list(d.items()), d owned -/
def itemsD (ds : List (D × D)) : List D := ds.map fun p => .tuple [p.1, p.2]
def fItems (fo : M Vl) : M Vl := bnd fo fun x => gets fun s => match x with
  | .c j => match s.ce[j]? with
    | some (.m kvs) => some (.d (.list (itemsD (kvs.map fun p => (kD p.1, p.2)))))
    | _ => none
  | _ => none
/-! ### dict(pairs) -/
theorem DqK.keys {Hi : Hp} : ∀ {v : List (Key × V)} {d : List (Key × D)}, DqK Hi v d → v.map (·.1) = d.map (·.1)
  | _, _, .nil => rfl
  | _, _, .cons _ r => by simp [DqK.keys r]
end
/-! ### sorted pairs of ints -/
def pairOf : D → Option (Int × Int)
  | .tuple [.int i, .int j] => some (i, j)
  | _ => none
def pairsOf : List D → Option (List (Int × Int))
  | [] => some []
  | x :: xs => match pairOf x, pairsOf xs with
    | some p, some r => some (p :: r)
    | _, _ => none
def pD (p : Int × Int) : D := .tuple [.int p.1, .int p.2]
def lexL (p q : Int × Int) : Bool := !SrtO.lexB q p
def srtP (ps : List (Int × Int)) : List (Int × Int) := ps.mergeSort lexL
def oSortP : OA (List D) := fun xs s => match xs with
  | [x] => match datL s x with
    | some ys => match pairsOf ys with
      | some ps => some ((srtP ps).map pD)
      | none => none
    | none => none
  | _ => none
/-- ints or pairs -/
def orF (o o' : OA (List D)) : OA (List D) := fun xs s => match o xs s with
  | some z => some z
  | none => o' xs s
abbrev oSortG : OA (List D) := orF oSorted oSortP
/-- a dict of lists handed back -/
def fToM (f : M Vl) : M Vl := bnd f fun x s => match x with
  | .c j => match s.ce[j]? with
    | some (.w kvs) => bnd (frzs0 (kvs.map (·.2))) (fun ys s' => .ok (.c j) { s' with ce := s'.ce.set j (.m ((kvs.map (·.1)).zip ys)) }) s
    | some (.m kvs) => .ok (.c j) s
    | _ => .no
  | _ => .no
section
variable {mg : Str → Option Value} {W : WX} {B : Bd mg} {σ : St} {H Hi : Hp} {as : List Addr} {s : S}
variable {ta : TE} {fa : M Vl}
/-- a cell is seen otherwise -/
theorem Rep.see (r : Rep B σ H Hi as s) {j : Nat} {a : Addr} {c c' : Ce} (ha : as[j]? = some a) (hc : s.ce[j]? = some c) (al : c.alive = true) (al' : c'.alive = true) (hr : RelCe mg H Hi as a c') : Rep B σ H Hi as { s with ce := s.ce.set j c' } := by
  cases z : H a with
  | none => exact absurd rfl ((r.cel j a c ha hc).ne_new al z)
  | some o =>
    have e : upd H a o = H := by
      funext b
      by_cases q : b = a
      · subst q; rw [upd_same, z]
      · rw [upd_ne q]
    have := r.mut (o := o) (c' := c') ha hc al al' (by rw [e]; exact hr)
    rw [e] at this
    exact this
theorem x_fToM (f : M Vl) (s : S) : fToM f s = bnd f (fun x s => match x with
  | .c j => match s.ce[j]? with
    | some (.w kvs) => bnd (frzs0 (kvs.map (·.2))) (fun ys s' => .ok (.c j) { s' with ce := s'.ce.set j (.m ((kvs.map (·.1)).zip ys)) }) s
    | some (.m kvs) => .ok (.c j) s
    | _ => .no
  | _ => .no) s := id rfl
theorem x_fItems (f : M Vl) (s : S) : fItems f s = bnd f (fun x => gets fun s => match x with
  | .c j => match s.ce[j]? with
    | some (.m kvs) => some (.d (.list (itemsD (kvs.map fun p => (kD p.1, p.2)))))
    | _ => none
  | _ => none) s := id rfl
theorem x_fGet2 (fo fk fx : M Vl) (s : S) : fGet2 fo fk fx s = bnd fo (fun x => bnd (needD x) fun _ => bnd fk fun y => bnd fx fun z => gets (oGet2 x y z)) s := id rfl
theorem x_fDSub (fo fk : M Vl) (s : S) : fDSub fo fk s = bnd fo (fun x => bnd fk fun y => gets (oDSub x y)) s := id rfl
theorem x_needD (x : Vl) (s : S) : needD x s = match dictOf s x with
  | some _ => .ok () s
  | none => .no := id rfl
end
end DL
namespace DL
open PySem PySem.Spec PyProof.Rows L2
end DL

end DLsec_26

section DLsec_27
set_option maxRecDepth 100000
/-! {}, str(int), count, index -/
namespace DL
open PySem PySem.Spec PyProof.Rows L2
section
variable {mg : Str → Option Value} {W : WX} {B : Bd mg} {σ : St} {H Hi : Hp} {as : List Addr} {s : S}
variable {ta tb : TE} {fa fb : M Vl}
/-- an expression whose value is locked from now on -/
def tLockR (t : TE) : TE := fun σ H Q => t σ H fun x H1 => ∃ d u, x = .ref d ∧ H1 d = some u ∧ Mut (some u) ∧ ∀ od, Q x (upd H1 d (.frz od u))
theorem pe_lockR {X : Cx} {e : Expr} {t : TE} (h : PE X e t) : PE X e (tLockR t) := by
  refine ⟨fun pins s σ H Q I hw => ?_⟩
  refine wpAny_mono (h.run pins s σ H _ I hw) (fun v s1 hq => ?_) fun _ _ z => z
  obtain ⟨x, H1, I1, r, d, u, e1, e2, mu, q⟩ := hq
  obtain ⟨od, I2⟩ := I1.lock e2 mu
  exact ⟨x, _, I2, r, q od⟩
theorem upd_twice {H : Hp} {p : Addr} {o o' : HO} : upd (upd H p o) p o' = upd H p o' := by
  funext b
  by_cases z : b = p
  · subst z; rw [upd_same, upd_same]
  · rw [upd_ne z, upd_ne z, upd_ne z]
theorem se_dnewD : SE mg W (tLockR tDNewK) (fC (.dict [])) := fun B σ H Hi as s Q rp w p hp => by
  refine ⟨p, _, rfl, upd_same, trivial, fun od => ?_⟩
  rw [upd_twice]
  have sm : Same Hi (upd Hi p (.frz od (.dK []))) := same_new (rp.fresh hp)
  exact w _ _ as (rp.addI hp) sm (List.prefix_refl _) _ (.d (.dct upd_same .nil))
def oStr : OA Vl := fun xs _ => match xs with
  | [.d (.int i)] => if i.natAbs.log2 < 1920 then some (.d (.str (toString i))) else none
  | _ => none
/-- l.count(k), ints -/
def fCount (fo fa : M Vl) : M Vl := bnd fo fun x => bnd (needL x) fun _ => bnd fa fun y => gets fun s => match intsA s [x], y with
  | some ns, .d (.int k) => some (.d (.int (ns.count k : Nat)))
  | _, _ => none
/-- l.index(x) -/
def fIndex (fo fa : M Vl) : M Vl := bnd fo fun x => bnd (needL x) fun _ => bnd fa fun y => gets fun s => match dat s x, dat s y with
  | some (.list ds), some d => if (okE d && okE (.list ds)) = true then (match ds.findIdx? fun z => PyData.eqv z d with
    | some j => some (.d (.int (j : Nat)))
    | none => none) else none
  | _, _ => none
theorem x_fCount (fo fa : M Vl) (s : S) : fCount fo fa s = bnd fo (fun x => bnd (needL x) fun _ => bnd fa fun y => gets fun s => match intsA s [x], y with
  | some ns, .d (.int k) => some (.d (.int (ns.count k : Nat)))
  | _, _ => none) s := id rfl
theorem x_fIndex (fo fa : M Vl) (s : S) : fIndex fo fa s = bnd fo (fun x => bnd (needL x) fun _ => bnd fa fun y => gets fun s => match dat s x, dat s y with
  | some (.list ds), some d => if (okE d && okE (.list ds)) = true then (match ds.findIdx? fun z => PyData.eqv z d with
    | some j => some (.d (.int (j : Nat)))
    | none => none) else none
  | _, _ => none) s := id rfl
end
section
variable {X : Cx} {K : PySem.W.Frag}
end
end DL

end DLsec_27

section DLsec_28
set_option maxRecDepth 100000
namespace DL
open PySem PySem.Spec PyProof.Rows L2
/-! comprehensions with two loops -/
section
variable {mg : Str → Option Value} {W : WX} {B : Bd mg} {σ : St} {H Hi : Hp} {as : List Addr} {s : S}
variable {ta tb tc te : TE} {fa fb fc fe : M Vl}
end
end DL

end DLsec_28

section DLsec_29
set_option maxRecDepth 100000
set_option maxHeartbeats 4000000
namespace DL
open PySem PySem.Spec PyProof.Rows L2
/-! sorted triples of ints -/
abbrev I3 : Type := Int × Int × Int
def Is3 (h : Heap) (v : Value) (p : I3) : Prop := ∃ (a : Addr) (o : Obj) (t1 t2 t3 : _) (n : Nat), v = .ref a ∧ h.get? a = some o ∧ o.cls = .type "tuple" ∧ o.data = .seq #[.int p.1 t1, .int p.2.1 t2, .int p.2.2 t3] n
theorem Is3.keeps {h h' : Heap} {v : Value} {p : I3} (x : Is3 h v p) (k : ∀ b o, h.get? b = some o → o.cls = .type "tuple" → h'.get? b = some o) : Is3 h' v p := by
  obtain ⟨a, o, t1, t2, t3, n, e, ho, hc, hd⟩ := x
  exact ⟨a, o, t1, t2, t3, n, e, k a o ho hc, hc, hd⟩
section
variable {prog : Program} {w : World} {A : Around} {s : Shared} {E : Value → Shared → Prop}
end
/-! shorthand for evaluation -/
end DL

end DLsec_29

section DLsec_30
set_option maxRecDepth 100000
set_option maxHeartbeats 4000000
namespace DL
open PySem PySem.Spec PyProof.Rows L2
/-! except (A, B) as e -/
theorem keep_up {h h' : Heap} (kp : ∀ (q : Addr) (o : Obj), h.get? q = some o → h'.get? q = some o) : h.UpToSlots h' := fun b o hb _ => ⟨o.slots, kp b o hb⟩
theorem keep_fly {base h h' : Heap} {l : List Env} {e : Addr} {Z : Obj → Prop} (kp : ∀ (q : Addr) (o : Obj), h.get? q = some o → h'.get? q = some o) (x : HandSPX.FlyingZ base l e Z h) : HandSPX.FlyingZ base l e Z h' := by
  obtain ⟨k1, k2, k3, oe, vs, T, oT, ts, he, hz, hd, h1, hnT, hTe, hT, hdT, h3⟩ := x
  exact ⟨fun b o q => kp b o (k1 b o q), k2, k3.of_keeps fun b o q _ => ⟨o, kp b o q, rfl⟩, oe, vs, T, oT, ts, kp e oe he, hz, hd, h1, hnT, hTe, kp T oT hT, hdT, h3⟩
def TestK (X : Cx) (te : Expr) (f : Value → Option Bool) : Prop := ∀ (a : Addr) (ob : Obj) (vs : Array Value) (pn : List (Addr × Obj)) (σ : St) (G : Hp) (s : Shared) (b : Bool), Inv (X.suite a ((a, ob) :: pn)) [] σ G s → ob.data = .fields vs → f ob.cls = some b →
  ∀ {Q : Bool → Shared → Prop} {E : Value → Shared → Prop}, (∀ h', (∀ (q : Addr) (o : Obj), s.heap.get? q = some o → h'.get? q = some o) → Q b { s with heap := h' }) → wpAny (model X.prog X.w) (X.A.mark (some (.ref a))) (eval te X.env) (fun c s1 => wpAny (model X.prog X.w) (X.A.mark (some (.ref a))) (excMatches (.ref a) c) Q E s1) E s
theorem nm_load {X : Cx} {x : Str} {c : Value} {np : Pos} (hc : Names X x c) {a : Addr} {ob : Obj} {pn : List (Addr × Obj)} {σ : St} {G : Hp} {s : Shared} (I : Inv (X.suite a ((a, ob) :: pn)) [] σ G s) {Q : Value → Shared → Prop} {E : Value → Shared → Prop} (q : Q c s) : wpAny (model X.prog X.w) (X.A.mark (some (.ref a))) (eval (.Name x np) X.env) Q E s := by
  obtain ⟨hg, hdb, hm | ⟨hm, hv, hnn⟩⟩ := hc
  · exact ld_glob (X := X.suite a ((a, ob) :: pn)) I hg hm q hdb
  · exact ld_blt (X := X.suite a ((a, ob) :: pn)) I hg hm hv q hnn hdb
section
variable {X : Cx} {te : Expr} {n m : Str} {f : Value → Option Bool} {i j : Nat} {body : List Stmt} {mp np2 ap pos pos' : Pos} {tb : WX → TS} {Wout : WX}
end
/-! xs[::-1] -/
def fRev (f : M Vl) : M (List D) := bnd f fun x => gets fun s => (datL s x).map List.reverse
def fPar3 (i j l : Nat) (f : M (List Vl)) : M Fl := bnd f fun vs => match vs with
  | [x, y, z] => bnd (kName i x) fun _ => bnd (kName j y) fun _ => bnd (kName l z) fun _ => ret .nx
  | _ => stuck
section
variable {mg : Str → Option Value} {W : WX} {ta : TE} {fa : M Vl}
theorem x_fRev (s : S) : fRev fa s = bnd fa (fun x => gets fun s => (datL s x).map List.reverse) s := id rfl
theorem x_fPar3 {fA : M (List Vl)} (i j l : Nat) (s : S) : fPar3 i j l fA s = bnd fA (fun vs => match vs with
  | [x, y, z] => bnd (kName i x) fun _ => bnd (kName j y) fun _ => bnd (kName l z) fun _ => DL.ret Fl.nx
  | _ => stuck) s := id rfl
end
/-- a method's call, the fragment named: fit for the blocks of comprehensions -/
theorem bmK {X : Cx} {K : PySem.W.Frag} {o e : Expr} {es : List Expr} {to : TE} {t : TA} {name : Str} {apos cpos : Pos} {T id : String} {r : V → List V → Hp → VK → Prop} (pa : PlainAttrs T) (slot : Slot T name id) (hty : typeOf (.builtin id) = pure (.type "method_descriptor")) (hm : MtR X id r) (ho : PE X o to) (ha : PA X (e :: es) t) (hK : X.K = K := by rfl)
    (h1 : attributeBase o name X.env (eval o X.env) = eval o X.env := by rfl) (h2 : ((backTo cpos (starEach (e :: es) X.env)).all (fun x => !x.1) && (backToKw cpos (keywordEach [] X.env)).all (fun x => x.1.isSome) && decide ((e :: es).length + ([] : List Keyword).length + (if ([] : List Keyword).isEmpty then 0 else 1) < 30)) = true := by rfl)
    (h3 : (apos.endLine == cpos.line) = true := by rfl) (h4 : starEach (e :: es) X.env = (false, eval e X.env) :: starEach es X.env := by rfl) (h5 : (backTo cpos (starEach es X.env)).any (·.1) = false := by rfl) :
    PE X (.Call (.Attribute o name apos) (e :: es) [] cpos) (tBM K T r to t) := hK ▸ pe_bm pa slot hty hm ho ha h1 h2 h3 h4 h5
end DL

end DLsec_30

section DLsec_31
set_option maxRecDepth 100000
/-! list comprehensions with any number of loops -/
namespace DL
open PySem PySem.Spec PyProof.Rows L2
section
variable {prog : Program} {w : World} {A : Around} {s : Shared} {elt : Expr} {gens : List Comprehension} {scope : Scope} {pos : Pos} {acc it : Value} {env : Env}
end
abbrev TW := L2.St → Hp → (Hp → Prop) → Prop
section
variable {Y : Cx} {elt : Expr} {gens : List Comprehension} {scope : Scope} {pos : Pos} {D : Addr} {k : Nat} {ws vs : List Nat} {inn : TW} {te : TE} {g : TG} {tt : TT} {wi : TI} {t i : Expr} {ifs : List Expr}
end
section
variable {X : Cx} {elt tg iter : Expr} {ifs : List Expr} {rest : List Comprehension} {scope : Scope} {pos : Pos} {own : List (Str × Nat)} {wi : TI} {g : TG} {tt : TT} {inn : Addr → TW} {ws : List Nat}
end
end DL

end DLsec_31

section DLsec_32
set_option maxRecDepth 100000
/-! comprehensions with any number of loops: the data -/
namespace DL
open PySem PySem.Spec PyProof.Rows L2
section
variable {mg : Str → Option Value} {W : WX} {B : Bd mg} {σ : L2.St} {H Hi : Hp} {as : List Addr} {s : S} {A : Addr} {a0 : List V}
variable {te : TE} {fe : M Vl} {inn : Addr → TW} {F : M (List D)} {wi : TI} {fi : M (List D)} {g : TG} {tt : TT} {vs : List Nat} {k : Vl → M Unit} {ft : M Bool}
end
end DL

end DLsec_32

section DLsec_33
set_option maxRecDepth 100000
/-! dicts: walked, made, written, frozen -/
namespace DL
open PySem PySem.Spec PyProof.Rows L2
section
variable {mg : Str → Option Value} {W : WX} {B : Bd mg} {σ : L2.St} {H Hi : Hp} {as : List Addr} {s : S}
variable {ta tb tc te tk tv : TE} {fa fb fc fe fk fv : M Vl}
def frzL (x : Vl) : M D := fun s => match x with
  | .c j => match s.ce[j]? with
    | some (.m kvs) => .ok (.dict (kvs.map fun p => (kD p.1, p.2))) { s with ce := s.ce.set j .g }
    | _ => .no
  | _ => .no
/-- a new dict as data -/
def fFrzL (f : M Vl) : M Vl := fun s => match bnd f frzL s with
  | .ok y s2 => .ok (.d y) ⟨s.sl, cutC s.ce.length s2.ce⟩
  | .ex e s2 => .ex e s2
  | .no => .no
/-! ### what is walked -/
theorem DqM.get {H : Hp} : ∀ {v : List (Key × V)} {d : List (D × D)} {i : Nat} {x : D × D}, DqM H v d → d[i]? = some x → ∃ k y, v[i]? = some (k, y) ∧ x.1 = kD k ∧ Dq H y x.2
  | _, _, _, _, .nil, e => by simp at e
  | _, _, 0, _, .cons h _, e => by simp at e; subst e; exact ⟨_, _, rfl, rfl, h⟩
  | _, _, i + 1, x, .cons _ r, e => by
    obtain ⟨k, y, a, b⟩ := DqM.get (i := i) (x := x) r (by simpa using e)
    exact ⟨k, y, by simpa using a, b⟩
theorem DqM.length {H : Hp} : ∀ {v : List (Key × V)} {d : List (D × D)}, DqM H v d → v.length = d.length
  | _, _, .nil => rfl
  | _, _, .cons _ r => congrArg (· + 1) (DqM.length r)
def dsOf : Vl → Option (List (D × D))
  | .d (.dict ds) => some ds
  | _ => none
def fItemsI (fo : M Vl) : M (List D) := bnd fo fun x => gets fun _ => (dsOf x).map itemsD
def fValsI (fo : M Vl) : M (List D) := bnd fo fun x => gets fun _ => (dsOf x).map fun ds => ds.map (·.2)
def fKeysI (fo : M Vl) : M (List D) := bnd fo fun x => gets fun _ => (dsOf x).map fun ds => ds.map (·.1)
/-! ### new dicts, written -/
def fDNewM : M Vl := fun s => .ok (.c s.ce.length) { s with ce := s.ce ++ [.m []] }
def putD (kvs : List (Key × D)) (k : Key) (d : D) : List (Key × D) := if (kvs.any fun p => decide (p.1 = k)) = true then kvs.map (fun p => if p.1 = k then (p.1, d) else p) else kvs ++ [(k, d)]
theorem DqK.any {H : Hp} {k : Key} : ∀ {v : List (Key × V)} {d : List (Key × D)}, DqK H v d → (v.any fun p => decide (p.1 = k)) = (d.any fun p => decide (p.1 = k))
  | _, _, .nil => rfl
  | _, _, .cons _ r => by simp [DqK.any r]
theorem DqK.length {H : Hp} : ∀ {v : List (Key × V)} {d : List (Key × D)}, DqK H v d → v.length = d.length
  | _, _, .nil => rfl
  | _, _, .cons _ r => congrArg (· + 1) (DqK.length r)
theorem DqK.snoc {H : Hp} {k : Key} {y : V} {x : D} (h : Dq H y x) : ∀ {v : List (Key × V)} {d : List (Key × D)}, DqK H v d → DqK H (v ++ [(k, y)]) (d ++ [(k, x)])
  | _, _, .nil => .cons h .nil
  | _, _, .cons q r => .cons q (DqK.snoc h r)
theorem DqK.repl {H : Hp} {k : Key} {y : V} {x : D} (h : Dq H y x) : ∀ {v : List (Key × V)} {d : List (Key × D)}, DqK H v d → DqK H (v.map fun p => if p.1 = k then (p.1, y) else p) (d.map fun p => if p.1 = k then (p.1, x) else p)
  | _, _, .nil => .nil
  | _, _, .cons (k := k') q r => by
    simp only [List.map_cons]
    by_cases e : k' = k
    · rw [if_pos e, if_pos e]; exact .cons h (DqK.repl h r)
    · rw [if_neg e, if_neg e]; exact .cons q (DqK.repl h r)
theorem DqK.put {H : Hp} {k : Key} {y : V} {x : D} {v : List (Key × V)} {d : List (Key × D)} (q : DqK H v d) (h : Dq H y x) : DqK H (putK v k y) (putD d k x) := by
  unfold putK putD
  rw [q.any]
  split
  · exact q.repl h
  · exact q.snoc h
/-- d[k] = v -/
def putC (o : Vl) (i : Vl) (d : D) : M Unit := fun s => match o, i with
  | .c j, .d y => match s.ce[j]?, keyD y with
    | some (.m kvs), some k => if kvs.length < 1000000 then .ok () { s with ce := s.ce.set j (.m (putD kvs k d)) } else .no
    | _, _ => .no
  | _, _ => .no
def fDPut (fo fi fx : M Vl) : M Fl := bnd fx fun x => bnd fo fun o => bnd fi fun i => bnd (frz x) fun d => bnd (putC o i d) fun _ => ret .nx
/-! ### sorted(d), keys ints -/
def intKeys : List (D × D) → Option (List Int)
  | [] => some []
  | (.int i, _) :: r => (intKeys r).map (i :: ·)
  | _ => none
def oSortK : OA (List D) := fun xs s => match xs with
  | [x] => match dictOf s x with
    | some ds => match intKeys ds with
      | some ks => if ks.length < 64 then some ((srt ks).map .int) else none
      | none => none
    | none => none
  | _ => none
end
end DL

end DLsec_33

section DLsec_34
set_option maxRecDepth 100000
/-! dict comprehensions -/
namespace DL
open PySem PySem.Spec PyProof.Rows L2
section
variable {mg : Str → Option Value} {W : WX} {B : Bd mg} {σ : L2.St} {H Hi : Hp} {as : List Addr} {s : S} {A : Addr} {o : HO}
variable {tk tv : TE} {fk fv : M Vl} {wi : TI} {fi : M (List D)} {g : TG} {tt : TT} {vs : List Nat} {k : Vl → M Unit} {ft : M Bool}
end
end DL

end DLsec_34

section DLsec_35
set_option maxRecDepth 100000
/-! list(range(..)); plain clauses; what the new functions do -/
namespace DL
open PySem PySem.Spec PyProof.Rows L2
section
variable {X : Cx}
theorem vals_ints : ∀ {ns : List Int} {us : List Value}, us.length = ns.length → (∀ (j : Nat) v, us[j]? = some v → ∃ t, v = .int (ns.getD j 0) t) → Vals (ns.map V.int) us
  | [], [], _, _ => .nil
  | n :: ns, u :: us, hl, h => by
    obtain ⟨t, e⟩ := h 0 u rfl
    refine .cons ⟨t, e⟩ (vals_ints (by simpa using hl) fun j v hj => ?_)
    obtain ⟨t', e'⟩ := h (j + 1) v (by simpa using hj)
    exact ⟨t', by simpa using e'⟩
end
def fL6 (f : M (List D)) : M (List D) := bnd f fun xs => if xs.length ≤ 1000000 then ret xs else stuck
section
variable {mg : Str → Option Value} {W : WX} {tA : TA} {fA : M (List Vl)}
end
section
variable (s : S)
theorem x_fFrzL (f : M Vl) : fFrzL f s = match bnd f frzL s with
  | .ok y s2 => .ok (.d y) ⟨s.sl, cutC s.ce.length s2.ce⟩
  | .ex e s2 => .ex e s2
  | .no => .no := id rfl
theorem x_frzL (x : Vl) : frzL x s = match x with
  | .c j => match s.ce[j]? with
    | some (.m kvs) => .ok (.dict (kvs.map fun p => (kD p.1, p.2))) { s with ce := s.ce.set j .g }
    | _ => .no
  | _ => .no := id rfl
theorem x_fItemsI (fo : M Vl) : fItemsI fo s = bnd fo (fun x => gets fun _ => (dsOf x).map itemsD) s := id rfl
theorem x_fValsI (fo : M Vl) : fValsI fo s = bnd fo (fun x => gets fun _ => (dsOf x).map fun ds => ds.map (·.2)) s := id rfl
theorem x_fKeysI (fo : M Vl) : fKeysI fo s = bnd fo (fun x => gets fun _ => (dsOf x).map fun ds => ds.map (·.1)) s := id rfl
theorem x_fDNewM : fDNewM s = .ok (.c s.ce.length) { s with ce := s.ce ++ [.m []] } := id rfl
theorem x_fDPut (fo fi fx : M Vl) : fDPut fo fi fx s = bnd fx (fun x => bnd fo fun o => bnd fi fun i => bnd (frz x) fun d => bnd (putC o i d) fun _ => DL.ret .nx) s := id rfl
theorem x_putC (o i : Vl) (d : D) : putC o i d s = match o, i with
  | .c j, .d y => match s.ce[j]?, keyD y with
    | some (.m kvs), some k => if kvs.length < 1000000 then .ok () { s with ce := s.ce.set j (.m (putD kvs k d)) } else .no
    | _, _ => .no
  | _, _ => .no := id rfl
theorem x_fL6 (f : M (List D)) : fL6 f s = bnd f (fun xs => if xs.length ≤ 1000000 then DL.ret xs else stuck) s := id rfl
end
/-! loops that leave the cells -/
section
variable {sl : List (Option Vl)} {ce : List Ce} {k : Vl → M Unit} {t : M Bool} {F : M (List D)} {ek ev : M Vl}
end
end DL

end DLsec_35

section DLsec_36
set_option maxRecDepth 100000
/-! tuples that name cells -/
namespace DL
open PySem PySem.Spec PyProof.Rows L2
def fTupC (f : M (List Vl)) : M Vl := bnd f fun xs s => if xs.length ≤ 1000000 then .ok (.c s.ce.length) { s with ce := s.ce ++ [.t xs] } else .no
/-- as data, no cell is cut -/
def fFrzN (f : M Vl) : M Vl := bnd f fun x => bnd (frz x) fun y => ret (.d y)
def oIxT : O2 Vl := fun x y s => match x, y with
  | .c j, .d (.int i) => match s.ce[j]? with
    | some (.t xs) => atI xs i
    | _ => none
  | .d (.tuple xs), .d (.int i) => (atI xs i).map .d
  | _, _ => none
section
variable {mg : Str → Option Value} {W : WX} {B : Bd mg} {σ : St} {H Hi : Hp} {as : List Addr} {s : S}
variable {ta tb tc te : TE} {fa fb fc fe : M Vl}
end
theorem x_fTupC (f : M (List Vl)) (s : S) : fTupC f s = bnd f (fun xs s => if xs.length ≤ 1000000 then .ok (.c s.ce.length) { s with ce := s.ce ++ [.t xs] } else .no) s := id rfl
theorem x_fFrzN (f : M Vl) (s : S) : fFrzN f s = bnd f (fun x => bnd (frz x) fun y => DL.ret (.d y)) s := id rfl
end DL

end DLsec_36

section DLsec_37
set_option maxRecDepth 100000
/-! range(i, j, -1) -/
namespace DL
open PySem PySem.Spec PyProof.Rows L2
def rngD (hi : Int) (n : Nat) : List D := (List.range n).map fun i => .int (hi + (i : Nat) * (-1))
def fRng3 (f : M (List Vl)) : M (List D) := bnd f fun vs => match vs with
  | [.d (.int i), .d (.int j), .d (.int c)] => if ((-1000000000 ≤ i ∧ i ≤ 1000000000) ∧ -1000000000 ≤ j ∧ j ≤ 1000000000) ∧ c = -1 then ret (rngD i (i - j).toNat) else stuck
  | _ => stuck
section
variable {mg : Str → Option Value} {W : WX} {Hi : Hp}
end
theorem x_fRng3 (fA : M (List Vl)) (s : S) : fRng3 fA s = bnd fA (fun vs => match vs with
  | [.d (.int i), .d (.int j), .d (.int c)] => if ((-1000000000 ≤ i ∧ i ≤ 1000000000) ∧ -1000000000 ≤ j ∧ j ≤ 1000000000) ∧ c = -1 then DL.ret (rngD i (i - j).toNat) else stuck
  | _ => stuck) s := id rfl
end DL

end DLsec_37

section DLsec_38
set_option maxRecDepth 100000
/-! a name's dict becomes data, the name with it -/
namespace DL
open PySem PySem.Spec PyProof.Rows L2
def fFrzV (i : Nat) : M Vl := fun s => match s.sl[i]? with
  | some (some (.c j)) => match s.ce[j]? with
    | some (.m kvs) => .ok (.d (.dict (kvs.map fun p => (kD p.1, p.2)))) ⟨s.sl.set i (some (.d (.dict (kvs.map fun p => (kD p.1, p.2))))), s.ce.set j .g⟩
    | _ => .no
  | _ => .no
section
variable {mg : Str → Option Value} {W : WX} {B : Bd mg} {σ : L2.St} {H Hi : Hp} {as : List Addr} {s : S}
end
theorem x_fFrzV (i : Nat) (s : S) : fFrzV i s = match s.sl[i]? with
  | some (some (.c j)) => match s.ce[j]? with
    | some (.m kvs) => .ok (.d (.dict (kvs.map fun p => (kD p.1, p.2)))) ⟨s.sl.set i (some (.d (.dict (kvs.map fun p => (kD p.1, p.2))))), s.ce.set j .g⟩
    | _ => .no
  | _ => .no := id rfl
end DL

end DLsec_38

section DLsec_39
set_option maxRecDepth 100000
/-! sets of ints whose tables are known: set(d), | -/
namespace DL
open PySem PySem.Spec PyProof.Rows L2
/-- masks whose round meets every slot -/
def Mq (m : Nat) : Prop := (∀ j, j ≤ m → ∃ b, b ≤ m ∧ lcgN m b = j) ∧ lcgN m (m + 1) = 0
def mqT (m : Nat) : Bool := ((List.range (m + 1)).all fun j => (List.range (m + 1)).any fun b => lcgN m b == j) && (lcgN m (m + 1) == 0)
theorem mq_of {m : Nat} (h : mqT m = true) : Mq m := by
  unfold mqT at h
  rw [Bool.and_eq_true] at h
  refine ⟨fun j hj => ?_, by simpa using h.2⟩
  obtain ⟨b, hb, e⟩ := List.any_eq_true.mp (List.all_eq_true.mp h.1 j (List.mem_range.mpr (by omega)))
  exact ⟨b, by have := List.mem_range.mp hb; omega, by simpa using e⟩
theorem mq7 : Mq 7 := mq_of (by decide +kernel)
theorem mq31 : Mq 31 := mq_of (by decide +kernel)
theorem mq127 : Mq 127 := mq_of (by decide +kernel)
theorem Mq.turn {m : Nat} (hm : Mq m) : ∀ k, lcgN m (k + (m + 1)) = lcgN m k
  | 0 => by rw [Nat.zero_add]; exact hm.2
  | k + 1 => by
    have e : k + 1 + (m + 1) = (k + (m + 1)) + 1 := by omega
    rw [e]
    show (lcgN m (k + (m + 1)) * 5 + 1) % (m + 1) = (lcgN m k * 5 + 1) % (m + 1)
    rw [hm.turn k]
theorem Mq.all {m : Nat} (hm : Mq m) {i j : Nat} (hi : i ≤ m) (hj : j ≤ m) : ∃ k, k ≤ m ∧ lcgI m i k = j := by
  obtain ⟨a, ha, rfl⟩ := hm.1 i hi
  obtain ⟨b, hb, rfl⟩ := hm.1 j hj
  by_cases c : a ≤ b
  · exact ⟨b - a, by omega, by rw [lcgN_add]; congr 1; omega⟩
  · refine ⟨b + (m + 1) - a, by omega, ?_⟩
    have e : a + (b + (m + 1) - a) = b + (m + 1) := by omega
    rw [lcgN_add, e, hm.turn]
theorem Mq.meets {m : Nat} (hm : Mq m) (h : Int) {j : Nat} (hj : j ≤ m) : ∃ n, n ≤ m + 12 ∧ runI m (SetTable.bits h) n = j := by
  obtain ⟨k, hk, e⟩ := hm.all (runI_le m (SetTable.bits h) 12) hj
  refine ⟨12 + k, by omega, ?_⟩
  rw [runI_tail (bits_lt h), e]
theorem wayLe (m : Nat) (h : Int) (k : Nat) : way m h k ≤ m := by
  have hi : SetTable.bits h % (m + 1) ≤ m := Nat.le_of_lt_succ (Nat.mod_lt _ (Nat.succ_pos m))
  have r := runEnd_bd hi
  have q : (runAt m (SetTable.bits h % (m + 1)) (SetTable.bits h)).j + (runAt m (SetTable.bits h % (m + 1)) (SetTable.bits h)).more ≤ m := by
    simp only [runAt]
    omega
  have z := nth_in (m := m) k _ q
  unfold way
  omega
/-! ### laying all anew -/
/-- who sits where: n sit, each once -/
structure Sit (m n : Nat) (ow : Array (Option Nat)) : Prop where
  sz : ow.size = m + 1
  al : ∀ k, k < n → ∃ j, j ≤ m ∧ oAt ow j = some k
  ps : ∃ ps : List Nat, ps.length = n ∧ ∀ j, j ≤ m → oAt ow j ≠ none → j ∈ ps
theorem Sit.new (m : Nat) : Sit m 0 (Array.replicate (m + 1) none) where
  sz := Array.size_replicate
  al := fun k hk => by omega
  ps := ⟨[], rfl, fun j hj e => (e (oAt_init hj)).elim⟩
theorem Sit.next {m n : Nat} {ow : Array (Option Nat)} (hm : Mq m) (W : Sit m n ow) (hl : n ≤ m) (h : Int) :
    ∃ j, SetTable.layClean.free m ow (SetTable.turns m) (SetTable.bits h % (m + 1)) (SetTable.bits h) = some j ∧ Sit m (n + 1) (ow.setIfInBounds j (some n)) := by
  obtain ⟨ps, lp, hp⟩ := W.ps
  obtain ⟨j0, b0, n0⟩ := st_missing ps (m + 1) (by omega)
  have f0 : oAt ow j0 = none := Classical.byContradiction fun c => n0 (hp j0 (by omega) c)
  obtain ⟨i, hi, ei⟩ := hm.meets h (show j0 ≤ m by omega)
  have ew : way m h (off m (SetTable.bits h % (m + 1)) (SetTable.bits h) i) = j0 := by
    unfold way
    rw [nth_off, itL_run]
    exact ei
  obtain ⟨K, a1, a2, a3⟩ := st_least (p := fun k => oAt ow (way m h k) = none) (off m (SetTable.bits h % (m + 1)) (SetTable.bits h) i) (by show oAt ow (way m h _) = none; rw [ew]; exact f0)
  have hw := wayLe m h K
  have fr := free_spec m ow (SetTable.turns m) i (SetTable.bits h % (m + 1)) (SetTable.bits h) K (by unfold SetTable.turns; omega) a1 (fun k hk => by
      have q := a3 k hk
      unfold way at q
      cases z : oAt ow (nth m (runAt m (SetTable.bits h % (m + 1)) (SetTable.bits h)) k).j with
      | none => exact (q z).elim
      | some _ => rfl) (by
      have q : oAt ow (nth m (runAt m (SetTable.bits h % (m + 1)) (SetTable.bits h)) K).j = none := a2
      rw [q]
      rfl)
  have hs : way m h K < ow.size := by rw [W.sz]; omega
  refine ⟨way m h K, fr, by rw [Array.size_setIfInBounds, W.sz], fun k hk => ?_, way m h K :: ps, by rw [List.length_cons, lp], fun j hj e => ?_⟩
  · by_cases c : k = n
    · subst c
      exact ⟨_, hw, oAt_set_self _ hs⟩
    · obtain ⟨j, hj, e⟩ := W.al k (by omega)
      refine ⟨j, hj, ?_⟩
      rw [oAt_set_ne _ fun c => by rw [c, a2] at e; cases e]
      exact e
  · by_cases c : j = way m h K
    · rw [c]; exact List.mem_cons_self
    · rw [oAt_set_ne _ c] at e
      exact List.mem_cons_of_mem _ (hp j hj e)
end DL

end DLsec_39

section DLsec_40
set_option maxRecDepth 100000
/-! sets of ints whose tables are known: on the heap -/
namespace DL
open PySem PySem.Spec PyProof.Rows L2
def SetQ (w : World) (h : Heap) (a : Addr) (ns : List Int) (m : Nat) : Prop :=
  ∃ o es ep t, h.get? a = some o ∧ o.ExactSet ∧ o.data = .set es ep t ∧ (∀ e ∈ es.toList, GoodE e) ∧ (es.toList.map keyOf).Perm ns ∧ ns.Nodup ∧ Ris t.place.toList ∧ t.place.size = es.size ∧ t.dummies = #[] ∧ t.mask = m ∧ t.plain = true ∧ (w.params.followText "set-order" = true ∨ t.led = true) ∧ ns.length ≤ m ∧ m < 1000
theorem SetQ.at {w : World} {h h' : Heap} {a : Addr} {ns : List Int} {m : Nat} (R : SetQ w h a ns m) (k : ∀ o, h.get? a = some o → h'.get? a = some o) : SetQ w h' a ns m := by
  obtain ⟨o, es, ep, t, q0, r⟩ := R
  exact ⟨o, es, ep, t, k o q0, r⟩
theorem fits_q {t : SetTable} {n : Nat} (h1 : t.place.size = n) (h2 : t.dummies = #[]) (h3 : n ≤ t.mask) : t.fits n = true := by
  unfold SetTable.fits SetTable.fill
  rw [h1, h2]
  simpa using h3
section
variable {P : Program} {w : World} {A : Around} {E : Value → Shared → Prop} {s : Shared} {a : Addr} {ns : List Int} {m : Nat}
end
end DL

end DLsec_40

section DLsec_41
set_option maxRecDepth 100000
/-! sets of ints whose tables are known: room, merging -/
namespace DL
open PySem PySem.Spec PyProof.Rows L2
/-- the mask behind setRoomFor -/
def rmM (n m more : Nat) : Nat := if (n + more) * 5 ≥ m * 3 then SetTable.sizeAbove ((n + more) * 2) - 1 else m
section
variable {P : Program} {w : World} {A : Around} {E : Value → Shared → Prop} {s : Shared} {a : Addr} {ns : List Int} {m : Nat}
end
end DL

end DLsec_41

section DLsec_42
set_option maxRecDepth 100000
/-! sets of ints whose tables are known: copies, unions -/
namespace DL
open PySem PySem.Spec PyProof.Rows L2
section
variable {P : Program} {w : World} {A : Around} {E : Value → Shared → Prop} {s : Shared} {a b : Addr} {ns ms : List Int} {m mb : Nat}
end
end DL

end DLsec_42

section DLsec_43
set_option maxRecDepth 100000
/-! sets of ints whose tables are known: set(d) -/
namespace DL
open PySem PySem.Spec PyProof.Rows L2
section
variable {P : Program} {w : World} {A : Around} {E : Value → Shared → Prop} {s : Shared}
end
end DL

end DLsec_43

section DLsec_44
set_option maxRecDepth 100000
/-! sets of ints whose tables are known: | -/
namespace DL
open PySem PySem.Spec PyProof.Rows L2
theorem SetQ.type {w : World} {s : Shared} {a : Addr} {ns : List Int} {m : Nat} (R : SetQ w s.heap a ns m) : s.TypeIs (.ref a) "set" := by
  obtain ⟨o, es, ep, t, q0, q1, _⟩ := R
  exact ⟨o, q0, q1.1⟩
section
variable {P : Program} {w : World} {A : Around} {E : Value → Shared → Prop} {s : Shared} {a b : Addr} {ns ms : List Int} {m mb : Nat}
end
end DL

end DLsec_44

section DLsec_45
set_option maxRecDepth 100000
/-! sorted(set(d) | set(e)) -/
namespace DL
open PySem PySem.Spec PyProof.Rows L2
structure TabP (n k : Nat) : Prop where
  m2 : Mq (rmM n (rmM 0 7 n) k)
  b2 : rmM n (rmM 0 7 n) k < 1000
  m1 : Mq (rmM 0 7 n)
  b1 : rmM 0 7 n < 1000
  l2 : (n + k) * 5 < rmM n (rmM 0 7 n) k * 3
  l1 : n * 5 < rmM 0 7 n * 3
  w2 : SetTable.sizeAbove ((n + k) * 2) ≤ 1000
  w1 : SetTable.sizeAbove (n * 2) ≤ 1000
/-! ### the data side -/
def fSrtU (i j : Nat) : M (List D) := bnd (fVar i) fun x => bnd (fVar j) fun y => gets fun s => match dictOf s x, dictOf s y with
  | some d, some e => match intKeys d, intKeys e with
    | some ks, some ls => if ks.length < 32 ∧ ls.length < 32 then some ((srtS (ks ++ ls)).map .int) else none
    | _, _ => none
  | _, _ => none
section
variable {mg : Str → Option Value} {W : WX}
theorem x_fSrtU {i j : Nat} {s : S} : fSrtU i j s = bnd (fVar i) (fun x => bnd (fVar j) fun y => gets fun s => match dictOf s x, dictOf s y with
  | some d, some e => match intKeys d, intKeys e with
    | some ks, some ls => if ks.length < 32 ∧ ls.length < 32 then some ((srtS (ks ++ ls)).map .int) else none
    | _, _ => none
  | _, _ => none) s := id rfl
end
end DL

end DLsec_45

section DLsec_46
set_option maxRecDepth 100000
/-! calls that only read: lists of any data are shown, and are cells again behind the call -/
namespace DL
open PySem PySem.Spec PyProof.Rows L2
section
variable {mg : Str → Option Value} {W : WX} {B : Bd mg} {σ : St} {H Hi : Hp} {as : List Addr} {s : S}
/-! a, b = a list -/
end
section
variable {X : Cx}
end
end DL

end DLsec_46

section DLsec_47
set_option maxRecDepth 100000
/-! sorted(xs), xs a list of any data that are alike -/
namespace DL
open PySem PySem.Spec PyProof.Rows L2
section
variable {h : Heap}
end
/-! the data side -/
end DL

end DLsec_47

section DLsec_48
set_option maxRecDepth 100000
/-! a list that is only read from here on -/
namespace DL
open PySem PySem.Spec PyProof.Rows L2
section
variable {mg : Str → Option Value} {W : WX} {B : Bd mg} {σ : St} {H Hi : Hp} {as : List Addr} {s : S}
end
end DL

end DLsec_48

section DLsec_49
set_option maxRecDepth 100000
/-! sets of nested tuples: keys, the search -/
namespace DL
open PySem PySem.Spec PyProof.Rows L2 SeqAt
mutual
def numK : NestedKey → Bool
  | .none => true
  | .num _ => true
  | .text _ => false
  | .tup ks => numKs ks
def numKs : List NestedKey → Bool
  | [] => true
  | k :: ks => numK k && numKs ks
end
abbrev NKd (P : Program) (w : World) : HeapKind P w NestedKey := nestedKind P w
abbrev nh (w : World) (k : NestedKey) : Int := NestedKey.hash w k
/-- the tuple at b is the key k -/
structure IsN (h : Heap) (k : NestedKey) (b : Addr) : Prop where
  rd : NestedIs h k (.ref b)
  dp : k.depth ≤ 8
  nm : numK k = true
section
variable {P : Program} {w : World}
def CalmAt (P : Program) (w : World) (n : Nat) (s : Shared) (v : Value) : Prop := ∀ (A : Around) (E : Value → Shared → Prop) (Q : Bool → Shared → Prop), Q false s → wpAny (model P w) A (ofAClassStatement n v) Q E s
def ByValAt (P : Program) (w : World) (n : Nat) (s : Shared) (v : Value) : Prop := ∀ (A : Around) (E : Value → Shared → Prop) (Q : Bool → Shared → Prop), Q true s → wpAny (model P w) A (hashByValue n v) Q E s
theorem CalmAt.tup {n : Nat} {s : Shared} {b : Addr} {ob : Obj} {us : Array Value} {m : Nat} (g : s.heap.get? b = some ob) (gc : ob.cls = .type "tuple") (gd : ob.data = .seq us m) (hu : ∀ u ∈ us.toList, CalmAt P w n s u) : CalmAt P w (n + 1) s (.ref b) := fun A E Q q => by
  have ty : s.TypeIs (.ref b) "tuple" := ⟨ob, g, gc⟩
  unfold ofAClassStatement
  refine wpAny_bind (wpAny_typeOf ty ?_)
  dsimp only
  have tt : (("tuple" : String) == "tuple") = true := by decide
  simp only [tt, if_true, Bool.not_true, Bool.false_eq_true, if_false]
  try refine wpAny_bind (wpAny_pure ?_)
  try simp only [Bool.not_true, Bool.false_eq_true, if_false]
  show wpAny _ _ (seqItems? (.ref b) >>= _) _ _ s
  refine wpAny_bind (wpAny_seqItems g gd ?_)
  dsimp only
  refine wpAny_bind ?_
  show wpAny _ _ (forIn us _ _) _ _ s
  rw [← Array.forIn_toList]
  refine wpAny_forIn_list _ (fun more r s' => r.1 = none ∧ s' = s ∧ ∀ u ∈ more, CalmAt P w n s u) _ ?_ ?_ _ _ ⟨rfl, rfl, hu⟩
  · rintro u more r s' ⟨hr, rfl, hall⟩
    refine wpAny_bind (hall u List.mem_cons_self _ _ _ ?_)
    simp only [Bool.false_eq_true, if_false]
    exact wpAny_pure ⟨rfl, rfl, fun x hx => hall x (List.mem_cons_of_mem _ hx)⟩
  · rintro ⟨r1, r2⟩ s' ⟨hr, rfl, _⟩
    simp only at hr
    subst hr
    exact wpAny_pure q
theorem ByValAt.tup {n : Nat} {s : Shared} {b : Addr} {ob : Obj} {us : Array Value} {m : Nat} (g : s.heap.get? b = some ob) (gc : ob.cls = .type "tuple") (gd : ob.data = .seq us m) (hu : ∀ u ∈ us.toList, ByValAt P w n s u) : ByValAt P w (n + 1) s (.ref b) := fun A E Q q => by
  have ty : s.TypeIs (.ref b) "tuple" := ⟨ob, g, gc⟩
  unfold hashByValue
  refine wpAny_bind (wpAny_specialOf ty F.slot_tuple_hash.lookup ?_)
  show wpAny _ _ (seqItems? (.ref b) >>= _) _ _ s
  refine wpAny_bind (wpAny_seqItems g gd ?_)
  refine wpAny_bind ?_
  show wpAny _ _ (forIn us _ _) _ _ s
  rw [← Array.forIn_toList]
  refine wpAny_forIn_list _ (fun more r s' => r.1 = none ∧ s' = s ∧ ∀ u ∈ more, ByValAt P w n s u) _ ?_ ?_ _ _ ⟨rfl, rfl, hu⟩
  · rintro u more r s' ⟨hr, rfl, hall⟩
    refine wpAny_bind (hall u List.mem_cons_self _ _ _ ?_)
    simp only [Bool.not_true, Bool.false_eq_true, if_false]
    exact wpAny_pure ⟨rfl, rfl, fun x hx => hall x (List.mem_cons_of_mem _ hx)⟩
  · rintro ⟨r1, r2⟩ s' ⟨hr, rfl, _⟩
    simp only at hr
    subst hr
    exact wpAny_pure q
variable {A : Around} {E : Value → Shared → Prop} {s : Shared}
theorem IsN.kd {h : Heap} {k : NestedKey} {b : Addr} (x : IsN h k b) : (NKd P w).is h k b := ⟨x.rd, x.dp⟩
theorem IsN.keep {h h' : Heap} {k : NestedKey} {b : Addr} (x : IsN h k b) (up : ∀ c o, h.get? c = some o → h'.get? c = some o) : IsN h' k b := ⟨NestedIs.at (fun a o _ _ g _ => up a o g) k _ x.rd, x.dp, x.nm⟩
/-- what a set's object does not touch -/
theorem IsN.but {h h' : Heap} {k : NestedKey} {a b : Addr} {o : Obj} {es : Array (Int × Value)} {ep : Nat} {t : SetTable} (x : IsN h k b) (g : h.get? a = some o) (gd : o.data = .set es ep t) (hs : Heap.SameBut a h h') : IsN h' k b :=
  ⟨NestedIs.at (fun c oc vs n gc hc => by
    refine (hs.2 c fun e => ?_).trans gc
    subst e
    rw [g] at gc
    cases gc
    rw [gd] at hc
    cases hc) k _ x.rd, x.dp, x.nm⟩
theorem IsN.inj {h : Heap} {k j : NestedKey} {b : Addr} (x : IsN h k b) (y : IsN h j b) : k = j := NestedIs.inj _ _ _ x.rd y.rd
/-! the set -/
def rowsN (w : World) (L : List (Addr × NestedKey)) : List (Int × Value) := L.map fun p => (nh w p.2, Value.ref p.1)
/-- what adding asks of a table -/
structure Bas (t : SetTable) (n : Nat) : Prop where
  ris : Ris t.place.toList
  dm : t.dummies = #[]
  sz : t.place.size = n
  mq : Mq t.mask
  odd : t.mask % 2 = 1
  mx : t.mask ≤ 2047
theorem mq_ok {m : Nat} (h : MaskOk m) : Mq m ∧ m % 2 = 1 ∧ m ≤ 2047 := by
  rcases h with e | e | e
  · subst e; exact ⟨mq7, rfl, by decide⟩
  · subst e; exact ⟨mq31, rfl, by decide⟩
  · subst e; exact ⟨mq127, rfl, by decide⟩
theorem Bas.of {t : SetTable} {hs : List Int} {n : Nat} (T : TabOk t hs) (hn : hs.length = n) : Bas t n :=
  ⟨T.ris, T.dm, T.sz.trans hn, (mq_ok T.mok).1, (mq_ok T.mok).2.1, (mq_ok T.mok).2.2⟩
theorem Bas.first {t : SetTable} {n : Nat} (T : Bas t n) (hl : n ≤ t.mask) (h : Int) : ∃ K, K < 10 * SetTable.turns t.mask ∧ way t.mask h K ∉ t.place.toList ∧ ∀ k, k < K → way t.mask h k ∈ t.place.toList := by
  obtain ⟨j0, b0, n0⟩ := st_missing t.place.toList (t.mask + 1) (by rw [Array.length_toList, T.sz]; omega)
  obtain ⟨i, hi, ei⟩ := T.mq.meets h (show j0 ≤ t.mask by omega)
  obtain ⟨k, hk, ek⟩ := run_nth t.mask (SetTable.bits h) i
  have ew : way t.mask h k = j0 := by
    unfold way
    rw [ek]
    exact ei
  obtain ⟨K, a1, a2, a3⟩ := st_least (p := fun k => way t.mask h k ∉ t.place.toList) k (by simp only [ew]; exact n0)
  exact ⟨K, by unfold SetTable.turns; omega, a2, fun c hc => Classical.not_not.mp (a3 c hc)⟩
structure NSet (w : World) (h : Heap) (a : Addr) (L : List (Addr × NestedKey)) (es : Array (Int × Value)) (ep : Nat) (t : SetTable) : Prop where
  obj : ∃ o, h.get? a = some o ∧ o.ExactSet ∧ o.data = .set es ep t
  rws : es.toList = rowsN w L
  tbl : Bas t L.length
  rch : L.length < 64 → TabOk t (L.map fun p => nh w p.2)
  dis : (L.map (·.2)).Nodup
  kys : ∀ p ∈ L, IsN h p.2 p.1
  pln : t.plain = true
  ldd : w.params.followText "set-order" = true ∨ t.led = true
  rom : L.length * 5 < t.mask * 3
  sml : L.length ≤ 1000
  kind : t.mask = 7 ∨ t.mask = 31 ∨ t.mask = 127 ∨ t.mask = 511 ∨ t.mask = 2047
variable {a : Addr} {L : List (Addr × NestedKey)} {es : Array (Int × Value)} {ep : Nat} {t : SetTable}
theorem NSet.num (Z : NSet w s.heap a L es ep t) : es.size = L.length := by
  have e := congrArg List.length Z.rws
  unfold rowsN at e
  rwa [Array.length_toList, List.length_map] at e
theorem NSet.fit (Z : NSet w s.heap a L es ep t) : t.fits es.size = true := by
  have e1 := Z.tbl.sz
  have e2 := Z.num
  have e3 := Z.rom
  exact fits_q (by omega) Z.tbl.dm (by omega)
theorem NSet.row (Z : NSet w s.heap a L es ep t) {i : Nat} {p : Addr × NestedKey} (h : L[i]? = some p) : es[i]? = some (nh w p.2, Value.ref p.1) := by
  rw [← Array.getElem?_toList, Z.rws]
  unfold rowsN
  rw [List.getElem?_map, h]
  rfl
end
end DL

end DLsec_49

section DLsec_50
set_option maxRecDepth 100000
/-! sets of nested tuples: adding -/
namespace DL
open PySem PySem.Spec PyProof.Rows L2 SeqAt
section
variable {P : Program} {w : World} {A : Around} {E : Value → Shared → Prop} {s : Shared}
variable {a : Addr} {L : List (Addr × NestedKey)} {es : Array (Int × Value)} {ep : Nat} {t : SetTable}
end
end DL

end DLsec_50

section DLsec_51
set_option maxRecDepth 100000
/-! set(xs) and sorted(set), xs a list of nested tuples -/
namespace DL
open PySem PySem.Spec PyProof.Rows L2 SeqAt
/-- what the set has from the first i -/
structure Has (ks : List (Addr × NestedKey)) (i : Nat) (L : List (Addr × NestedKey)) : Prop where
  sub : ∀ p ∈ L, p ∈ ks.take i
  all : ∀ p ∈ ks.take i, p.2 ∈ L.map (·.2)
theorem Has.none (ks : List (Addr × NestedKey)) : Has ks 0 [] := ⟨fun p h => (by cases h), fun p h => (by simp at h)⟩
theorem Has.old {ks L : List (Addr × NestedKey)} {i : Nat} {x : Addr × NestedKey} (g : Has ks i L) (h : ks[i]? = some x) (hm : x.2 ∈ L.map (·.2)) : Has ks (i + 1) L := by
  have e : ks.take (i + 1) = ks.take i ++ [x] := by rw [List.take_add_one, h]; rfl
  refine ⟨fun p hp => ?_, fun p hp => ?_⟩
  · rw [e]; exact List.mem_append_left _ (g.sub p hp)
  · rw [e] at hp
    rcases List.mem_append.mp hp with z | z
    · exact g.all p z
    · rw [List.mem_singleton.mp z]; exact hm
theorem Has.new {ks L M : List (Addr × NestedKey)} {i : Nat} {x : Addr × NestedKey} (g : Has ks i L) (h : ks[i]? = some x) (pm : M.Perm (x :: L)) : Has ks (i + 1) M := by
  have e : ks.take (i + 1) = ks.take i ++ [x] := by rw [List.take_add_one, h]; rfl
  refine ⟨fun p hp => ?_, fun p hp => ?_⟩
  · rw [e]
    rcases List.mem_cons.mp (pm.mem_iff.mp hp) with z | z
    · rw [z]; exact List.mem_append_right _ (List.mem_singleton.mpr rfl)
    · exact List.mem_append_left _ (g.sub p z)
  · rw [(pm.map (·.2)).mem_iff, List.map_cons]
    rw [e] at hp
    rcases List.mem_append.mp hp with z | z
    · exact List.mem_cons_of_mem _ (g.all p z)
    · rw [List.mem_singleton.mp z]; exact List.mem_cons_self
/-- at most 63 different keys -/
def Few (ks : List (Addr × NestedKey)) : Prop := ∀ M : List NestedKey, M.Nodup → (∀ k ∈ M, k ∈ ks.map (·.2)) → M.length < 64
/-- at most 63 different keys, or at most 1000 that all are different -/
def Fewer (ks : List (Addr × NestedKey)) : Prop := Few ks ∨ ((ks.map (·.2)).Nodup ∧ ks.length ≤ 1000)
theorem nodup_le {M T : List NestedKey} (hn : M.Nodup) (hs : ∀ k ∈ M, k ∈ T) : M.length ≤ T.length := by
  induction M generalizing T with
  | nil => exact Nat.zero_le _
  | cons k M ih =>
    obtain ⟨n1, n2⟩ := List.nodup_cons.mp hn
    have hm := hs k List.mem_cons_self
    have := ih (T := T.erase k) n2 fun j hj => (List.mem_erase_of_ne fun e => n1 (by rw [← e]; exact hj)).2 (hs j (List.mem_cons_of_mem _ hj))
    rw [List.length_erase_of_mem hm] at this
    have hp := List.length_pos_of_mem hm
    rw [List.length_cons]
    omega
theorem Fewer.step {ks L : List (Addr × NestedKey)} {i : Nat} {p : Addr × NestedKey} (few : Fewer ks) (g : Has ks i L) (nd : (L.map (·.2)).Nodup) (h : ks[i]? = some p) : (p.2 ∈ L.map (·.2) → L.length < 64) ∧ (p.2 ∉ L.map (·.2) → L.length + 1 ≤ 1000) := by
  have sub : ∀ k ∈ L.map (·.2), k ∈ ks.map (·.2) := fun k hk => by
    obtain ⟨q, hq, rfl⟩ := List.mem_map.mp hk
    exact List.mem_map.mpr ⟨q, List.mem_of_mem_take (g.sub q hq), rfl⟩
  have hpk : p.2 ∈ ks.map (·.2) := List.mem_map.mpr ⟨p, List.mem_of_getElem? h, rfl⟩
  rcases few with few | ⟨f1, f2⟩
  · have h1 := few (L.map (·.2)) nd sub
    rw [List.length_map] at h1
    exact ⟨fun _ => h1, fun _ => by omega⟩
  · have hlen : i < ks.length := (List.getElem?_eq_some_iff.mp h).1
    have e : ks = ks.take i ++ p :: ks.drop (i + 1) := by
      have h0 : ks[i] = p := by
        have := List.getElem?_eq_getElem hlen
        rw [h] at this
        exact (Option.some.inj this).symm
      rw [← h0, List.getElem_cons_drop, List.take_append_drop]
    refine ⟨fun hm => ?_, fun hn => ?_⟩
    · exfalso
      obtain ⟨q, hq, e2⟩ := List.mem_map.mp hm
      have hq2 := g.sub q hq
      rw [e, List.map_append, List.map_cons] at f1
      exact (List.nodup_append.mp f1).2.2 q.2 (List.mem_map.mpr ⟨q, hq2, rfl⟩) p.2 List.mem_cons_self e2
    · have h1 := nodup_le (M := L.map (·.2)) (T := (ks.take i).map (·.2)) nd fun k hk => by
        obtain ⟨q, hq, rfl⟩ := List.mem_map.mp hk
        exact List.mem_map.mpr ⟨q, g.sub q hq, rfl⟩
      rw [List.length_map, List.length_map, List.length_take] at h1
      omega
section
variable {P : Program} {w : World} {A : Around} {E : Value → Shared → Prop} {s : Shared}
theorem NSet.keep {h h' : Heap} {a : Addr} {L : List (Addr × NestedKey)} {es : Array (Int × Value)} {ep : Nat} {t : SetTable} (Z : NSet w h a L es ep t) (ha : ∀ o, h.get? a = some o → h'.get? a = some o) (ks : ∀ p ∈ L, IsN h' p.2 p.1) : NSet w h' a L es ep t := by
  obtain ⟨o, g, r⟩ := Z.obj
  exact ⟨⟨o, ha o g, r⟩, Z.rws, Z.tbl, Z.rch, Z.dis, ks, Z.pln, Z.ldd, Z.rom, Z.sml, Z.kind⟩
end
end DL

end DLsec_51

section DLsec_52
set_option maxRecDepth 100000
/-! sorted(set), the set of nested tuples -/
namespace DL
open PySem PySem.Spec PyProof.Rows L2 SeqAt
mutual
/-- a key as data: whole numbers, None, tuples -/
def kdat : NestedKey → D
  | .none => .none
  | .num i => .int i
  | .text x => .str x
  | .tup ks => .tuple (kdats ks)
def kdats : List NestedKey → List D
  | [] => []
  | k :: ks => kdat k :: kdats ks
end
section
variable {P : Program} {w : World} {A : Around} {E : Value → Shared → Prop} {s : Shared}
end
end DL

end DLsec_52

section DLsec_53
set_option maxRecDepth 100000
/-! sorted(set(xs)), xs a list of nested tuples: the rules, the data side -/
namespace DL
open PySem PySem.Spec PyProof.Rows L2 SeqAt
structure NSet0 (w : World) (h : Heap) (a : Addr) (L : List (Addr × NestedKey)) : Prop where
  ex : ∃ (es : Array (Int × Value)) (ep : Nat) (t : SetTable), (∃ o, h.get? a = some o ∧ o.ExactSet ∧ o.data = .set es ep t) ∧ es.toList = rowsN w L ∧ Bas t L.length ∧ (L.length < 64 → TabOk t (L.map fun p => nh w p.2)) ∧ (L.map (·.2)).Nodup ∧ t.plain = true ∧ (w.params.followText "set-order" = true ∨ t.led = true) ∧ L.length * 5 < t.mask * 3 ∧ L.length ≤ 1000 ∧ (t.mask = 7 ∨ t.mask = 31 ∨ t.mask = 127 ∨ t.mask = 511 ∨ t.mask = 2047)
theorem NSet.z0 {w : World} {h : Heap} {a : Addr} {L : List (Addr × NestedKey)} {es : Array (Int × Value)} {ep : Nat} {t : SetTable} (Z : NSet w h a L es ep t) : NSet0 w h a L := ⟨es, ep, t, Z.obj, Z.rws, Z.tbl, Z.rch, Z.dis, Z.pln, Z.ldd, Z.rom, Z.sml, Z.kind⟩
theorem NSet0.whole {w : World} {h : Heap} {a : Addr} {L : List (Addr × NestedKey)} (Z : NSet0 w h a L) (ks : ∀ p ∈ L, IsN h p.2 p.1) : ∃ es ep t, NSet w h a L es ep t := by
  obtain ⟨es, ep, t, h1, h2, h3, hr, h4, h5, h6, h7, h8, h9⟩ := Z.ex
  exact ⟨es, ep, t, h1, h2, h3, hr, h4, ks, h5, h6, h7, h8, h9⟩
/-- p is told of as data -/
structure KeyAt (K : PySem.W.Frag) (H : Hp) (p : Addr × NestedKey) : Prop where
  dp : Dp K H (.ref p.1) (kdat p.2)
  nm : numK p.2 = true
  d8 : p.2.depth ≤ 8
section
variable {X : Cx}
end
/-! the data side -/
end DL

end DLsec_53

section DLsec_54
set_option maxRecDepth 100000
/-! sorted(set(xs)): the reading -/
namespace DL
open PySem PySem.Spec PyProof.Rows L2 SeqAt
section
variable {mg : Str → Option Value} {W : WX} {ta : TE} {fa : M Vl}
end
end DL

end DLsec_54

section DLsec_55
set_option maxRecDepth 100000
/-! a law that ends in a call -/
namespace DL
open PySem PySem.Spec PyProof.Rows L2 SeqAt
end DL

end DLsec_55

section DLsec_56
set_option maxRecDepth 100000
/-! zip of two lists or of two tuples -/
namespace DL
open PySem PySem.Spec PyProof.Rows L2 SeqAt
section
variable {mg : Str → Option Value} {W : WX} {Hi : Hp}
end
end DL

end DLsec_56

section DLsec_57
set_option maxRecDepth 100000
/-! sum(xs) of whole numbers -/
namespace DL
open PySem PySem.Spec PyProof.Rows L2
section
variable {X : Cx} {K : PySem.W.Frag}
end
end DL

end DLsec_57

section DLsec_58
set_option maxRecDepth 100000
/-! a law whose draws are made first and that ends in a call -/
namespace DL
open PySem PySem.Spec PyProof.Rows L2
end DL

end DLsec_58

section DLsec_59
set_option maxRecDepth 100000
set_option maxHeartbeats 1000000
/-! a lambda without parameters, handed to a def of one's own -/
namespace DL
open PySem PySem.Spec PyProof.Rows L2

/-- the heap behind the making: as it was, or with a greater table and a new code object d -/
def MadeH (H H1 : Hp) (P : Addr) (ps : Array Value) (q : Str) (d : Addr) : Prop :=
  (H1 = H ∧ ∃ p, codeAmong p ps.toList = some (.ref d)) ∨
    ∃ qs : Array Value, H d = none ∧ H1 = upd (upd H P (.tbl qs)) d (LamX.CodeO d q) ∧ TriplesOk qs.toList ∧ ∀ (p : Pos) (u : Value), codeAmong p qs.toList = some u → codeAmong p ps.toList = some u ∨ u = .ref d
section
variable {X : Cx} {pins : List (Addr × Obj)} {σ : St} {H HZ : Hp} {s s1 : Shared}
theorem lam_made {c P : Addr} {ps : Array Value} {ar : Arguments} {e : Expr} {sc : Scope} {pos : Pos} {E Q : Value → Shared → Prop} (I : Inv X pins σ H s)
    (tbl : LamX.TabB X.base X.mg c P) (own : X.env.code = .ref c) (at_ : H P = some (.tbl ps)) (tr : TabR H ps (X.env.qual ++ "<lambda>")) (hdf : defaultsOf ar X.env = ([], []))
    (caught : ∀ y ∈ sc.names, y.2 = .free → ∃ c, X.env.cells.lookup y.1 = some c)
    (go : ∀ (f d : Addr) (u v : Value) (H1 : Hp) (z : Shared), Inv X pins σ H1 z → MadeH H H1 P ps (X.env.qual ++ "<lambda>") d → H1 f = none → f ∉ frs X.stack → H1 d = some (LamX.CodeO d (X.env.qual ++ "<lambda>")) →
      z.heap.get? f = some (PySem.W.kla_obj "<lambda>" (X.env.qual ++ "<lambda>") ar e sc (cloFrom X.env.cells sc.names []) u d v) → s.heap.objs.size ≤ f → Q (.ref f) z) :
    wpAny (model X.prog X.w) X.A (eval (.Lambda ar e sc pos) X.env) Q E s := by
  have built := tbl.bm.keeps I.bk
  have there := I.hok P _ at_
  have off : ∀ f, s.heap.objs.size ≤ f → f ∉ frs X.stack := fun f big z => by
    rcases List.mem_cons.mp (I.stkSub _ z) with w | w
    · have := I.lt
      rw [← w] at this
      exact absurd this (Nat.not_lt_of_le big)
    · exact I.nofs big w
  refine PySem.W.kla_eval hdf ?_
  cases found : codeAmong pos ps.toList with
  | some u =>
    obtain ⟨d, rfl, known⟩ := tr.2 pos u found
    refine PySem.W.kla_makeFunctionHit (P := P) (c := c) (ps := ps) (mg := X.mg) (closure_ok caught) I.ok.glob (I.mod.glob.keeps I.bk) own (tbl.code.keeps I.bk) there tr.1 found built fun v h k more big => ?_
    exact go h.objs.size d _ v H _ (I.kept fun b o w => Heap.get?_push_of_some _ (more b o w)) (.inl ⟨rfl, pos, found⟩) (I.hok.fresh big) (off _ big) known (Heap.get?_push_size _ rfl) big
  | none =>
    refine PySem.W.kla_makeFunction (P := P) (c := c) (ps := ps) (mg := X.mg) (closure_ok caught) I.ok.glob (I.mod.glob.keeps I.bk) own (tbl.code.keeps I.bk) there tr.1 found tbl.gP built fun d v h k more big small named tab => ?_
    obtain ⟨d', oc, vs, t, ed, r1, r2, r3⟩ := named
    cases ed
    have big' : s.heap.objs.size ≤ h.objs.size := Nat.le_trans big (Nat.le_of_lt small)
    have nd : H d = none := I.hok.fresh big
    have J := LamX.inv_table (t' := k) (more := #[rawInt pos.line, rawInt pos.col, .ref d]) (h' := h.push (PySem.W.kla_obj "<lambda>" (X.env.qual ++ "<lambda>") ar e sc (cloFrom X.env.cells sc.names []) ((X.mg "__name__").getD .none) d v)) I at_
      (fun b o nb w => Heap.get?_push_of_some _ (more b o nb w)) (Heap.get?_push_of_some _ tab) big ⟨oc, vs, t, Heap.get?_push_of_some _ r1, r2, r3⟩
    refine go h.objs.size d _ v _ _ J (.inr ⟨_, nd, rfl, ?_, fun p u hu => ?_⟩) ?_ (off _ big') upd_same (Heap.get?_push_size _ rfl) big'
    · have := TriplesOk_snoc pos.line pos.col (.ref d) ps.toList tr.1
      simpa using this
    · have := LamX.among_app (pos := pos) (c := .ref d) ps.toList tr.1 (p' := p) (cv := u) (by simpa using hu)
      exact this
    · rw [upd_ne (Nat.ne_of_gt small), upd_ne (Nat.ne_of_gt (Nat.lt_of_lt_of_le (Heap.lt_size there) big'))]
      exact I.hok.fresh big'
end
end DL

end DLsec_59

section DLsec_60
set_option maxRecDepth 100000
set_option maxHeartbeats 1000000
namespace DL
open PySem PySem.Spec PyProof.Rows L2
/-- the context of a def that is called from X at s -/
abbrev cxIn (X : Cx) (Ng : List Str) (x : Str) (sg : Scope) (g : Addr) (cdg : Value) (s : Shared) (H : Hp) (E : XK) : Cx :=
  cxOf (L2.CX X.prog X.w) X.prog X.w X.K X.mg X.base Ng x sg g cdg X.A X.stack s H E
/-- what stands around the lambda's body, called from that def -/
abbrev aIn (X : Cx) (x : Str) (sg : Scope) (g : Addr) (cdg : Value) (s : Shared) : Around := X.A.deeper (envOfC x sg s.heap.objs.size g cdg)
/-- ask() reads as the body at the maker's state τ -/
def tAsk (W : WX) (f d : Addr) (q : Str) (τ : St) (t : XK → TE) : TE := fun σ G Q => σ[0]? = some (some (.ref f)) ∧ G d = some (LamX.CodeO d q) ∧ t (WE W σ) τ G Q
section
variable {X : Cx} {pins : List (Addr × Obj)} {σ : St} {H : Hp} {s : Shared}
end
end DL

end DLsec_60

section DLsec_61
set_option maxRecDepth 100000
set_option maxHeartbeats 1000000
namespace DL
open PySem PySem.Spec PyProof.Rows L2
/-- the names that are data -/
def datas (sl : List (Option Vl)) : List (Option D) := sl.map fun o => match o with
  | some (.d x) => some x
  | _ => none
section
variable {mg : Str → Option Value} {W : WX} {B : Bd mg} {σ : St} {H Hi : Hp} {as : List Addr} {s : S}
theorem Rep.slots (r : Rep B [] H Hi as s) {τ : St} {sl : List (Option Vl)} (hl : τ.length = sl.length) (hs : ∀ (i : Nat) (x : Vl), sl[i]? = some (some x) → ∃ v, τ[i]? = some (some v) ∧ RelVl Hi as v x) : Rep B τ H Hi as ⟨sl, s.ce⟩ :=
  ⟨r.sub, r.lkd, r.fr, r.hin, r.new, hl, hs, r.lea, r.cel, r.inj⟩
theorem Rep.code (r : Rep B σ H Hi as s) {d : Addr} {q : Str} (h : Hi d = some (LamX.CodeO d q)) : H d = some (LamX.CodeO d q) :=
  (r.sub d _ h).of_notin fun z => by
    obtain ⟨k, e⟩ := r.lkd d z
    rw [h] at e
    cases e
theorem Rep.tabR (r : Rep B σ H Hi as s) {ps : Array Value} {q : Str} (h : TabR Hi ps q) : TabR H ps q :=
  ⟨h.1, fun p u z => let ⟨c, e1, e2⟩ := h.2 p u z; ⟨c, e1, r.code e2⟩⟩
theorem upd_comm {H : Hp} {a b : Addr} {o u : HO} (n : a ≠ b) : upd (upd H a o) b u = upd (upd H b u) a o := by
  funext x
  by_cases h1 : x = a
  · subst h1
    rw [upd_ne n, upd_same, upd_same]
  · by_cases h2 : x = b
    · subst h2
      rw [upd_same, upd_ne h1, upd_same]
    · rw [upd_ne h2, upd_ne h1, upd_ne h1, upd_ne h2]
/-- behind the making -/
theorem Rep.made (r : Rep B σ H Hi as s) {j : Nat} {p d : Addr} {q : Str} {ps : Array Value} {H1 : Hp} (ha : as[j]? = some p) (hc : s.ce[j]? = some (.tb p q)) (hp : H p = some (.tbl ps)) (ht : TabR Hi ps q) (md : MadeH H H1 p ps q d) :
    ∃ Hi1, Rep B σ H1 Hi1 as s ∧ Same Hi Hi1 ∧ Hi1 d = some (LamX.CodeO d q) := by
  rcases md with ⟨rfl, x, hx⟩ | ⟨qs, n, rfl, t1, t2⟩
  · obtain ⟨c, e1, e2⟩ := ht.2 x _ hx
    cases e1
    exact ⟨Hi, r, Same.refl _, e2⟩
  · have sm : Same Hi (upd Hi d (LamX.CodeO d q)) := same_new (r.fresh n)
    have npd : p ≠ d := ne_of_none hp n
    have r1 := r.addI (o := LamX.CodeO d q) n
    have k := r1.cel j p _ ha hc
    have r2 := r1.mut (o := .tbl qs) (c' := .tb p q) ha hc rfl rfl ⟨k.1, qs, upd_same, ⟨t1, fun x u hu => ?_⟩, rfl⟩
    · refine ⟨_, ?_, sm, upd_same⟩
      rw [upd_comm npd]
      have : s.ce.set j (.tb p q) = s.ce := by
        apply List.ext_getElem?
        intro i
        by_cases h : i = j
        · subst h
          rw [List.getElem?_set_self (lt_of_get hc), hc]
        · rw [List.getElem?_set_ne (Ne.symm h)]
      rw [this] at r2
      exact r2
    · rcases t2 x u hu with z | z
      · obtain ⟨c, e1, e2⟩ := ht.2 x u z
        exact ⟨c, e1, sm _ _ e2⟩
      · exact ⟨d, z, upd_same⟩
end
end DL

end DLsec_61

section DLsec_62
set_option maxRecDepth 100000
set_option maxHeartbeats 1000000
/-! defs that are handed the tables, too -/
namespace DL
open PySem PySem.Spec PyProof.Rows L2
def isTb : Ce → Bool
  | .tb _ _ => true
  | _ => false
def tbIx (ce : List Ce) : List Nat := (List.range ce.length).filter fun j => ((ce[j]?).map isTb).getD false
def callDT (g : FD) (xs : List Vl) : M Vl := fun s => callD (fun ys cs => g (ys.take xs.length) cs) (xs ++ (tbIx s.ce).map .c) s
def fDefT (g : FD) (f : M (List Vl)) : M Vl := bnd f (callDT g)
section
variable {mg : Str → Option Value} {W : WX} {B : Bd mg} {σ : St} {H Hi : Hp} {as : List Addr} {s : S}
theorem pair_app {α β : Type} {F : α → β → Prop} : ∀ {l l' : List α} {m m' : List β}, Paired F l m → Paired F l' m' → Paired F (l ++ l') (m ++ m')
  | _, _, _, _, .nil, k => k
  | _, _, _, _, .cons a r, k => .cons a (pair_app r k)
theorem cells_rel (r : Rep B σ H Hi as s) : ∀ js : List Nat, (∀ j ∈ js, j < s.ce.length) → ∃ us, RelVls Hi as us (js.map .c)
  | [], _ => ⟨[], .nil⟩
  | j :: js, h => by
    obtain ⟨us, hu⟩ := cells_rel r js fun i hi => h i (List.mem_cons_of_mem _ hi)
    have hj : j < as.length := by
      rw [r.lea]
      exact h j (List.mem_cons_self ..)
    exact ⟨.ref as[j] :: us, .cons (.c (List.getElem?_eq_getElem hj)) hu⟩
theorem call_dT {g : FD} {xs : List Vl} {vs : List V} {Q : VK} (r : Rep B σ H Hi as s) (hv : RelVls Hi as vs xs) (w : wpR (callDT g xs s) (fun x s' => OKs B σ Hi as s' fun H' Hi' as' => ∀ v, RelVl Hi' as' v x → Q v H') (XW mg W B σ Hi as)) : FSp mg g vs H Q (WE W σ) := by
  obtain ⟨us, hu⟩ := cells_rel r (tbIx s.ce) fun j hj => by
    have := (List.mem_filter.mp hj).1
    simpa using this
  obtain ⟨Hi', as', zs, cs, lk, rr, ww⟩ := call_d r (pair_app hv hu) w
  have lz : zs.length = vs.length + us.length := by
    have := rr.len
    simp at this
    omega
  have lx : vs.length = xs.length := Paired.length hv
  refine ⟨Hi', as', zs.take xs.length, cs, lk, rr.nil.slots (by simp; omega) fun i x h => ?_, ww⟩
  rw [List.getElem?_map, List.getElem?_take] at h
  split at h
  · rename_i hi
    have h' : (zs.map some)[i]? = some (some x) := by
      rw [List.getElem?_map]
      exact h
    obtain ⟨v, e1, e2⟩ := rr.slo i x h'
    refine ⟨v, ?_, e2⟩
    rw [List.getElem?_map, List.getElem?_append_left (by omega)] at e1
    rw [List.getElem?_map]
    exact e1
  · cases h
theorem se_defT {g : FD} {t : TA} {f : M (List Vl)} (h : SA mg W t f) : SE mg W (tCallSD (FSp mg g) [] (WE W) t) (fDefT g f) := fun B σ H Hi as s Q rp w => by
  refine h B σ H Hi as s _ rp (wp_mono (wp_bnd w) (fun xs s1 w1 => ?_) fun _ _ z => z)
  intro H1 Hi1 as1 r1 e1 p1 vs hv
  show FSp mg g (vs ++ []) H1 Q (WE W σ)
  rw [List.append_nil]
  exact call_dT r1 hv (wp_mono w1 (fun x s2 z => OKs.mono z e1 p1) fun e s2 z => XW.mono z e1 p1)
end
end DL

end DLsec_62

section DLsec_63
set_option maxRecDepth 100000
set_option maxHeartbeats 1000000
/-! a law whose defs make lambdas -/
namespace DL
open PySem PySem.Spec PyProof.Rows L2
/-- the law's list, and the tables of the makers' code objects -/
def spLawT (K : PySem.W.Frag) (ts : List (Addr × Str)) : Sp := fun vs G Q E => spLaw K vs G Q E ∧ ∀ p ∈ ts, G p.1 = some (.tbl #[])
theorem spLawT_len {K : PySem.W.Frag} {ts : List (Addr × Str)} {vs : List V} {G : Hp} {Q : VK} {E : XK} (h : spLawT K ts vs G Q E) : vs.length = 1 := spLaw_len h.1
def tbs (ts : List (Addr × Str)) : List Ce := ts.map fun p => .tb p.1 p.2
/-- the code objects alone -/
noncomputable def codesOf (H : Hp) : Hp := open Classical in fun b => if ∃ q, H b = some (LamX.CodeO b q) then H b else none
theorem codesOf_get {H : Hp} {b : Addr} {o : HO} (h : codesOf H b = some o) : (∃ q, o = LamX.CodeO b q) ∧ H b = some o := by
  unfold codesOf at h
  split at h
  · rename_i hq
    obtain ⟨q, e⟩ := hq
    rw [e] at h
    cases h
    exact ⟨⟨q, rfl⟩, e⟩
  · cases h
theorem codesOf_at {H : Hp} {b : Addr} {q : Str} (h : H b = some (LamX.CodeO b q)) : codesOf H b = some (LamX.CodeO b q) := by
  unfold codesOf
  rw [if_pos ⟨q, h⟩]
  exact h
def Tabd (H : Hp) (ts : List (Addr × Str)) : Prop := ∀ p ∈ ts, ∃ ps, H p.1 = some (.tbl ps) ∧ TabR H ps p.2
theorem tabR_codes {H : Hp} {ps : Array Value} {q : Str} (h : TabR H ps q) : TabR (codesOf H) ps q :=
  ⟨h.1, fun x u z => let ⟨c, e1, e2⟩ := h.2 x u z; ⟨c, e1, codesOf_at e2⟩⟩
theorem tabR_nil {H : Hp} {q : Str} : TabR H #[] q := ⟨trivial, fun x u z => by
  have z' : codeAmong x [] = some u := z
  simp [codeAmong] at z'⟩
/-- a state that knows an int's name and the tables -/
theorem rep_tabs {mg : Str → Option Value} {σ : St} {H : Hp} {m i : Nat} {c : Int} {ts : List (Addr × Str)} (hm : σ.length = m) (hi : i < m) (hσ : σ[i]? = some (some (.int c))) (ht : Tabd H ts) (nd : (ts.map (·.1)).Nodup) :
    Rep (mg := mg) ⟨H, codesOf H, ts.map (·.1), [], []⟩ σ H (codesOf H) (ts.map (·.1)) ⟨(List.replicate m none).set i (some (.d (.int c))), tbs ts⟩ := by
  have at_ : ∀ (j : Nat) (a : Addr) (x : Ce), (ts.map (·.1))[j]? = some a → (tbs ts)[j]? = some x → ∃ p, ts[j]? = some p ∧ a = p.1 ∧ x = .tb p.1 p.2 := fun j a x e1 e2 => by
    unfold tbs at e2
    rw [List.getElem?_map] at e1 e2
    cases hp : ts[j]? with
    | none => rw [hp] at e1; cases e1
    | some p => rw [hp] at e1 e2; cases e1; cases e2; exact ⟨p, rfl, rfl, rfl⟩
  refine ⟨fun b o e => ?_, fun b hb => (by cases hb), fun b o e n => ?_, fun b o e => .inl e, fun j a x e1 e2 _ => .inl (List.mem_of_getElem? e1), by simp [hm], fun j x h => ?_, by simp [tbs], fun j a x e1 e2 => ?_, fun j k a x y e1 e2 _ _ _ _ => nodup_inj nd e1 e2⟩
  · unfold HL
    rw [if_neg (by simp)]
    exact (codesOf_get e).2
  · unfold HL
    rw [if_neg (by simp)]
    exact e
  · by_cases e : j = i
    · subst e
      rw [List.getElem?_set_self (by simpa using hi)] at h
      cases h
      exact ⟨_, hσ, .d (.int _)⟩
    · rw [List.getElem?_set_ne (Ne.symm e), List.getElem?_replicate] at h
      split at h <;> cases h
  · obtain ⟨p, q1, rfl, rfl⟩ := at_ j a x e1 e2
    obtain ⟨ps, k1, k2⟩ := ht p (List.mem_of_getElem? q1)
    refine ⟨?_, ps, k1, tabR_codes k2, rfl⟩
    cases z : codesOf H p.1 with
    | none => rfl
    | some o =>
      obtain ⟨⟨q, rfl⟩, e⟩ := codesOf_get z
      rw [k1] at e
      exact absurd (Option.some.inj e).symm (LamX.codeO_ne ps)
/-- the cells: a new list of ints; the tables stay -/
theorem cells_ofT {K : PySem.W.Frag} {k : Int} {σ : St} {G : Hp} {a : Addr} {ns : List Int} {Q : VK} {ts : List (Addr × Str)} (h0 : σ[0]? = some (some (.ref a))) (hS : SqL K G a (ns.map V.int)) (hn : ns.length ≤ 63) (hT : ∀ p ∈ ts, G p.1 = some (.tbl #[]))
    (h : ∀ (cs : List Int) (r : Addr) (G' : Hp), cs.length ≤ 64 → G' r = some (.lst (cs.map V.int)) → (∀ p ∈ ts, G' p.1 = some (.tbl #[])) → Q (.ref r) G') :
    (tOp rCat (tSl (rSlL K) (tVar 0) tNoPart (tPart (tC (.int k)))) (tLst (tCons (tC (.int 0)) tNil))) σ G Q := by
  refine ⟨.ref a, h0, k, rfl, a, ns.map V.int, rfl, hS, fun p hp => ?_⟩
  refine ⟨by show 1 ≤ sizeLine; decide, fun q hq => ?_⟩
  have hqp : p ≠ q := by
    rintro rfl
    rw [upd_same] at hq; cases hq
  have e : cutV (ns.map V.int) none (some k) = ((ns.drop (HT.sIx ns.length 0 none)).take (HT.sIx ns.length ns.length (some k) - HT.sIx ns.length 0 none)).map V.int := by
    unfold cutV
    rw [List.length_map, List.map_take, List.map_drop]
  have hl : ((ns.drop (HT.sIx ns.length 0 none)).take (HT.sIx ns.length ns.length (some k) - HT.sIx ns.length 0 none)).length ≤ 63 := by
    rw [List.length_take, List.length_drop]
    omega
  refine ⟨p, q, _, _, rfl, rfl, by rw [upd_ne hqp, upd_same], upd_same, ?_, fun r hr => ?_⟩
  · rw [e, List.length_map]
    exact le_line (by simp; omega)
  · refine h (((ns.drop (HT.sIx ns.length 0 none)).take (HT.sIx ns.length ns.length (some k) - HT.sIx ns.length 0 none)) ++ [0]) r _ (by simp only [List.length_append, List.length_cons, List.length_nil]; omega) ?_ fun x hx => ?_
    · rw [upd_same, e, List.map_append]
      rfl
    · have t0 := hT x hx
      have n1 : x.1 ≠ p := ne_of_none t0 hp
      have t1 : upd G p (.lst (cutV (ns.map V.int) none (some k))) x.1 = some (.tbl #[]) := by rw [upd_ne n1]; exact t0
      have n2 : x.1 ≠ q := ne_of_none t1 hq
      have t2 : upd (upd G p (.lst (cutV (ns.map V.int) none (some k)))) q (.lst [V.int 0]) x.1 = some (.tbl #[]) := by rw [upd_ne n2]; exact t1
      rw [upd_ne (ne_of_none t2 hr)]
      exact t2
end DL

end DLsec_63

section DLsec_64
set_option maxRecDepth 100000
set_option maxHeartbeats 1000000
/-! the law's own end, with tables of code objects -/
namespace DL
open PySem PySem.Spec PyProof.Rows L2
theorem law_gT {P : Program} {w : World} {K : PySem.W.Frag} {mg mb : Str → Option Value} {k : Nat} {fa a : Addr} {cs : List (Addr × Addr)} {fd : FuncData} {x : Str} {sp : Sp} {t₁ : Shared} {us : List Value} {ns : List Int}
    (isIn : K.In t₁.heap) (nsp : t₁.heap.Ns mainGlobals mg) (bsp : t₁.heap.Ns builtinsNs mb) (bbb : ∀ x : Str, x ≠ "__name__" → mb x = bootBuiltins x) (lim : t₁.heap.NoLimit) (gn : t₁.gens = #[])
    (empty : ∀ p ∈ cs, t₁.heap.get? p.2 = some { cls := .none, data := .fields #[] }) (loose : ∀ p ∈ cs, K.lookup p.2 = none) (heads : ∀ p ∈ cs, PySem.W.CodeHd t₁.heap p.1 p.2)
    (mainB : ∃ (bm : Addr) (ob : Obj), mg "__builtins__" = some (.ref bm) ∧ bm ≠ builtinsNs ∧ t₁.heap.get? bm = some ob ∧ ob.cls = .type "module" ∧ ob.dict = some builtinsNs ∧ ob.data = .plain)
    (obj : t₁.heap.get? a = some { cls := .type "list", data := .seq us.toArray }) (hint : IntsAre us ns) (small : ns.length ≤ sizeLine) (room : Room k callerA)
    (F : ∀ base : Heap, K.In base → base.Ns mainGlobals mg → (∀ p ∈ cs, LamX.TabB base mg p.1 p.2) → FnG P w K mg base k fa fd [x] sp) (binds : ∀ (s : Shared) (u : Value), BindsTo s fd ⟨[u], []⟩ [(x, u)])
    (prom : ∀ G : Hp, (∀ p ∈ cs, G p.2 = some (.tbl #[])) → SqL K G a (ns.map V.int) → sp [.ref a] G (fun v _ => v = .bl true) fun _ _ _ => False) :
    codeAny (model P w) callerA (.call (.ref fa) ⟨[.ref a], []⟩) (fun res s' => res = .ok (.ret (.bool true)) ∧ OldK t₁.heap s'.heap ∧ s'.os = t₁.os ∧ AllBare s'.gens) t₁ := by
  obtain ⟨tt, htt⟩ : ∃ tt, tt = cs.map (·.2) := ⟨_, rfl⟩
  have tabAt : ∀ b, b ∈ tt → ∃ p ∈ cs, p.2 = b := fun b hb => List.mem_map.mp (by rw [← htt]; exact hb)
  have inTT : ∀ p ∈ cs, p.2 ∈ tt := fun p hp => by rw [htt]; exact List.mem_map.mpr ⟨p, hp, rfl⟩
  have emptyAt : ∀ b, b ∈ tt → t₁.heap.get? b = some { cls := .none, data := .fields #[] } := fun b hb => by
    obtain ⟨p, hp, rfl⟩ := tabAt b hb
    exact empty p hp
  have aNot : a ∉ tt := fun hb => by
    have e := emptyAt a hb
    rw [obj] at e
    cases (show Data.seq us.toArray _ = Data.fields #[] from congrArg Obj.data (Option.some.inj e))
  have key : ∀ G : Hp, (∀ p ∈ cs, G p.2 = some (.tbl #[])) → (∀ b, b ∉ tt → G b = none ∨ ∃ ob xs, G b = some (.frz ob (.lst xs))) → SqL K G a (ns.map V.int) → HOk P w G t₁.heap → (∀ b, G b ≠ none → b = a ∨ b ∈ tt) → (G a ≠ none → K.lookup a = none) →
      codeAny (model P w) callerA (.call (.ref fa) ⟨[.ref a], []⟩) (fun res s' => res = .ok (.ret (.bool true)) ∧ OldK t₁.heap s'.heap ∧ s'.os = t₁.os ∧ AllBare s'.gens) t₁ := by
    intro G tabs only sq hok alone notK
    have free : ∀ {b : Addr} {o : Obj}, t₁.heap.get? b = some o → (∀ (l : Array Value) (n : Nat), o.data ≠ .seq l n) → o.data ≠ .fields #[] → G b = none := by
      intro b o hb d1 d2
      refine Classical.byContradiction fun hne => ?_
      rcases alone b hne with rfl | hm
      · rw [obj] at hb
        cases hb
        exact d1 _ _ rfl
      · rw [emptyAt b hm] at hb
        cases hb
        exact d2 rfl
    have nsKeep : ∀ {b : Addr} {m : Str → Option Value}, t₁.heap.Ns b m → (hidT t₁.heap G).Ns b m := by
      rintro b m ⟨o, es, ep, h1, h2, h3⟩
      refine ⟨o, es, ep, hidT_get h1 (free h1 (fun l n z => ?_) fun z => ?_), h2, h3⟩ <;> (rw [h2] at z; cases z)
    have inKeep : K.In (hidT t₁.heap G) := by
      intro b o hb
      refine hidT_get (isIn b o hb) (Classical.byContradiction fun hne => ?_)
      rcases alone b hne with rfl | hm
      · rw [notK hne] at hb
        cases hb
      · obtain ⟨p, hp, rfl⟩ := tabAt b hm
        rw [loose p hp] at hb
        cases hb
    obtain ⟨mc, l1, l2⟩ := lim
    have md : Mod K mg (hidT t₁.heap G) := ⟨inKeep, nsKeep nsp, ⟨mb, nsKeep bsp, bbb⟩, ⟨mc, nsKeep l1, l2⟩⟩
    obtain ⟨go, ges, gep, g1, g2, g3⟩ := nsp
    have tabB : ∀ p ∈ cs, LamX.TabB (hidT t₁.heap G) mg p.1 p.2 := by
      intro p hp
      obtain ⟨bm, ob, b1, b2, b3, b4, b5, b6⟩ := mainB
      obtain ⟨o, fs, file, tf, flags, tg, inF, text, txt, e1, r1, r2, r3, r4, r5, r6, r7, r8, r9⟩ := heads p hp
      refine ⟨⟨o, fs, file, tf, flags, tg, inF, text, txt, hidT_get e1 (free e1 (fun l n z => ?_) fun z => ?_), r1, r2, r3, r4, r5, r6, r7, r8, r9⟩,
        ⟨bm, ob, b1, b2, fun z => ?_, fun z => ?_, hidT_get b3 (free b3 (fun l n z => ?_) fun z => ?_), b4, b5, b6⟩, fun z => ?_⟩
      · rw [r2] at z
        cases z
      · rw [r2] at z
        cases z
        simp at r3
      · rw [z, g1] at b3
        cases b3
        rw [g2] at b6
        cases b6
      · rw [z, empty p hp] at b3
        cases b3
        cases b6
      · rw [b6] at z
        cases z
      · rw [b6] at z
        cases z
      · rw [z, empty p hp] at g1
        cases g1
        cases g2
    have e0 : Env0 P w K mg (hidT t₁.heap G) callerA [] t₁ G :=
      ⟨rfl, md, fun b o e => of_hidT e, Nat.le_of_eq (hidT_size _ _), trivial, by rintro b ⟨⟩, hok, .of_eq gn⟩
    have rn := (F _ inKeep md.glob tabB).run callerA [] t₁ G ⟨[.ref a], []⟩ [.ref a] [.ref a] _ _ room rfl e0 (binds t₁ (.ref a)) (.cons rfl .nil) (prom G tabs sq)
    refine codeAny_mono rn fun res s' h => ?_
    cases res with
    | error e => obtain ⟨_, _, _, _, _, _, _, _, _, _, _, _, z⟩ := h; exact z.elim
    | ok fl => cases fl with
      | next => exact h.elim
      | brk => exact h.elim
      | cont => exact h.elim
      | ret u =>
        obtain ⟨v, G', os, bare, un, hok', rv, q⟩ := h
        cases (show v = .bl true from q)
        cases (show u = Value.bool true from rv)
        have stays : ∀ b o, b ∉ tt → t₁.heap.get? b = some o → s'.heap.get? b = some o := fun b o nb hb => by
          rcases only b nb with z | ⟨ob, xs, z⟩
          · exact un.keep b o hb z (by rintro ⟨⟩) (by rintro ⟨⟩)
          · have z1 := (hok b _ z).1
            rw [hb] at z1
            cases z1
            exact (hok' b _ (un.frzs b _ _ z)).1
        have grew : ∀ p ∈ cs, ∃ more : Array Value, s'.heap.get? p.2 = some { cls := .none, data := .fields more } := fun p hp => by
          obtain ⟨more, z⟩ := un.tbls p.2 #[] (tabs p hp)
          exact ⟨_, hok' p.2 _ z⟩
        refine ⟨rfl, ⟨fun b o hb => ?_, fun b o hb => ?_⟩, os, bare⟩ <;> by_cases hm : b ∈ tt
        · obtain ⟨p, hp, rfl⟩ := tabAt b hm
          obtain ⟨more, hmore⟩ := grew p hp
          rw [empty p hp] at hb
          cases hb
          exact .inr (.inl ⟨((heads p hp).tab (empty p hp)).isCodeTable, rfl, #[], more, rfl, by simpa using hmore⟩)
        · exact .inl (stays b o hm hb)
        · obtain ⟨p, hp, rfl⟩ := tabAt b hm
          obtain ⟨more, hmore⟩ := grew p hp
          exact ⟨_, hmore⟩
        · exact ⟨o, stays b o hm hb⟩
  have vals := L2.vals_ints hint
  obtain ⟨T0, hT0⟩ : ∃ T0 : Hp, T0 = fun b => if b ∈ tt then some (HO.tbl #[]) else none := ⟨_, rfl⟩
  have t0in : ∀ b, b ∈ tt → T0 b = some (.tbl #[]) := fun b hb => by rw [hT0]; exact if_pos hb
  have t0out : ∀ b, b ∉ tt → T0 b = none := fun b hb => by rw [hT0]; exact if_neg hb
  cases hk : K.lookup a with
  | some o =>
    have e := isIn a o hk
    rw [obj] at e
    cases e
    refine key T0 (fun p hp => t0in _ (inTT p hp)) (fun b hb => .inl (t0out b hb)) (.inr ⟨_, us.toArray, _, hk, rfl, rfl, rfl, ?_, by simpa using vals⟩) (fun b u z => ?_) (fun b z => ?_) fun z => absurd (t0out a aNot) z
    · rw [List.size_toArray, hint.length]
      exact small
    · by_cases hb : b ∈ tt
      · rw [t0in b hb] at z
        cases z
        exact emptyAt b hb
      · rw [t0out b hb] at z
        cases z
    · exact Classical.byContradiction fun hb => z (t0out b fun w => hb (.inr w))
  | none =>
    have self : upd T0 a (HO.frz { cls := .type "list", data := .seq us.toArray } (.lst (ns.map V.int))) a = some (HO.frz { cls := .type "list", data := .seq us.toArray } (.lst (ns.map V.int))) := upd_same
    have other : ∀ b, b ≠ a → upd T0 a (HO.frz { cls := .type "list", data := .seq us.toArray } (.lst (ns.map V.int))) b = T0 b := fun b n => upd_ne n
    have ntt : ∀ b, b ∈ tt → b ≠ a := fun b hb z => aNot (by rw [← z]; exact hb)
    refine key (upd T0 a (.frz { cls := .type "list", data := .seq us.toArray } (.lst (ns.map V.int)))) (fun p hp => ?_) (fun b hb => ?_) (.inl (.inr ⟨_, self⟩)) (fun b u z => ?_) (fun b z => ?_) fun _ => hk
    · rw [other _ (ntt _ (inTT p hp))]
      exact t0in _ (inTT p hp)
    · by_cases h : b = a
      · subst h; exact .inr ⟨_, _, self⟩
      · exact .inl (by rw [other b h]; exact t0out b hb)
    · by_cases h : b = a
      · subst h
        cases (self.symm.trans z)
        exact ⟨obj, by rw [List.length_map]; exact small, us, _, vals, obj⟩
      · rw [other b h] at z
        by_cases hb : b ∈ tt
        · rw [t0in b hb] at z
          cases z
          exact emptyAt b hb
        · rw [t0out b hb] at z
          cases z
    · refine Classical.byContradiction fun hb => z ?_
      rw [other b fun w => hb (.inl w)]
      exact t0out b fun w => hb (.inr w)
/-- what is known of the law's def at the head's heap h, with tables -/
def LawT (P : Program) (w : World) (K : PySem.W.Frag) (mg : Str → Option Value) (k n : Nat) (x : Str) (fa : Addr) (h : Heap) : Prop :=
  ∃ (fd : FuncData) (cs : List (Addr × Addr)) (sp : Sp), ((∀ p ∈ cs, h.get? p.2 = some { cls := .none, data := .fields #[] }) ∧ (∀ p ∈ cs, K.lookup p.2 = none) ∧ ∀ p ∈ cs, PySem.W.CodeHd h p.1 p.2) ∧
    (∀ (s : Shared) (u : Value), BindsTo s fd ⟨[u], []⟩ [(x, u)]) ∧ (∀ (G : Hp) (a : Addr) (ns : List Int), ns.length ≤ n → (∀ p ∈ cs, G p.2 = some (.tbl #[])) → SqL K G a (ns.map V.int) → sp [.ref a] G (fun v _ => v = .bl true) fun _ _ _ => False) ∧
    ∀ base : Heap, K.In base → base.Ns mainGlobals mg → (∀ p ∈ cs, LamX.TabB base mg p.1 p.2) → FnG P w K mg base k fa fd [x] sp
theorem walk_gT {l : PySem.W.OpenLaw} {n k : Nat} {q : Program} {loose : List Str} {XP : (Str → Option Value) → Heap → Prop} {YP : World → Heap → Prop} {d : DefRec} {K : Params → PySem.W.Frag} {x : Str}
    (hn : l.most = some n) (hn2 : n ≤ sizeLine) (hdf : d.params.defaults = []) (hr : Room k callerA) (hY : ∀ (w : World) (h : Heap), YP w h → (K w.params).In h)
    (F : ∀ (w : World) (mg : Str → Option Value) (fa : Addr) (h : Heap), YP w h → (K w.params).In h → h.Ns mainGlobals mg → mg d.name = some (.ref fa) → LawT l.prog w (K w.params) mg k n x fa h) :
    PySem.W.WalkO q loose XP YP l.row.toRowW d [] (fun f vs => PySem.call f vs) := by
  refine Att.attach_call hn hdf fun w s₀ s₁ mg mb fa o pm cd doc a vs ns GG Y ho hd hcd hmg hobj hints hlen hg => ?_
  obtain ⟨fd, cs, sp, ⟨h1, h2, h3⟩, hb, hsp, hF⟩ := F w mg fa _ Y (hY w _ Y) GG.T.g hmg
  exact law_gT (hY w _ Y) GG.T.g GG.T.b GG.T.builtins GG.T.nolimit hg h1 h2 h3 GG.T.bmain hobj hints
    (Nat.le_trans hlen hn2) hr hF hb fun G hO hS => hsp G a ns hlen hO hS
end DL

end DLsec_64

section DLsec_65
set_option maxRecDepth 100000
set_option maxHeartbeats 1000000
/-! a def whose code object is known -/
namespace DL
open PySem PySem.Spec PyProof.Rows L2
section
variable {P : Program} {w : World} {K : PySem.W.Frag} {mg : Str → Option Value} {base : Heap}
end
end DL

end DLsec_65

section DLsec_66
set_option maxRecDepth 100000
set_option maxHeartbeats 1000000
/-! the lambda rule, the name of the def that makes it written out -/
namespace DL
open PySem PySem.Spec PyProof.Rows L2
section
variable {X : Cx}
theorem cx_qual {CX : CXT} {P : Program} {w : World} {K : PySem.W.Frag} {mg : Str → Option Value} {base : Heap} {N : List Str} {qual : Str} {sc : Scope} {f : Addr} {cd : Value} {A : Around} {out : List Env} {s : Shared} {H : Hp} {E : XK} : (cxOf CX P w K mg base N qual sc f cd A out s H E).env.qual = qual ++ ".<locals>." := rfl
end
end DL

end DLsec_66

section DLsec_67
set_option maxRecDepth 100000
set_option maxHeartbeats 1000000
/-! list.count of any data -/
namespace DL
open PySem PySem.Spec PyProof.Rows L2
section
variable {X : Cx}
end
section
variable {mg : Str → Option Value} {W : WX} {ta tb : TE} {fa fb : M Vl}
end
section
variable {X : Cx} {K : PySem.W.Frag}
end
end DL

end DLsec_67

section DLsec_68
set_option maxRecDepth 100000
set_option maxHeartbeats 1000000
/-! a law whose defs make lambdas and that ends in a call; min of a list of any data that are alike -/
namespace DL
open PySem PySem.Spec PyProof.Rows L2
/-! ### min of a list of data -/
end DL

end DLsec_68

section DLsec_69
set_option maxRecDepth 100000
set_option maxHeartbeats 1000000
/-! xs += ys, xs a list of one's own -/
namespace DL
open PySem PySem.Spec PyProof.Rows L2
section
variable {mg : Str → Option Value} {W : WX} {ta : TE} {fa : M Vl}
end
end DL

end DLsec_69

section DLsec_70
set_option maxRecDepth 100000
set_option maxHeartbeats 1000000
/-! texts: split, join, their signs, int(s), abs -/
namespace DL
open PySem PySem.Spec PyProof.Rows L2
section
variable {mg : Str → Option Value} {W : WX} {B : Bd mg} {σ : St} {H Hi : Hp} {as : List Addr} {s : S}
variable {ta tb : TE} {fa fb : M Vl}
/-- the signs of a text -/
def signs (x : Str) : List D := x.cps.toList.map fun c => PyData.str ⟨#[c]⟩
end
section
variable {X : Cx} {o e : Expr} {to te : TE} {K : PySem.W.Frag}
end
end DL

end DLsec_70

section DLsec_71
set_option maxRecDepth 100000
set_option maxHeartbeats 1000000
/-! xs.remove(y) for any data that is in the list -/
namespace DL
open PySem PySem.Spec PyProof.Rows L2
/-- the first equal item goes -/
def rRemD (K : PySem.W.Frag) : V → List V → Hp → VK → Prop := fun x xs H Q => ∃ (a : Addr) (vs : List V) (y : V) (d : PyData) (ds : List PyData) (j : Nat) (z : PyData), x = V.ref a ∧ xs = [y] ∧ H a = some (.lst vs) ∧ vs.length ≤ sizeLine ∧ Dp K H (V.ref a) (.list ds) ∧ Dp K H y d ∧
  SeqAt.shaped (.list ds) = true ∧ SeqAt.shaped d = true ∧ ds[j]? = some z ∧ PyData.eqv z d = true ∧ (∀ (m : Nat) (w : PyData), m < j → ds[m]? = some w → PyData.eqv w d = false) ∧ Q .non (upd H a (.lst (vs.eraseIdx j)))
section
variable {X : Cx}
theorem mt_removeD (hu : X.A.units + 65 < cLine) : MtM X "list.remove" (rRemD X.K) := by
  intro pins s σ H x xs v us Q I rx rxs h
  obtain ⟨a, vs, y, d, ds, j, z, rfl, rfl, hH, hvl, hl, hy, sl, sd, hz, hzj, hno, q⟩ := h
  cases rx
  obtain ⟨uy, rfl, ry⟩ := rxs.one
  obtain ⟨bs, rd⟩ := Dp.reads I d y uy hy ry
  have lay : PyData.canLayAll0 ds = true := SeqAt.canLay_of_shaped sl
  have room : X.A.units + 1 + min (PyData.depthAll ds) d.depth < cLine := room_in_shaped sd hu
  obtain ⟨zl, its, n, r, hlen, e0⟩ := I.lstM hH
  cases hl with
  | lst hs ha =>
    obtain ⟨its2, rv, ⟨⟨cls, dd, data, sls⟩, n2, ho, hc, hdn, hdt⟩, _⟩ := I.list hs
    simp only at hc hdt
    subst hc hdt
    have same0 := Option.some.inj (e0.symm.trans ho)
    have ei : its2 = its := by
      have := (congrArg Obj.data same0)
      simp only [Data.seq.injEq] at this
      exact (Array.toList_inj.mpr this.1).symm
    subst ei
    obtain ⟨as, rds⟩ := Dp.readsAll I ds _ its2 ha rv
    have same := SeqAt.readsAll_map ds its2 as lay rds
    have nl : its2.length = ds.length := SeqAt.ReadsAll.length ds its2 as rds
    obtain ⟨hjd, _⟩ := List.getElem?_eq_some_iff.mp hz
    have hj : j < its2.toArray.size := by rw [List.size_toArray]; omega
    have look : ∀ (m : Nat) (hm : m < its2.toArray.size) (w : PyData), ds[m]? = some w → SeqAt.readOf s.heap its2.toArray[m] = w := fun m hm w hw => by
      have hml : m < its2.length := by rwa [List.size_toArray] at hm
      rw [← same, List.getElem?_map, List.getElem?_eq_getElem hml] at hw
      have e1 : SeqAt.readOf s.heap its2[m] = w := Option.some.inj hw
      simpa using e1
    refine call_meets PySem.F.slot_list_remove ⟨_, e0, rfl⟩ PySem.F.entry_list_remove (PySem.F.args_list_remove_2 _ _)
      (SeqAt.list_removeAt a its2.toArray _ _ _ uy (fun u => PyData.eqv (SeqAt.readOf s.heap u) d) j hj (by rw [look j hj z hz]; exact hzj) (fun m hm hmj => ?no) (by rw [List.size_toArray]; omega))
      ⟨e0, SeqAt.items_eqAt (vs := its2.toArray) (show ReadsAll s.heap its2.toArray.toList ds as from rds) rd lay (SeqAt.canLay_of_shaped sd) room, ?_⟩
    case no =>
      have hmd : m < ds.length := by rw [List.size_toArray] at hm; omega
      have hw : ds[m]? = some ds[m] := List.getElem?_eq_getElem hmd
      rw [look m hm _ hw]
      exact hno m _ hmj hw
    refine ⟨.non, _, I.lset (its' := its2.eraseIdx j) (t' := s.toks) hH e0 ?_ (r.eraseIdx j) ?_, rfl, q⟩
    · show its2.toArray.eraseIdxIfInBounds j = (its2.eraseIdx j).toArray
      rw [List.eraseIdxIfInBounds_toArray]
    · have := List.length_eraseIdx_le vs j
      omega
theorem removeDK {K : PySem.W.Frag} (hu : X.A.units + 65 < cLine) (hK : X.K = K := by rfl) : MtM X "list.remove" (rRemD K) := hK ▸ mt_removeD hu
end
section
variable {mg : Str → Option Value} {W : WX} {ta tb : TE} {fa fb : M Vl}
def fRem (fo fa : M Vl) : M Vl := bnd fo fun x => bnd (needL x) fun _ => bnd fa fun y => bnd (frz y) fun d => upC x fun xs => if (okE d && okE (.list xs)) = true ∧ xs.length ≤ 1000000 then (match xs.findIdx? fun z => PyData.eqv z d with
  | some j => some (.d .none, xs.eraseIdx j)
  | none => none) else none
theorem se_remove {K : PySem.W.Frag} (ho : SE mg W ta fa) (hb : SE mg W tb fb) : SE mg W (tBM K "list" (rRemD K) ta (tCons tb tNil)) (fRem fa fb) := fun B σ H Hi as s Q rp w => by
  refine ho B σ H Hi as s _ rp (wp_mono (wp_bnd w) (fun x s1 w1 => ?_) fun _ _ z => z)
  intro H1 Hi1 as1 r1 e1 p1 v hv
  obtain ⟨w2, ty⟩ := wp_needL (K := K) r1 hv (wp_bnd w1)
  refine ⟨ty, hb B σ H1 Hi1 as1 s1 _ r1 (wp_mono (wp_bnd w2) (fun y s2 w3 => ?_) fun e s' z => XW.mono z e1 p1)⟩
  intro H2 Hi2 as2 r2 e2 p2 u hu
  obtain ⟨d, s3, Hi3, w4, r3, e3, q3⟩ := r2.frz hu (wp_bnd w3)
  obtain ⟨j, a, xs, vs, y', ys, rfl, rfl, ha, hc, h1, h2, hk, w5, up⟩ := wp_upC r3 (hv.mono (e2.trans e3) p2) w4
  split at hk
  · rename_i hn
    obtain ⟨hn, hlen⟩ := hn
    simp only [okE, Bool.and_eq_true] at hn
    cases hf : xs.findIdx? (fun z => PyData.eqv z d) with
    | none => rw [hf] at hk; cases hk
    | some i =>
      rw [hf] at hk
      cases hk
      rw [List.findIdx?_eq_some_iff_getElem] at hf
      obtain ⟨hj, k1, k2⟩ := hf
      have dx : dat s3 (.c j) = some (.list xs) := by simp [DL.dat, hc]
      refine ⟨a, vs, u, d, xs, i, xs[i], rfl, rfl, h1, ?_, r3.dpV (hv.mono (e2.trans e3) p2) dx hn.2.1, r3.dpV (.d q3) (x := .d d) rfl hn.1.1, hn.2.2, hn.1.2, List.getElem?_eq_getElem hj, k1, fun m w hm hw => ?_, ?_⟩
      · rw [h2.length]
        exact Nat.le_trans hlen (by rw [sizeLine_eq]; decide)
      · obtain ⟨hm', ez⟩ := List.getElem?_eq_some_iff.mp hw
        have := k2 m hm
        rw [ez] at this
        simpa using this
      · exact w5 _ Hi3 as2 (up (vs.eraseIdx i) (h2.erase i)) ((e1.trans e2).trans e3) (p1.trans p2) _ (.d .non)
  · cases hk
theorem x_fRem (fo fa : M Vl) (s : S) : fRem fo fa s = bnd fo (fun x => bnd (needL x) fun _ => bnd fa fun y => bnd (frz y) fun d => upC x fun xs => if (okE d && okE (.list xs)) = true ∧ xs.length ≤ 1000000 then (match xs.findIdx? fun z => PyData.eqv z d with
  | some j => some (.d .none, xs.eraseIdx j)
  | none => none) else none) s := id rfl
end
end DL

end DLsec_71

section DLsec_72
set_option maxRecDepth 100000
set_option maxHeartbeats 1000000
/-! a list that is walked by a comprehension and is a cell again behind it -/
namespace DL
open PySem PySem.Spec PyProof.Rows L2
mutual
def dpt : D → Nat
  | .list xs => dpts xs + 1
  | .tuple xs => dpts xs + 1
  | .dict kvs => dptm kvs + 1
  | _ => 0
def dpts : List D → Nat
  | [] => 0
  | x :: xs => max (dpt x) (dpts xs)
def dptm : List (D × D) → Nat
  | [] => 0
  | (_, v) :: r => max (dpt v) (dptm r)
end
theorem dpts_mem : ∀ {xs : List D} {x : D}, x ∈ xs → dpt x ≤ dpts xs
  | y :: ys, x, h => by
    rw [dpts]
    rcases List.mem_cons.mp h with rfl | h
    · exact Nat.le_max_left ..
    · exact Nat.le_trans (dpts_mem h) (Nat.le_max_right ..)
mutual
theorem Dq.one {H : Hp} : ∀ {v : V} {d d' : D}, Dq H v d → Dq H v d' → d = d'
  | _, _, _, .non, q => by cases q; rfl
  | _, _, _, .bl b, q => by cases q; rfl
  | _, _, _, .int i, q => by cases q; rfl
  | _, _, _, .str x, q => by cases q; rfl
  | _, _, _, .lst h r, q => by
    cases q with
    | lst h' r' =>
      have e := Option.some.inj (h.symm.trans h')
      injection e with e
      subst e
      rw [DqA.one r r']
    | tup h' r' => rw [h] at h'; cases h'
    | dct h' r' => rw [h] at h'; cases h'
  | _, _, _, .tup h r, q => by
    cases q with
    | lst h' r' => rw [h] at h'; cases h'
    | tup h' r' =>
      have e := Option.some.inj (h.symm.trans h')
      injection e with e
      subst e
      rw [DqA.one r r']
    | dct h' r' => rw [h] at h'; cases h'
  | _, _, _, .dct h r, q => by
    cases q with
    | lst h' r' => rw [h] at h'; cases h'
    | tup h' r' => rw [h] at h'; cases h'
    | dct h' r' =>
      have e := Option.some.inj (h.symm.trans h')
      injection e with e1 e2
      injection e2 with e2
      subst e2
      rw [DqM.one r r']
theorem DqA.one {H : Hp} : ∀ {v : List V} {d d' : List D}, DqA H v d → DqA H v d' → d = d'
  | _, _, _, .nil, q => by cases q; rfl
  | _, _, _, .cons h r, q => by
    cases q with
    | cons h' r' => rw [Dq.one h h', DqA.one r r']
theorem DqM.one {H : Hp} : ∀ {v : List (Key × V)} {d d' : List (D × D)}, DqM H v d → DqM H v d' → d = d'
  | _, _, _, .nil, q => by cases q; rfl
  | _, _, _, .cons h r, q => by
    cases q with
    | cons h' r' => rw [Dq.one h h', DqM.one r r']
end
mutual
theorem Dq.low {H : Hp} {a : Addr} {vs : List V} {xs : List D} (ha : H a = some (.lst vs)) (hx : DqA H vs xs) : ∀ {v : V} {d : D}, Dq H v d → dpt d < dpts xs + 1 → Dq (del H a) v d
  | _, _, .non, _ => .non
  | _, _, .bl b, _ => .bl b
  | _, _, .int i, _ => .int i
  | _, _, .str x, _ => .str x
  | _, _, .lst (a := b) (ds := ds) h r, l => by
    have l' : dpts ds + 1 < dpts xs + 1 := by rw [dpt] at l; exact l
    have n : b ≠ a := fun e => by
      subst e
      rw [ha] at h
      cases h
      rw [DqA.one hx r] at l'
      omega
    exact .lst (by rw [del_ne n]; exact h) (DqA.low ha hx r (by omega))
  | _, _, .tup (a := b) (ds := ds) h r, l => by
    have l' : dpts ds + 1 < dpts xs + 1 := by rw [dpt] at l; exact l
    have n : b ≠ a := fun e => by
      subst e
      rw [ha] at h
      cases h
    exact .tup (by rw [del_ne n]; exact h) (DqA.low ha hx r (by omega))
  | _, _, .dct (a := b) (ds := ds) h r, l => by
    have l' : dptm ds + 1 < dpts xs + 1 := by rw [dpt] at l; exact l
    have n : b ≠ a := fun e => by
      subst e
      rw [ha] at h
      cases h
    exact .dct (by rw [del_ne n]; exact h) (DqM.low ha hx r (by omega))
theorem DqA.low {H : Hp} {a : Addr} {vs : List V} {xs : List D} (ha : H a = some (.lst vs)) (hx : DqA H vs xs) : ∀ {v : List V} {d : List D}, DqA H v d → dpts d < dpts xs + 1 → DqA (del H a) v d
  | _, _, .nil, _ => .nil
  | _, _, .cons (d := d) (ds := ds) h r, l => by
    have l' : max (dpt d) (dpts ds) < dpts xs + 1 := by rw [dpts] at l; exact l
    have h1 := Nat.le_max_left (dpt d) (dpts ds)
    have h2 := Nat.le_max_right (dpt d) (dpts ds)
    exact .cons (Dq.low ha hx h (by omega)) (DqA.low ha hx r (by omega))
theorem DqM.low {H : Hp} {a : Addr} {vs : List V} {xs : List D} (ha : H a = some (.lst vs)) (hx : DqA H vs xs) : ∀ {v : List (Key × V)} {d : List (D × D)}, DqM H v d → dptm d < dpts xs + 1 → DqM (del H a) v d
  | _, _, .nil, _ => .nil
  | _, _, .cons (d := d) (ds := ds) h r, l => by
    have l' : max (dpt d) (dptm ds) < dpts xs + 1 := by rw [dptm] at l; exact l
    have h1 := Nat.le_max_left (dpt d) (dptm ds)
    have h2 := Nat.le_max_right (dpt d) (dptm ds)
    exact .cons (Dq.low ha hx h (by omega)) (DqM.low ha hx r (by omega))
end
def isC : Vl → Bool
  | .c _ => true
  | .d _ => false
theorem rel_c {Hi Hi2 : Hp} {as : List Addr} : ∀ {vs : List V} {xs : List Vl}, Paired (RelVl Hi as) vs xs → xs.all isC = true → Paired (RelVl Hi2 as) vs xs
  | _, _, .nil, _ => .nil
  | _, _, .cons q r, h => by
    rw [List.all_cons, Bool.and_eq_true] at h
    refine .cons ?_ (rel_c r h.2)
    cases q with
    | d _ => cases h.1
    | c q => exact .c q
/-- what may stand beside -/
def okT (n : Nat) : Ce → Bool
  | .l ys => decide (dpts ys < n)
  | .m _ => false
  | .v xs => xs.all isC
  | .w _ => false
  | .tb _ _ => false
  | .y _ => false
  | .yf _ => false
  | .o _ _ => false
  | .fv _ _ _ _ _ => false
  | _ => true
open Classical in
/-- f walks the cell that the name i holds -/
noncomputable def fThaw (i : Nat) (f : M (List D)) : M (List D) := fun s => match s.sl[i]? with
  | some (some (.c j)) => match s.ce[j]? with
    | some (.l xs) => match f s with
      | .ok ys s' => if s'.ce = s.ce.set j (.f xs) ∧ dpts ys < dpts xs + 1 ∧ ∀ k c, k ≠ j → s.ce[k]? = some c → okT (dpts xs + 1) c = true then .ok ys s else .no
      | .ex e s' => .ex e s'
      | .no => .no
    | _ => .no
  | _ => .no
theorem fThaw_ok {i j : Nat} {f : M (List D)} {s s' : S} {xs ys : List D} (h1 : s.sl[i]? = some (some (.c j))) (h2 : s.ce[j]? = some (.l xs)) (h3 : f s = .ok ys s') (h4 : s'.ce = s.ce.set j (.f xs)) (h5 : dpts ys < dpts xs + 1)
    (h6 : ∀ k c, k ≠ j → s.ce[k]? = some c → okT (dpts xs + 1) c = true) : fThaw i f s = .ok ys s := by
  unfold fThaw
  rw [h1]
  simp only
  rw [h2]
  simp only
  rw [h3]
  simp only
  rw [if_pos ⟨h4, h5, h6⟩]
section
variable {mg : Str → Option Value} {W : WX} {B : Bd mg} {σ : St} {H Hi : Hp} {as : List Addr} {s : S}
theorem Rep.thaw {H' Hi' : Hp} {as' : List Addr} {s' : S} {j : Nat} {xs : List D} (r : Rep B σ H Hi as s) (r' : Rep B σ H' Hi' as' s') (e : Same Hi Hi') (p : as <+: as') (hj : s.ce[j]? = some (.l xs)) (hs : s'.ce = s.ce.set j (.f xs)) (ok : ∀ k c, k ≠ j → s.ce[k]? = some c → okT (dpts xs + 1) c = true) :
    ∃ a vs, Hi' a = some (.lst vs) ∧ DqA Hi' vs xs ∧ as' = as ∧ Same Hi (del Hi' a) ∧ Rep B σ H' (del Hi' a) as s := by
  have la : as' = as := by
    have h1 := r.lea
    have h2 := r'.lea
    rw [hs, List.length_set] at h2
    obtain ⟨t, rfl⟩ := p
    rw [List.length_append] at h2
    have : t = [] := List.eq_nil_of_length_eq_zero (by omega)
    rw [this, List.append_nil]
  subst la
  have hjl : j < as'.length := by rw [r.lea]; exact lt_of_get hj
  have hja : as'[j]? = some as'[j] := List.getElem?_eq_getElem hjl
  generalize as'[j] = a at hja
  have hjf : s'.ce[j]? = some (.f xs) := by rw [hs, List.getElem?_set_self (lt_of_get hj)]
  obtain ⟨vs, f1, f2⟩ := r'.cel j a _ hja hjf
  have hn : Hi a = none := (r.cel j a _ hja hj).hi_none rfl
  have sm : Same Hi (del Hi' a) := fun b o h => by
    have nb : b ≠ a := fun z => by rw [z, hn] at h; cases h
    rw [del_ne nb]
    exact e b o h
  have sub : ∀ b o, del Hi' a b = some o → b ≠ a ∧ Hi' b = some o := fun b o h => by
    by_cases z : b = a
    · rw [z, del_same] at h; cases h
    · rw [del_ne z] at h; exact ⟨z, h⟩
  refine ⟨a, vs, f1, f2, rfl, sm, fun b o h => r'.sub b o (sub b o h).2, fun b hb => ?_, r'.fr, fun b o h => r'.hin b o (sub b o h).2, r.new, r.len, fun i x h => ?_, r.lea, fun k b c e1 e2 => ?_, r.inj⟩
  · obtain ⟨kvs, h⟩ := r.lkd b hb
    exact ⟨kvs, sm _ _ h⟩
  · obtain ⟨v, q1, q2⟩ := r.slo i x h
    exact ⟨v, q1, q2.mono sm (List.prefix_refl _)⟩
  · by_cases hk : k = j
    · subst hk
      rw [hja] at e1; cases e1
      rw [hj] at e2; cases e2
      exact ⟨del_same, vs, r'.lst f1, DqA.low f1 f2 f2 (Nat.lt_succ_self _)⟩
    · have o := ok k c hk e2
      have e3 : s'.ce[k]? = some c := by rw [hs, List.getElem?_set_ne (Ne.symm hk)]; exact e2
      have q := r.cel k b c e1 e2
      have q' := r'.cel k b c e1 e3
      cases c with
      | l ys =>
        obtain ⟨z1, ws, z2, z3⟩ := q'
        have ly : dpts ys < dpts xs + 1 := of_decide_eq_true o
        refine ⟨?_, ws, z2, DqA.low f1 f2 z3 ly⟩
        cases h : del Hi' a b with
        | none => rfl
        | some u =>
          have := (sub b u h).2
          rw [z1] at this; cases this
      | f ys => obtain ⟨ws, z2, z3⟩ := q; exact ⟨ws, sm _ _ z2, z3.mono sm⟩
      | m _ => cases o
      | g => trivial
      | x e' => obtain ⟨cls, d, h1, h2⟩ := q; exact ⟨cls, d, sm _ _ h1, h2.mono sm⟩
      | v ys =>
        obtain ⟨z1, ws, z2, z3⟩ := q'
        refine ⟨?_, ws, z2, rel_c z3 o⟩
        cases h : del Hi' a b with
        | none => rfl
        | some u =>
          have := (sub b u h).2
          rw [z1] at this; cases this
      | w _ => cases o
      | t ys => obtain ⟨ws, z2, z3⟩ := q; exact ⟨ws, sm _ _ z2, paired_mono (fun _ _ y => y.mono sm (List.prefix_refl _)) z3⟩
      | tb _ _ => cases o
      | fn f c q0 σ' xs' => exact ⟨q.1, sm _ _ q.2.1, q.2.2.mono sm⟩
      | y _ => cases o
      | yf _ => cases o
      | o _ _ => rename_i o; cases o
      | fv _ _ _ _ _ => cases o
      | th _ => exact RelTh.mono q sm
      | tl _ => obtain ⟨ws, z2, z3⟩ := q; exact ⟨ws, sm _ _ z2, paired_mono (fun _ _ y => RelTh.mono y sm) z3⟩
theorem sf_thaw {t : TE} {f : M (List D)} (i : Nat) (h : SF mg W t f) : SF mg W t (fThaw i f) := fun B σ H Hi as s Q rp w => by
  unfold fThaw at w
  cases h1 : s.sl[i]? with
  | none => rw [h1] at w; exact w.elim
  | some o =>
  cases o with
  | none => rw [h1] at w; exact w.elim
  | some x =>
  cases x with
  | d _ => rw [h1] at w; exact w.elim
  | c j =>
    rw [h1] at w
    simp only at w
    cases h2 : s.ce[j]? with
    | none => rw [h2] at w; exact w.elim
    | some c =>
      rw [h2] at w
      cases c with
      | l xs =>
        simp only at w
        refine h B σ H Hi as s Q rp ?_
        cases h3 : f s with
        | no => rw [h3] at w; exact w
        | ex e s' => rw [h3] at w; exact w
        | ok ys s' =>
          rw [h3] at w
          simp only at w
          split at w
          · rename_i hc
            obtain ⟨c1, c2, c3⟩ := hc
            intro H' Hi' as' r' e' p' q ws hq hw
            obtain ⟨a, vs, f1, f2, rfl, sm, rr⟩ := rp.thaw r' e' p' h2 c1 c3
            exact w H' _ _ rr sm (List.prefix_refl _) q ws hq (DqA.low f1 f2 hw c2)
          · exact w.elim
      | _ => exact w.elim
end
end DL

end DLsec_72

section DLsec_73
set_option maxRecDepth 100000
set_option maxHeartbeats 1000000
/-! a list that is data from here on -/
namespace DL
open PySem PySem.Spec PyProof.Rows L2
section
variable {mg : Str → Option Value} {W : WX} {B : Bd mg} {σ : St} {H Hi : Hp} {as : List Addr} {s : S}
end
end DL

end DLsec_73

section DLsec_74
set_option maxRecDepth 100000
set_option maxHeartbeats 1000000
/-! dicts whose keys are tuples: made, written, read, asked, walked -/
namespace DL
open PySem PySem.Spec PyProof.Rows L2
def putY (kvs : List (List Key × D)) (k : List Key) (d : D) : List (List Key × D) := if (kvs.any fun p => decide (p.1 = k)) = true then kvs.map (fun p => if p.1 = k then (p.1, d) else p) else kvs ++ [(k, d)]
def lookY (kvs : List (List Key × D)) (k : List Key) : Option D := (kvs.find? fun p => decide (p.1 = k)).map (·.2)
theorem DqT.any {H : Hp} {k : List Key} : ∀ {v : List (List Key × V)} {d : List (List Key × D)}, DqT H v d → (v.any fun p => decide (p.1 = k)) = (d.any fun p => decide (p.1 = k))
  | _, _, .nil => rfl
  | _, _, .cons h r => by
    have := DqT.any (k := k) r
    rw [List.any_cons, List.any_cons, h.1, this]
theorem DqT.snoc {H : Hp} {k : List Key} {y : V} {x : D} (h : Dq H y x) : ∀ {v : List (List Key × V)} {d : List (List Key × D)}, DqT H v d → DqT H (v ++ [(k, y)]) (d ++ [(k, x)])
  | _, _, .nil => .cons ⟨rfl, h⟩ .nil
  | _, _, .cons q r => .cons q (DqT.snoc h r)
theorem DqT.repl {H : Hp} {k : List Key} {y : V} {x : D} (h : Dq H y x) : ∀ {v : List (List Key × V)} {d : List (List Key × D)}, DqT H v d → DqT H (v.map fun p => if p.1 = k then (p.1, y) else p) (d.map fun p => if p.1 = k then (p.1, x) else p)
  | _, _, .nil => .nil
  | _, _, .cons (a := p) (b := q') q r => by
    simp only [List.map_cons]
    refine .cons ?_ (DqT.repl h r)
    rw [← q.1]
    split
    · exact ⟨rfl, h⟩
    · exact q
theorem DqT.put {H : Hp} {k : List Key} {y : V} {x : D} {v : List (List Key × V)} {d : List (List Key × D)} (q : DqT H v d) (h : Dq H y x) : DqT H (putK v k y) (putY d k x) := by
  unfold putK putY
  rw [q.any]
  split
  · exact q.repl h
  · exact q.snoc h
theorem DqT.look {H : Hp} {k : List Key} : ∀ {v : List (List Key × V)} {d : List (List Key × D)}, DqT H v d → (valV v k = none ∧ lookY d k = none) ∨ ∃ y x, valV v k = some y ∧ lookY d k = some x ∧ Dq H y x
  | _, _, .nil => .inl ⟨rfl, rfl⟩
  | _, _, .cons (a := p) (b := q') q r => by
    by_cases e : p.1 = k
    · refine .inr ⟨p.2, q'.2, valV_pos e, ?_, q.2⟩
      unfold lookY
      rw [List.find?_cons_of_pos (by rw [← q.1]; simpa using e)]
      rfl
    · rcases DqT.look (k := k) r with ⟨h1, h2⟩ | ⟨y, x, h1, h2, h3⟩
      · refine .inl ⟨by rw [valV_neg e]; exact h1, ?_⟩
        unfold lookY
        rw [List.find?_cons_of_neg (by rw [← q.1]; simpa using e)]
        exact h2
      · refine .inr ⟨y, x, by rw [valV_neg e]; exact h1, ?_, h3⟩
        unfold lookY
        rw [List.find?_cons_of_neg (by rw [← q.1]; simpa using e)]
        exact h2
theorem DqT.get {H : Hp} : ∀ {v : List (List Key × V)} {d : List (List Key × D)} {i : Nat} {x : List Key × D}, DqT H v d → d[i]? = some x → ∃ y, v[i]? = some (x.1, y) ∧ Dq H y x.2
  | _, _, _, _, .nil, e => by simp at e
  | _, _, 0, _, .cons (a := p) h _, e => by
    simp at e; subst e
    exact ⟨p.2, by rw [← h.1]; rfl, h.2⟩
  | _, _, i + 1, x, .cons _ r, e => by
    obtain ⟨y, a, b⟩ := DqT.get (i := i) (x := x) r (by simpa using e)
    exact ⟨y, by simpa using a, b⟩
theorem DqT.mono {H H' : Hp} {v : List (List Key × V)} {d : List (List Key × D)} (q : DqT H v d) (e : Same H H') : DqT H' v d := paired_mono (fun _ _ z => ⟨z.1, z.2.mono e⟩) q
section
variable {mg : Str → Option Value} {W : WX} {B : Bd mg} {σ : L2.St} {H Hi : Hp} {as : List Addr} {s : S}
variable {ta tb tc te tk tv : TE} {fa fb fc fe fk fv : M Vl}
end
end DL

end DLsec_74

section DLsec_75
set_option maxRecDepth 100000
set_option maxHeartbeats 1000000
/-! lambdas kept in a list, asked one after the other by a comprehension -/
namespace DL
open PySem PySem.Spec PyProof.Rows L2
/-- at f: the function that the lambda made, its code object at d -/
def fnO (X : Cx) (ar : Arguments) (e : Expr) (sc : Scope) (f d : Addr) : HO := .ext fun h => ∃ u v : Value, h.get? f = some (PySem.W.kla_obj "<lambda>" (X.env.qual ++ "<lambda>") ar e sc (cloFrom X.env.cells sc.names []) u d v)
def tLamV (P : Addr) (q : Str) (R : Addr → Addr → HO) : TE := fun σ H Q => ∃ ps, H P = some (.tbl ps) ∧ TabR H ps q ∧
  ∀ (f d : Addr) (H1 : Hp), MadeH H H1 P ps q d → H1 f = none → H1 d = some (LamX.CodeO d q) → Q (.ref f) (upd H1 f (R f d))
section
variable {X : Cx} {pins : List (Addr × Obj)} {σ : St} {H : Hp} {s : Shared}
theorem fnO_ok {P : Program} {w : World} {G : Hp} {h : Heap} {ar : Arguments} {e : Expr} {sc : Scope} {f d : Addr} {u v : Value} (ob : h.get? f = some (PySem.W.kla_obj "<lambda>" (X.env.qual ++ "<lambda>") ar e sc (cloFrom X.env.cells sc.names []) u d v)) : ObjOk P w G h f (fnO X ar e sc f d) :=
  ⟨⟨u, v, ob⟩, ⟨_, ob⟩, fun h1 h2 z k => by
    obtain ⟨u, v, q⟩ := z
    exact ⟨u, v, k _ q⟩⟩
theorem pe_lamV {c P : Addr} {ar : Arguments} {e : Expr} {sc : Scope} {lp : Pos} (tbl : LamX.TabB X.base X.mg c P) (own : X.env.code = .ref c) (L : LamX.LamS X.env.scope sc) (hdf : defaultsOf ar X.env = ([], [])) :
    PE X (.Lambda ar e sc lp) (tLamV P (X.env.qual ++ "<lambda>") (fnO X ar e sc)) := by
  refine ⟨fun pins s σ H Q I ⟨ps, h1, h2, h3⟩ => ?_⟩
  refine lam_made I tbl own h1 h2 hdf (L.has I.ok) fun f d u v H1 z J md f0 ff cod ob big => ?_
  exact ⟨.ref f, upd H1 f (fnO X ar e sc f d), J.take (t' := z.toks) (h' := z.heap) (fun _ _ _ q => q) (I.fpOk big f0) (fnO_ok ob), rfl, h3 f d H1 md f0 cod⟩
end
end DL

end DLsec_75

section DLsec_76
set_option maxRecDepth 100000
set_option maxHeartbeats 1000000
/-! a lambda asked in a comprehension of the def that made it -/
namespace DL
open PySem PySem.Spec PyProof.Rows L2
section
variable {X : Cx} {pins : List (Addr × Obj)} {σ : St} {H H0 : Hp} {s s0 : Shared}
/-- what a lambda in a list is: what stands at its function, what the def that asks promises of it -/
abbrev Alt := (Addr → Addr → HO) × (Addr → Addr → St → Hp → VK → Prop)
structure AltOk (X : Cx) (x a : Str) (st : Stmt) (g : Addr) (Ng : List Str) (k : Nat) (p : Alt) : Prop where
  ex : ∃ (ar : Arguments) (e : Expr) (sc : Scope) (t : XK → TE), p.1 = fnO X ar e sc ∧ LamX.LamS X.env.scope sc ∧
    (∀ (q : Str) (cl : List (Str × Addr)) (u d v : Value), bindArgs (PySem.W.kla_fn "<lambda>" q ar e sc cl u d v) ⟨[], []⟩ = pure []) ∧
    (∀ (A : Around) (out : List Env) (z : Shared) (G : Hp) (E : XK) (f d : Addr), A.guards = some [] → Room k (A.deeper (LamX.lamEnv X sc z.heap.objs.size f d)) → PE (LamX.lamCx X A out z G E sc f d) e (t E)) ∧
    ∀ (cdv : Value) (z : Shared) (G : Hp) (f d : Addr) (τ : St) (Q : VK), Room (k + 1) (aIn X x (defScope st) g cdv z) →
      (∀ (W' : WX) (pn : List (Addr × Obj)) (xe : Value → Shared → Prop) (p1 p2 : Pos), Takes ((cxIn X Ng x (defScope st) g cdv z G (WE WF τ)).tr pn xe) W' →
        PE ((cxIn X Ng x (defScope st) g cdv z G (WE WF τ)).tr pn xe) (.Call (.Name a p1) [] [] p2) (tAsk W' f d (X.env.qual ++ "<lambda>") τ t)) →
      p.2 f d τ G Q → ∃ tb, PSs (cxIn X Ng x (defScope st) g cdv z G (WE WF τ)) (defBody st) tb ∧ tb { nx := fun _ G' => Q .non G', rt := Q } (L2.start Ng [.ref f]) G
end
end DL

end DLsec_76

section DLsec_77
set_option maxRecDepth 100000
set_option maxHeartbeats 1000000
/-! a comprehension whose test knows what its def has made -/
namespace DL
open PySem PySem.Spec PyProof.Rows L2
section
variable {X : Cx} {elt tg iter : Expr} {ifs : List Expr} {scope : Scope} {pos : Pos} {own : List (Str × Nat)} {wi : TI} {g : TG} {tt : St → Hp → TT} {te : TE}
end
end DL

end DLsec_77

section DLsec_78
set_option maxRecDepth 100000
set_option maxHeartbeats 1000000
/-! lambdas kept in a list: the data twin -/
namespace DL
open PySem PySem.Spec PyProof.Rows L2
section
variable {mg : Str → Option Value} {W : WX} {B : Bd mg} {σ : St} {H Hi : Hp} {as : List Addr} {s : S}
/-- a thing of ours that the data know nothing of -/
structure Pv (B : Bd mg) (Hi : Hp) (as : List Addr) (s : S) (b : Addr) : Prop where
  hi : Hi b = none
  own : B.H0 b = none ∨ b ∈ B.A0
  dead : ∀ (j : Nat) (c : Ce), as[j]? = some b → s.ce[j]? = some c → c.alive = false
theorem Pv.new (r : Rep B σ H Hi as s) {b : Addr} (h : H b = none) : Pv B Hi as s b := ⟨r.fresh h, r.fresh0 h, fun j c e1 e2 => by
  cases al : c.alive with
  | false => rfl
  | true => exact absurd rfl ((r.cel j b c e1 e2).ne_new al h)⟩
theorem Rep.resl (r : Rep B σ H Hi as s) {τ : St} (hl : τ.length = σ.length) (hs : ∀ (i : Nat) (x : Vl), s.sl[i]? = some (some x) → τ[i]? = σ[i]?) : Rep B τ H Hi as s :=
  ⟨r.sub, r.lkd, r.fr, r.hin, r.new, hl.trans r.len, fun i x e => by rw [hs i x e]; exact r.slo i x e, r.lea, r.cel, r.inj⟩
def ExtR (R : Addr → Addr → HO) : Prop := ∀ f d, ∃ φ, R f d = .ext φ
/-- the list of lambdas behind the name i -/
structure Kp (i : Nat) (q : Str) (L : List Alt) (B : Bd mg) (σ : St) (H Hi : Hp) (as : List Addr) (s : S) : Prop where
  rp : Rep B σ H Hi as s
  ls : ∃ (p : Addr) (fs : List (Addr × Addr)), σ[i]? = some (some (.ref p)) ∧ H p = some (.lst (fs.map fun x => V.ref x.1)) ∧ Pv B Hi as s p ∧
    Paired (fun (x : Addr × Addr) (a : Alt) => H x.1 = some (a.1 x.1 x.2) ∧ Hi x.2 = some (LamX.CodeO x.2 q) ∧ Pv B Hi as s x.1) fs L
theorem tb_at (r : Rep B σ H Hi as s) {P : Addr} {q : Str} (hm : Ce.tb P q ∈ s.ce) : ∃ (j : Nat) (ps : Array Value), as[j]? = some P ∧ s.ce[j]? = some (Ce.tb P q) ∧ H P = some (.tbl ps) ∧ TabR Hi ps q := by
  obtain ⟨j, hj⟩ := List.getElem?_of_mem hm
  have hja : ∃ a, as[j]? = some a := by
    have := lt_of_get hj
    rw [← r.lea] at this
    exact ⟨_, List.getElem?_eq_getElem this⟩
  obtain ⟨a, ha⟩ := hja
  obtain ⟨k1, ps, k2, k3, k4⟩ := r.cel j a _ ha hj
  subst k4
  exact ⟨j, ps, ha, hj, k2, k3⟩
/-- what stands elsewhere is as it was -/
theorem MadeH.keep {H1 : Hp} {P d : Addr} {ps : Array Value} {q : Str} (md : MadeH H H1 P ps q d) (hP : H P = some (.tbl ps)) {b : Addr} {o : HO} (hb : H b = some o) (nt : ∀ ps, o ≠ .tbl ps) : H1 b = some o := by
  rcases md with ⟨rfl, _⟩ | ⟨qs, n, rfl, _, _⟩
  · exact hb
  · have n1 : b ≠ d := ne_of_none hb n
    have n2 : b ≠ P := fun z => by
      rw [z, hP] at hb
      cases hb
      exact nt _ rfl
    rw [upd_ne n1, upd_ne n2]
    exact hb
theorem pv_mono {Hi' : Hp} {b : Addr} (v : Pv B Hi as s b) (h : Hi' b = none) : Pv B Hi' as s b := ⟨h, v.own, v.dead⟩
theorem Rep.made2 (r : Rep B σ H Hi as s) {j : Nat} {p d : Addr} {q : Str} {ps : Array Value} {H1 : Hp} (ha : as[j]? = some p) (hc : s.ce[j]? = some (.tb p q)) (hp : H p = some (.tbl ps)) (ht : TabR Hi ps q) (md : MadeH H H1 p ps q d) :
    ∃ Hi1, Rep B σ H1 Hi1 as s ∧ Same Hi Hi1 ∧ Hi1 d = some (LamX.CodeO d q) ∧ ∀ b o, H b = some o → Hi1 b = Hi b := by
  rcases md with ⟨rfl, x, hx⟩ | ⟨qs, n, rfl, t1, t2⟩
  · obtain ⟨c, e1, e2⟩ := ht.2 x _ hx
    cases e1
    exact ⟨Hi, r, Same.refl _, e2, fun _ _ _ => rfl⟩
  · have sm : Same Hi (upd Hi d (LamX.CodeO d q)) := same_new (r.fresh n)
    have npd : p ≠ d := ne_of_none hp n
    have r1 := r.addI (o := LamX.CodeO d q) n
    have k := r1.cel j p _ ha hc
    have r2 := r1.mut (o := .tbl qs) (c' := .tb p q) ha hc rfl rfl ⟨k.1, qs, upd_same, ⟨t1, fun x u hu => ?_⟩, rfl⟩
    · refine ⟨_, ?_, sm, upd_same, fun b o h => upd_ne (ne_of_none h n)⟩
      rw [upd_comm npd]
      have : s.ce.set j (.tb p q) = s.ce := by
        apply List.ext_getElem?
        intro i
        by_cases h : i = j
        · subst h
          rw [List.getElem?_set_self (lt_of_get hc), hc]
        · rw [List.getElem?_set_ne (Ne.symm h)]
      rw [this] at r2
      exact r2
    · rcases t2 x u hu with z | z
      · obtain ⟨c, e1, e2⟩ := ht.2 x u z
        exact ⟨c, e1, sm _ _ e2⟩
      · exact ⟨d, z, upd_same⟩
/-- name = [lambda: ..] -/
theorem kp_new {i : Nat} {P : Addr} {q : Str} {a : Alt} {D : Ends} (hx : ExtR a.1) (r : Rep B σ H Hi as s) (hm : Ce.tb P q ∈ s.ce) (hi : i < σ.length) (ns : ∀ x, s.sl[i]? ≠ some (some x))
    (go : ∀ σ' H' Hi', Kp i q [a] B σ' H' Hi' as s → Same Hi Hi' → D.nx σ' H') : tAsg (tLst (tCons (tLamV P q a.1) tNil)) (gName i) D σ H := by
  obtain ⟨j, ps, ha, hj, hP, ht⟩ := tb_at r hm
  refine ⟨ps, hP, r.tabR ht, fun f d H1 md f0 cod => ⟨by show 1 ≤ sizeLine; rw [sizeLine_eq]; omega, fun p hp => ?_⟩⟩
  obtain ⟨Hi1, r1, sm, hd⟩ := r.made ha hj hP ht md
  have r2 : Rep B σ (upd H1 f (a.1 f d)) Hi1 as s := r1.add f0
  have r3 : Rep B σ (upd (upd H1 f (a.1 f d)) p (.lst [V.ref f])) Hi1 as s := r2.add hp
  have pf : p ≠ f := fun z => by rw [z, upd_same] at hp; cases hp
  refine go (σ.set i (some (.ref p))) _ Hi1 ⟨r3.resl (by simp) fun k x e => ?_, p, [(f, d)], ?_, upd_same, Pv.new r2 hp, .cons ⟨by rw [upd_ne (Ne.symm pf)]; exact upd_same, hd, Pv.new r1 f0⟩ .nil⟩ sm
  · rw [List.getElem?_set_ne]
    intro z
    subst z
    exact ns x e
  · rw [List.getElem?_set_self hi]
theorem ExtR.ntb {R : Addr → Addr → HO} (h : ExtR R) (f d : Addr) (ps : Array Value) : R f d ≠ .tbl ps := fun z => by
  obtain ⟨φ, e⟩ := h f d
  rw [e] at z; cases z
theorem ExtR.nls {R : Addr → Addr → HO} (h : ExtR R) (f d : Addr) (vs : List V) : R f d ≠ .lst vs := fun z => by
  obtain ⟨φ, e⟩ := h f d
  rw [e] at z; cases z
/-- a private thing is written -/
theorem Rep.setP (r : Rep B σ H Hi as s) {b : Addr} {o : HO} (v : Pv B Hi as s b) : Rep B σ (upd H b o) Hi as s := by
  have r2 := (r.era v.hi v.own v.dead).add (o := o) (p := b) era_same
  have e : upd (DL.era H b) b o = upd H b o := by
    funext c
    by_cases z : c = b
    · subst z; rw [upd_same, upd_same]
    · rw [upd_ne z, upd_ne z, era_ne z]
  rwa [e] at r2
theorem paired_imp {α β : Type} {F G : α → β → Prop} : ∀ {l : List α} {m : List β}, Paired F l m → (∀ a b, a ∈ l → b ∈ m → F a b → G a b) → Paired G l m
  | _, _, .nil, _ => .nil
  | _, _, .cons (a := a) (b := b) x r, h => .cons (h a b (List.mem_cons_self ..) (List.mem_cons_self ..) x) (paired_imp r fun a b ha hb => h a b (List.mem_cons_of_mem _ ha) (List.mem_cons_of_mem _ hb))
/-- name.append(lambda: ..) -/
theorem kp_app {K : PySem.W.Frag} {i : Nat} {P : Addr} {q : Str} {L : List Alt} {a : Alt} {D : Ends} (hx : ∀ b ∈ L ++ [a], ExtR b.1) (k : Kp i q L B σ H Hi as s) (hm : Ce.tb P q ∈ s.ce) (hl : L.length < 1000)
    (go : ∀ H' Hi', Kp i q (L ++ [a]) B σ H' Hi' as s → Same Hi Hi' → D.nx σ H') : tDrop (tBM K "list" rAppend (tVar i) (tCons (tLamV P q a.1) tNil)) D σ H := by
  obtain ⟨r, p, fs, hs, hp, pv, hfs⟩ := k
  obtain ⟨j, ps, ha, hj, hP, ht⟩ := tb_at r hm
  have ll : fs.length = L.length := Paired.length hfs
  refine ⟨.ref p, hs, .inl ⟨rfl, _, .inl (.inl hp)⟩, ps, hP, r.tabR ht, fun f d H1 md f0 cod => ?_⟩
  obtain ⟨Hi1, r1, sm, hd, hsm⟩ := r.made2 ha hj hP ht md
  have r2 : Rep B σ (upd H1 f (a.1 f d)) Hi1 as s := r1.add f0
  have hp1 : H1 p = some (.lst (fs.map fun x => V.ref x.1)) := md.keep hP hp fun _ z => by cases z
  have pf : p ≠ f := ne_of_none hp1 f0
  have hp2 : upd H1 f (a.1 f d) p = some (.lst (fs.map fun x => V.ref x.1)) := by rw [upd_ne pf]; exact hp1
  have pv1 : Pv B Hi1 as s p := pv_mono pv (by rw [hsm _ _ hp]; exact pv.hi)
  refine ⟨p, _, V.ref f, rfl, rfl, hp2, by rw [List.length_map, ll, sizeLine_eq]; omega, ?_⟩
  refine go _ Hi1 ⟨r2.setP pv1, p, fs ++ [(f, d)], hs, by rw [upd_same, List.map_append]; rfl, pv1, pair_app (paired_imp hfs fun x b hx1 hb1 z => ?_) (.cons ⟨by rw [upd_ne (Ne.symm pf)]; exact upd_same, hd, Pv.new r1 f0⟩ .nil)⟩ sm
  obtain ⟨z1, z2, z3⟩ := z
  have eb := hx b (List.mem_append_left _ hb1)
  have k1 : H1 x.1 = some (b.1 x.1 x.2) := md.keep hP z1 (eb.ntb _ _)
  refine ⟨?_, sm _ _ z2, pv_mono z3 (by rw [hsm _ _ z1]; exact z3.hi)⟩
  have np : x.1 ≠ p := fun z => by
    rw [z] at z1
    rw [hp] at z1
    exact eb.nls p x.2 _ (Option.some.inj z1).symm
  rw [upd_ne np, upd_ne (ne_of_none k1 f0)]
  exact k1
/-- what stands at turn n of the walk -/
structure At (i2 : Nat) (q : Str) (L : List Alt) (B : Bd mg) (σ : St) (Hi : Hp) (as : List Addr) (s : S) (p D : Addr) (fs : List (Addr × Addr)) (G Gi : Hp) : Prop where
  rp : Rep B (σ.set i2 none) G Gi as s
  sm : Same Hi Gi
  hp : G p = some (.lst (fs.map fun x => V.ref x.1))
  hD : G D = some (.lst [])
  ip : Gi p = none
  iD : Gi D = none
  fs : Paired (fun (x : Addr × Addr) (a : Alt) => G x.1 = some (a.1 x.1 x.2) ∧ Gi x.2 = some (LamX.CodeO x.2 q) ∧ Gi x.1 = none) fs L
theorem pair_get {α β : Type} {F : α → β → Prop} : ∀ {l : List α} {m : List β} {i : Nat} {x : α}, Paired F l m → l[i]? = some x → ∃ y, m[i]? = some y ∧ F x y
  | _, _, _, _, .nil, e => by simp at e
  | _, _, 0, _, .cons (b := b) h _, e => by
    simp at e; subst e
    exact ⟨b, rfl, h⟩
  | _, _, i + 1, x, .cons _ r, e => by
    obtain ⟨y, a, b⟩ := pair_get (i := i) (x := x) r (by simpa using e)
    exact ⟨y, by simpa using a, b⟩
end
end DL

end DLsec_78

section DLsec_79
set_option maxRecDepth 100000
set_option maxHeartbeats 1000000
/-! lambdas kept in a list: the block -/
namespace DL
open PySem PySem.Spec PyProof.Rows L2
/-- the lambdas of a block, in their order -/
def lamsOf : List Stmt → List (Arguments × Expr × Scope)
  | .Assign _ (.List [.Lambda ar e sc _] _) _ :: r => (ar, e, sc) :: lamsOf r
  | .Expr (.Call _ [.Lambda ar e sc _] _ _) _ :: r => (ar, e, sc) :: lamsOf r
  | _ :: r => lamsOf r
  | [] => []
def lamAt (st : Stmt) (n : Nat) : Arguments × Expr × Scope := (lamsOf (defBody st)).getD n ⟨default, default, default⟩
section
variable {X : Cx} {pins : List (Addr × Obj)} {σ : St} {H : Hp} {s : Shared}
end
section
variable {mg : Str → Option Value} {W : WX} {B : Bd mg} {σ : St} {H Hi : Hp} {as : List Addr} {s : S}
end
end DL

end DLsec_79

section DLsec_80
set_option maxRecDepth 100000
set_option maxHeartbeats 1000000
/-! a list of new lists as a cell, shown by repr -/
namespace DL
open PySem PySem.Spec PyProof.Rows L2
section
variable {mg : Str → Option Value} {W : WX} {B : Bd mg} {σ : L2.St} {H Hi : Hp} {as : List Addr} {s : S}
end
end DL

end DLsec_80

section DLsec_81
set_option maxRecDepth 100000
set_option maxHeartbeats 1000000
/-! a, b, c, d = (x, y, z, w): new lists among them stay cells -/
namespace DL
open PySem PySem.Spec PyProof.Rows L2
section
variable {mg : Str → Option Value} {W : WX}
end
end DL

end DLsec_81

section DLsec_82
set_option maxRecDepth 100000
set_option maxHeartbeats 4000000
/-! an exception class of the text over any base whose facts the kit has: made, raised -/
namespace PySem
namespace HandSPX
open Builtin Builtin.ObjectAttr
/-- what the store of an attribute asks of the classes behind C -/
structure Pas (l : List Value) : Prop where
  ne : l.isEmpty = false
  ob : l.contains (.type "object") = true
  ps : ∀ self : Value, refuseLoop self "__setattr__" l = pure ()
theorem Pas.cons {l : List Value} (h : Pas l) (C : Addr) : Pas (.ref C :: l) := ⟨rfl, by rw [List.contains_cons, h.ob]; simp, fun self => by rw [refuseLoop_ref]; exact h.ps self⟩
section
variable {prog : Program} {w : World} {A : Around} {E : Value → Shared → Prop} {R : Result → Shared → Prop} {hp : Heap} {g : Array GenState} {d : Drawn} {t : Nat} {os : OsState}
end
end HandSPX
end PySem

namespace L2
open PySem PySem.Spec PyProof.Rows
/-- what the written part says of a class of the text over any base with known facts -/
structure OexG (K : PySem.W.Frag) (C : Addr) : Prop where
  cls : ∃ nm q N bs bm sn sub ab col dd k0 k1 k2 k3 k5 B newId initId bmB, K.lookup C = some (excClassObj nm q C N bs bm true sn sub ab col dd k0 k1 k2 k3 k5 newId) ∧ PySem.HandSPX.Pas bm ∧ ExcBaseFacts B newId initId bmB ∧ ∀ X : String, bm.contains (.type X) = bmB.contains (.type X)
  sa : PySem.W.findIn K (.ref C) "__setattr__" = some (some (.builtin "object.__setattr__"))
  exC : PySem.W.subIn K (.ref C) (.type "BaseException") = some true
  tyC : PySem.W.typeIn K (.ref C) = some (.type "type")
  kC : PySem.W.keepIn K (.ref C) = true
section
variable {X : Cx} {pins : List (Addr × Obj)} {σ : St} {H : Hp} {s : Shared} {a C dx : Addr} {f : Str} {y : V} {u : Value} {Q : Unit → Shared → Prop} {E : Value → Shared → Prop} {A : Around}
end
section
variable {X : Cx} {o e : Expr} {es : List Expr} {to te : TE} {ta : TA} {f : Str} {p p' p1 p2 pos : Pos}
end
end L2

namespace DL
open PySem PySem.Spec PyProof.Rows L2
section
variable {mg : Str → Option Value} {W : WX}
end
/-- an exception class of the text with one field, over another base -/
structure OwnExG (K : PySem.W.Frag) (mg : Str → Option Value) (nm f q : Str) (st : Stmt) where
  C : Addr
  fI : Addr
  fd : FuncData
  m : mg nm = some (.ref C)
  oc : OexG K C
  nf : PySem.W.findIn K (.ref C) f = some none
  iC : PySem.W.findIn K (.ref C) "__init__" = some (some (.ref fI))
  tI : PySem.W.typeIn K (.ref fI) = some (.type "function")
  F : Fun K "__init__" q st fI fd
  xa : ExA K C
end DL

end DLsec_82

section DLsec_83
set_option maxRecDepth 100000
/-! all cells lent as data while an expression is looked at, whose answer is a plain datum -/
namespace DL
open PySem PySem.Spec PyProof.Rows L2
/-- a cell, and what it names, as data -/
def view (ce : List Ce) : Nat → Vl → Option D
  | _, .d x => some x
  | 0, .c _ => none
  | n + 1, .c j => match ce[j]? with
    | some (.l xs) => some (.list xs)
    | some (.f xs) => some (.list xs)
    | some (.v xs) => (xs.mapM (view ce n)).map .list
    | some (.t xs) => (xs.mapM (view ce n)).map .tuple
    | _ => none
def lentS (n : Nat) (s : S) : S := ⟨s.sl.map fun o => o.bind fun x => (view s.ce n x).map .d, []⟩
def plainD : D → Bool
  | .none => true
  | .bool _ => true
  | .int _ => true
  | .str _ => true
  | _ => false
def lentH (H Hi : Hp) : Hp := fun b => match Hi b with
  | some o => some o
  | none => H b
section
variable {mg : Str → Option Value} {W : WX} {B : Bd mg} {σ : St} {H H' Hi : Hp} {as : List Addr} {s : S}
theorem same_lent : Same Hi (lentH H Hi) := fun b o e => by simp [lentH, e]
theorem Rep.grow (r : Rep B σ H Hi as s) (e : Same H H') : Rep B σ H' Hi as s := by
  have hl : ∀ lk b o, HL lk H b o → HL lk H' b o := fun lk b o h => by
    unfold HL at h ⊢
    split
    · rename_i hb
      rw [if_pos hb] at h
      obtain ⟨ob, q⟩ := h
      exact ⟨ob, e _ _ q⟩
    · rename_i hb
      rw [if_neg hb] at h
      exact e _ _ h
  refine ⟨fun b o q => hl _ _ _ (r.sub b o q), r.lkd, fun b o q n => hl _ _ _ (r.fr b o q n), r.hin, r.new, r.len, r.slo, r.lea, fun j a c e1 e2 => ?_, r.inj⟩
  have rc := r.cel j a c e1 e2
  refine rc.mono (Same.refl _) (List.prefix_refl _) (fun _ => rfl) fun al => ?_
  cases z : H a with
  | none => exact absurd rfl (rc.ne_new al z)
  | some u => exact e _ _ z
theorem Rep.lst2 (r : Rep B σ H Hi as s) {a : Addr} {vs : List V} (h : H a = some (.lst vs)) (n : Hi a = none) : lentH H Hi a = some (.lst vs) := by
  simp [lentH, n, h]
theorem dqa_mapM {ce : List Ce} {n : Nat} {Hx : Hp} (ih : ∀ (x : Vl) (v : V) (d : D), RelVl Hi as v x → view ce n x = some d → Dq Hx v d) : ∀ {vs : List V} {xs : List Vl} {ds : List D}, Paired (RelVl Hi as) vs xs → xs.mapM (view ce n) = some ds → DqA Hx vs ds
  | _, _, ds, .nil, e => by
    simp at e
    subst e
    exact .nil
  | _, _, ds, .cons (b := x) h r, e => by
    rw [List.mapM_cons] at e
    cases hx : view ce n x with
    | none => rw [hx] at e; cases e
    | some d =>
      rw [hx] at e
      rename_i xs'
      cases hr : xs'.mapM (view ce n) with
      | none => rw [hr] at e; cases e
      | some ds' =>
        rw [hr] at e
        cases e
        exact .cons (ih _ _ _ h hx) (dqa_mapM ih r hr)
theorem Rep.view (r : Rep B σ H Hi as s) : ∀ (n : Nat) (x : Vl) (v : V) (d : D), RelVl Hi as v x → DL.view s.ce n x = some d → Dq (lentH H Hi) v d
  | 0, .d x, v, d, h, e => by
    cases h with
    | d q =>
      simp [DL.view] at e
      subst e
      exact q.mono same_lent
  | n + 1, .d x, v, d, h, e => by
    cases h with
    | d q =>
      simp [DL.view] at e
      subst e
      exact q.mono same_lent
  | 0, .c j, v, d, h, e => by simp [DL.view] at e
  | n + 1, .c j, v, d, h, e => by
    cases h with
    | @c a _ q =>
      unfold DL.view at e
      cases hc : s.ce[j]? with
      | none => rw [hc] at e; cases e
      | some c =>
        rw [hc] at e
        have rc := r.cel j a c q hc
        cases c with
        | l xs =>
          simp only [Option.some.injEq] at e
          subst e
          obtain ⟨h0, vs, h1, h2⟩ := rc
          exact .lst (r.lst2 h1 h0) (h2.mono same_lent)
        | f xs =>
          simp only [Option.some.injEq] at e
          subst e
          obtain ⟨vs, h1, h2⟩ := rc
          exact .lst (same_lent _ _ h1) (h2.mono same_lent)
        | v xs =>
          simp only at e
          obtain ⟨h0, vs, h1, h2⟩ := rc
          cases hm : xs.mapM (DL.view s.ce n) with
          | none => rw [hm] at e; cases e
          | some ds =>
            rw [hm] at e
            cases e
            exact .lst (r.lst2 h1 h0) (dqa_mapM (fun x v d => Rep.view r n x v d) h2 hm)
        | t xs =>
          simp only at e
          obtain ⟨vs, h1, h2⟩ := rc
          cases hm : xs.mapM (DL.view s.ce n) with
          | none => rw [hm] at e; cases e
          | some ds =>
            rw [hm] at e
            cases e
            exact .tup (same_lent _ _ h1) (dqa_mapM (fun x v d => Rep.view r n x v d) h2 hm)
        | m _ => cases e
        | g => cases e
        | x _ => cases e
        | w _ => cases e
        | tb _ _ => cases e
        | fn _ _ _ _ _ => cases e
        | y _ => cases e
        | yf _ => cases e
        | o _ _ => cases e
        | fv _ _ _ _ _ => cases e
        | th _ => cases e
        | tl _ => cases e
theorem Rep.lent (r : Rep B σ H Hi as s) (n : Nat) : Rep (mg := mg) ⟨H, lentH H Hi, [], B.lk0 ++ B.lk1, []⟩ σ H (lentH H Hi) [] (lentS n s) := by
  refine ⟨fun b o e => ?_, fun b hb => ?_, fun b o e _ => ?_, fun b o e => .inl e, fun j a c e1 _ _ => by simp at e1, by simp [lentS, r.len], fun i x e => ?_, rfl, fun j a c e1 _ => by simp at e1, fun i j a c c' e1 _ _ _ _ _ => by simp at e1⟩
  · show HL (B.lk0 ++ B.lk1 ++ []) H b o
    rw [List.append_nil]
    cases z : Hi b with
    | some u =>
      have : lentH H Hi b = some u := same_lent _ _ z
      rw [this] at e
      cases e
      exact r.sub b o z
    | none =>
      have e' : H b = some o := by
        have : lentH H Hi b = H b := by simp [lentH, z]
        rw [← this]
        exact e
      unfold HL
      rw [if_neg]
      · exact e'
      · intro hb
        obtain ⟨k, q⟩ := r.lkd b hb
        rw [z] at q
        cases q
  · have hb' : b ∈ B.lk0 ++ B.lk1 := by
      have : b ∈ B.lk0 ++ B.lk1 ++ [] := hb
      rwa [List.append_nil] at this
    obtain ⟨k, q⟩ := r.lkd b hb'
    exact ⟨k, same_lent _ _ q⟩
  · show HL [] H b o
    unfold HL
    rw [if_neg (by simp)]
    exact e
  · have e' : (s.sl.map fun o => o.bind fun x => (DL.view s.ce n x).map Vl.d)[i]? = some (some x) := e
    rw [List.getElem?_map] at e'
    cases hx : s.sl[i]? with
    | none => rw [hx] at e'; cases e'
    | some o =>
      rw [hx] at e'
      cases o with
      | none => cases e'
      | some y =>
        simp only [Option.map_some, Option.bind_some, Option.some.injEq] at e'
        cases hd : DL.view s.ce n y with
        | none => rw [hd] at e'; cases e'
        | some d =>
          rw [hd] at e'
          cases e'
          obtain ⟨v, q1, q2⟩ := r.slo i y hx
          exact ⟨v, q1, .d (r.view n y v d q2 hd)⟩
theorem plain_rel {Hi' : Hp} {as' : List Addr} {x : D} {v : V} (hp : plainD x = true) (h : RelVl Hi as v (.d x)) : RelVl Hi' as' v (.d x) := by
  cases h with
  | d q => cases q <;> first | exact .d .non | exact .d (.bl _) | exact .d (.int _) | exact .d (.str _) | cases hp
theorem Rep.unlent (r : Rep B σ H Hi as s) {σ' : St} {H' Hi' : Hp} {as' : List Addr} {s' : S} (r' : Rep (mg := mg) ⟨H, lentH H Hi, [], B.lk0 ++ B.lk1, []⟩ σ' H' Hi' as' s') : Rep B σ H' Hi as s :=
  r.grow fun b o e => by
    have q : HL [] H' b o := r'.fr b o e (by simp)
    unfold HL at q
    rw [if_neg (by simp)] at q
    exact q
end
end DL

end DLsec_83

section DLsec_84
set_option maxRecDepth 100000
set_option maxHeartbeats 1000000
/-! list(reversed(xs)) -/
namespace DL
open PySem PySem.Spec PyProof.Rows L2 RT
open Sem (wp)
section
variable {prog : Program} {w : World} {A : Around} {E : Value → Shared → Prop} {s : Shared}
end
section
variable {X : Cx}
end
end DL

end DLsec_84

section DLsec_85
set_option maxRecDepth 100000
/-! defs that hand back a list of lists, and what it names, as cells -/
namespace DL
open PySem PySem.Spec PyProof.Rows L2
def refsC : Ce → List Nat
  | .v xs => cellsOf xs
  | .t xs => cellsOf xs
  | _ => []
/-- kinds that may be handed back -/
def okG : Ce → Bool
  | .l _ => true
  | .f _ => true
  | .v _ => true
  | .t _ => true
  | _ => false
def rnV (ρ : Nat → Nat) : Vl → Vl
  | .d x => .d x
  | .c j => .c (ρ j)
def rnC (ρ : Nat → Nat) : Ce → Ce
  | .v xs => .v (xs.map (rnV ρ))
  | .t xs => .t (xs.map (rnV ρ))
  | c => c
theorem paired_rn {Hi : Hp} {as as' : List Addr} {ρ : Nat → Nat} : ∀ {vs : List V} {xs : List Vl}, Paired (RelVl Hi as) vs xs → (∀ i ∈ cellsOf xs, ∀ a, as[i]? = some a → as'[ρ i]? = some a) → Paired (RelVl Hi as') vs (xs.map (rnV ρ))
  | _, _, .nil, _ => .nil
  | _, _, .cons (b := x) h r, e => by
    refine .cons ?_ (paired_rn r fun i hi => e i (by
      cases x with
      | d _ => exact hi
      | c j => exact List.mem_cons_of_mem _ hi))
    cases h with
    | d q => exact .d q
    | @c a j q => exact .c (e j (List.mem_cons_self ..) a q)
theorem RelCe.rn {mg : Str → Option Value} {H Hi : Hp} {as as' : List Addr} {a : Addr} {c : Ce} {ρ : Nat → Nat} (h : RelCe mg H Hi as a c) (ok : okG c = true) (e : ∀ i ∈ refsC c, ∀ b, as[i]? = some b → as'[ρ i]? = some b) : RelCe mg H Hi as' a (rnC ρ c) := by
  cases c with
  | l xs => exact h
  | f xs => exact h
  | v xs => obtain ⟨h1, vs, h2, h3⟩ := h; exact ⟨h1, vs, h2, paired_rn h3 e⟩
  | t xs => obtain ⟨vs, h2, h3⟩ := h; exact ⟨vs, h2, paired_rn h3 e⟩
  | _ => cases ok
section
variable {mg : Str → Option Value} {W : WX} {B : Bd mg} {σ : St} {H Hi : Hp} {as : List Addr} {s : S}
end
section
variable {mg : Str → Option Value} {W : WX} {B : Bd mg} {σ : St} {H Hi : Hp} {as : List Addr} {s : S}
end
end DL

end DLsec_85

section DLsec_86
set_option maxRecDepth 100000
/-! operators and calls that look at lists of lists, lent as data -/
namespace DL
open PySem PySem.Spec PyProof.Rows L2
section
variable {mg : Str → Option Value} {W : WX} {B : Bd mg} {σ : St} {H Hi : Hp} {as : List Addr} {s : S}
theorem EndV.lent (rp : Rep B σ H Hi as s) {n : Nat} {Q : VK} {z : D} (hp : plainD z = true) (q : EndV B σ Hi as s Q (.d z)) : EndV (mg := mg) ⟨H, lentH H Hi, [], B.lk0 ++ B.lk1, []⟩ σ (lentH H Hi) [] (lentS n s) Q (.d z) := fun H' Hi' r' e w hw => q H' Hi (rp.unlent r') (Same.refl _) w (plain_rel hp hw)
end
end DL

end DLsec_86

section DLsec_87
set_option maxRecDepth 100000
/-! lists of lists handed back: what the data side of calls gives -/
namespace DL
open PySem PySem.Spec PyProof.Rows L2
end DL

end DLsec_87

section DLsec_88
set_option maxRecDepth 100000
/-! lists of lists held back while an expression is looked at, and there again behind it -/
namespace DL
open PySem PySem.Spec PyProof.Rows L2
section
variable {mg : Str → Option Value} {W : WX} {B : Bd mg} {σ : St} {H Hi : Hp} {as : List Addr} {s : S}
theorem Rep.mask (r : Rep B σ H Hi as s) : Rep (mg := mg) ⟨H, Hi, aliveA as (s.ce.map kl), B.lk0 ++ B.lk1, []⟩ σ H Hi as ⟨s.sl, s.ce.map kl⟩ := by
  have at_ : ∀ (j : Nat) (c : Ce), (s.ce.map kl)[j]? = some c → ∃ c0, s.ce[j]? = some c0 ∧ c = kl c0 := fun j c e => by
    rw [List.getElem?_map] at e
    cases hc : s.ce[j]? with
    | none => rw [hc] at e; cases e
    | some c0 => rw [hc] at e; cases e; exact ⟨c0, rfl, rfl⟩
  refine ⟨fun b o e => ?_, fun b hb => r.lkd b ?_, fun b o e n => ?_, fun b o e => .inl e, fun j a c e1 e2 al => .inl (mem_aliveA.mpr ⟨j, c, e1, e2, al⟩), r.len, r.slo, ?_, fun j a c e1 e2 => ?_, fun i j a c c' e1 e2 e3 e4 a1 a2 => ?_⟩
  · show HL (B.lk0 ++ B.lk1 ++ []) H b o
    rw [List.append_nil]
    exact r.sub b o e
  · have hb' : b ∈ B.lk0 ++ B.lk1 ++ [] := hb
    rw [List.append_nil] at hb'
    exact hb'
  · show HL [] H b o
    unfold HL
    rw [if_neg (by simp)]
    exact e
  · show as.length = (s.ce.map kl).length
    rw [List.length_map]
    exact r.lea
  · obtain ⟨c0, q, rfl⟩ := at_ j c e2
    exact (r.cel j a c0 e1 q).kl
  · obtain ⟨c0, q, rfl⟩ := at_ i c e3
    obtain ⟨c1, q', rfl⟩ := at_ j c' e4
    exact r.inj i j a c0 c1 e1 e2 q q' (kl_alive a1) (kl_alive a2)
end
end DL

end DLsec_88

section DLsec_89
set_option maxRecDepth 100000
/-! defs that see all cells, and leave them all -/
namespace DL
open PySem PySem.Spec PyProof.Rows L2
/-- as mkF, but the cells stay as they are -/
def mkA (ar n : Nat) (body : M Fl) : FD := fun xs cs => if xs.length = ar then (match body ⟨xs.map some ++ List.replicate (n - ar) none, cs⟩ with
  | .ok .nx s => .ok (.d .none) s.ce
  | .ok (.rt v) s => .ok v s.ce
  | .ex e s => .ex e s.ce
  | _ => .no) else .no
def callA (g : FD) (xs : List Vl) : M Vl := fun s => match g xs s.ce with
  | .ok v cs' => .ok v ⟨s.sl, cs'⟩
  | .ex e cs' => .ex e ⟨s.sl, cs'⟩
  | .no => .no
def fDefA (g : FD) (f : M (List Vl)) : M Vl := bnd f (callA g)
theorem fsp_lenA {mg : Str → Option Value} {ar n : Nat} {body : M Fl} {vs : List V} {H : Hp} {Q : VK} {E : XK} (h : FSp mg (mkA ar n body) vs H Q E) : vs.length = ar := by
  obtain ⟨Hi, as, xs, cs, lk, r, w⟩ := h
  unfold mkA at w
  split at w
  · rename_i e
    have := r.len
    simp at this
    omega
  · exact w.elim
theorem fn_endA {mg : Str → Option Value} {N : List Str} {ar : Nat} {t : TS} {body : M Fl} {vs : List V} {H : Hp} {Q : VK} {E : XK} (hs : SS mg (fun cls d _ H => E cls d H) t body) (h : FSp mg (mkA ar N.length body) vs H Q E) :
    t { nx := fun _ H' => Q .non H', rt := Q } (L2.start N vs) H := by
  obtain ⟨Hi, as, xs, cs, lk, r, w⟩ := h
  have hx0 : vs.length = xs.length := by have := r.len; simpa using this
  unfold mkA at w
  split at w
  case isFalse => exact w.elim
  case isTrue hx =>
  have hl : vs.length = ar := by omega
  have r0 := r.names (N.length - ar)
  have es : L2.start N vs = vs.map some ++ List.replicate (N.length - ar) none := by unfold L2.start; rw [hl]
  rw [es]
  refine hs _ _ H Hi as _ _ r0 ?_
  show wpR (body ⟨xs.map some ++ List.replicate (N.length - ar) none, cs⟩) _ _
  cases eb : body ⟨xs.map some ++ List.replicate (N.length - ar) none, cs⟩ with
  | no => rw [eb] at w; exact w
  | ex e s' =>
    rw [eb] at w
    intro σ' H' Hi' as' r' e' p' cls d hx
    exact w cls d H' Hi' as' r'.nil e' p' hx
  | ok fl s' =>
    rw [eb] at w
    intro σ' H' Hi' as' r' e' p'
    cases fl with
    | bk => exact w.elim
    | ct => exact w.elim
    | nx => exact w .non H' Hi' as' r'.nil e' p' (.d .non)
    | rt v =>
      intro u hu
      exact w u H' Hi' as' r'.nil e' p' hu
section
variable {mg : Str → Option Value} {W : WX} {B : Bd mg} {σ : St} {H Hi : Hp} {as : List Addr} {s : S}
theorem Rep.toA (r : Rep B σ H Hi as s) {vs : List V} {xs : List Vl} (hv : RelVls Hi as vs xs) : Rep (mg := mg) ⟨H, Hi, aliveA as s.ce, B.lk0 ++ B.lk1, []⟩ (vs.map some) H Hi as ⟨xs.map some, s.ce⟩ := by
  refine ⟨fun b o e => ?_, fun b hb => r.lkd b ?_, fun b o e n => ?_, fun b o e => .inl e, fun j a c e1 e2 al => .inl (mem_aliveA.mpr ⟨j, c, e1, e2, al⟩), ?_, fun i x h => ?_, r.lea, r.cel, r.inj⟩
  · show HL (B.lk0 ++ B.lk1 ++ []) H b o
    rw [List.append_nil]
    exact r.sub b o e
  · have hb' : b ∈ B.lk0 ++ B.lk1 ++ [] := hb
    rw [List.append_nil] at hb'
    exact hb'
  · show HL [] H b o
    unfold HL
    rw [if_neg (by simp)]
    exact e
  · simp [Paired.length hv]
  · have h' : (xs.map some)[i]? = some (some x) := h
    rw [List.getElem?_map] at h'
    cases hx : xs[i]? with
    | none => rw [hx] at h'; cases h'
    | some y =>
      rw [hx] at h'
      cases h'
      obtain ⟨v, q1, q2⟩ := paired_get hv hx
      exact ⟨v, by rw [List.getElem?_map, q1]; rfl, q2⟩
theorem Rep.ofA (r : Rep B σ H Hi as s) {H' Hi' : Hp} {as' : List Addr} {cs' : List Ce} (r' : Rep (mg := mg) ⟨H, Hi, aliveA as s.ce, B.lk0 ++ B.lk1, []⟩ [] H' Hi' as' ⟨[], cs'⟩) (e : Same Hi Hi') (p : as <+: as') : Rep B σ H' Hi' as' ⟨s.sl, cs'⟩ := by
  have rB := r.back (fun a h => by
    obtain ⟨k, c, h1, h2, h3⟩ := mem_aliveA.mp h
    exact r.new k a c h1 h2 h3) r'
  exact ⟨rB.sub, rB.lkd, rB.fr, rB.hin, rB.new, r.len, fun i x h => by
    obtain ⟨v, q1, q2⟩ := r.slo i x h
    exact ⟨v, q1, q2.mono e p⟩, rB.lea, rB.cel, rB.inj⟩
theorem call_a {g : FD} {xs : List Vl} {vs : List V} {Q : VK} (r : Rep B σ H Hi as s) (hv : RelVls Hi as vs xs) (w : wpR (callA g xs s) (fun x s' => OKs B σ Hi as s' fun H' Hi' as' => ∀ v, RelVl Hi' as' v x → Q v H') (XW mg W B σ Hi as)) :
    FSp mg g vs H Q (WE W σ) := by
  unfold callA at w
  refine ⟨Hi, as, xs, s.ce, B.lk0 ++ B.lk1, r.toA hv, ?_⟩
  cases hg : g xs s.ce with
  | no => rw [hg] at w; exact w
  | ex e cs' =>
    rw [hg] at w
    intro cls d H' Hi' as' r' e' p' hx
    exact w H' Hi' as' (r.ofA r' e' p') e' p' cls d hx
  | ok z cs' =>
    rw [hg] at w
    intro v H' Hi' as' r' e' p' hz
    exact w H' Hi' as' (r.ofA r' e' p') e' p' v hz
theorem se_defA {g : FD} {t : TA} {f : M (List Vl)} (h : SA mg W t f) : SE mg W (tCallSD (FSp mg g) [] (WE W) t) (fDefA g f) := fun B σ H Hi as s Q rp w => by
  refine h B σ H Hi as s _ rp (wp_mono (wp_bnd w) (fun xs s1 w1 => ?_) fun _ _ z => z)
  intro H1 Hi1 as1 r1 e1 p1 vs hv
  rw [List.append_nil]
  exact call_a r1 hv (wp_mono w1 (fun x s2 z => OKs.mono z e1 p1) fun e s2 z => XW.mono z e1 p1)
end
/-! the items of a list, its own or data -/
def itemsV (ce : List Ce) : Vl → Option (List Vl)
  | .d (.list ds) => some (ds.map .d)
  | .d _ => none
  | .c j => match ce[j]? with
    | some (.l ds) => some (ds.map .d)
    | some (.f ds) => some (ds.map .d)
    | some (.v xs) => some xs
    | _ => none
section
variable {mg : Str → Option Value} {W : WX} {B : Bd mg} {σ : St} {H Hi : Hp} {as : List Addr} {s : S}
variable {ta tb : TE} {fa fb : M Vl}
theorem Rep.items (r : Rep B σ H Hi as s) {v : V} {x : Vl} {xs : List Vl} (h : RelVl Hi as v x) (e : itemsV s.ce x = some xs) : ∃ a vs, v = .ref a ∧ H a = some (.lst vs) ∧ RelVls Hi as vs xs := by
  cases h with
  | d q =>
    cases q with
    | lst h1 h2 =>
      cases e
      exact ⟨_, _, rfl, r.lst h1, dqa_rel h2⟩
    | _ => cases e
  | @c a j q =>
    simp only [itemsV] at e
    cases hc : s.ce[j]? with
    | none => rw [hc] at e; cases e
    | some c =>
      rw [hc] at e
      have rc := r.cel j a c q hc
      cases c with
      | l ys => cases e; obtain ⟨_, vs, h1, h2⟩ := rc; exact ⟨a, vs, rfl, h1, dqa_rel h2⟩
      | f ys => cases e; obtain ⟨vs, h1, h2⟩ := rc; exact ⟨a, vs, rfl, r.lst h1, dqa_rel h2⟩
      | v ys => cases e; obtain ⟨_, vs, h1, h2⟩ := rc; exact ⟨a, vs, rfl, h1, h2⟩
      | _ => cases e
end
end DL

end DLsec_89

section DLsec_90
set_option maxRecDepth 100000
set_option maxHeartbeats 1000000
/-! loops over lists of one's own lists; dicts of such lists and their items -/
namespace DL
open PySem PySem.Spec PyProof.Rows L2
section
variable {mg : Str → Option Value} {W : WX} {B : Bd mg} {σ : St} {H Hi : Hp} {as : List Addr} {s : S}
variable {ta tb tc te : TE} {fa fb fc fe : M Vl}
/-! d.setdefault(k, []), a list of lists -/
/-! list(d.items()), a dict of lists -/
/-! a, b, c = a list whose items are lists of one's own -/
end
end DL

end DLsec_90

section DLsec_91
set_option maxRecDepth 100000
/-! a module's own dict: texts as keys, whole numbers behind them -/
namespace DL
open PySem PySem.Spec PyProof.Rows L2
def lookS : List (Str × Int) → Str → Option Int
  | [], _ => none
  | (k, i) :: r, z => if k = z then some i else lookS r z
structure KD (K : PySem.W.Frag) (w : World) (d : Addr) (kvs : List (Str × Int)) : Prop where
  kd : ∃ es n, KDict K w d es n
  at_ : ∀ z, ∃ r, PySem.W.nsIn K d z = some r ∧ (∀ i, lookS kvs z = some i → ∃ t, r = some (.int i t)) ∧ (lookS kvs z = none → r = none)
section
variable {mg : Str → Option Value} {W : WX} {K : PySem.W.Frag} {w : World} {d : Addr} {kvs : List (Str × Int)} {ta : TE} {fa : M Vl}
theorem KD.some (D : KD K w d kvs) (z : Str) : ∃ r, PySem.W.nsIn K d z = Option.some r ∧ r.isSome = (lookS kvs z).isSome := by
  obtain ⟨r, h1, h2, h3⟩ := D.at_ z
  refine ⟨r, h1, ?_⟩
  cases hl : lookS kvs z with
  | none => rw [h3 hl]; rfl
  | some i =>
    obtain ⟨t, rfl⟩ := h2 i hl
    rfl
end
end DL

end DLsec_91

section DLsec_92
set_option maxRecDepth 100000
/-! dict(pairs): a new dict -/
namespace DL
open PySem PySem.Spec PyProof.Rows L2
section
variable {mg : Str → Option Value} {W : WX} {B : Bd mg} {σ : L2.St} {H Hi : Hp} {as : List Addr} {s : S}
end
end DL

end DLsec_92

section DLsec_93
set_option maxRecDepth 100000
/-! x is True -/
namespace DL
open PySem PySem.Spec PyProof.Rows L2
end DL

end DLsec_93

section DLsec_94
set_option maxRecDepth 100000
/-! sorted texts; sorted(d) with texts as keys; k in d -/
namespace DL
open PySem PySem.Spec PyProof.Rows L2
section
variable {mg : Str → Option Value} {W : WX} {ta tb : TE} {fa fb : M Vl}
end
end DL

end DLsec_94

section DLsec_95
set_option maxRecDepth 100000
set_option maxHeartbeats 1000000
/-! repr of a dict; the text of a truth value; the items of a dict that is data -/
namespace DL
open PySem PySem.Spec PyProof.Rows L2
section
variable {mg : Str → Option Value} {W : WX} {B : Bd mg} {σ : L2.St} {H Hi : Hp} {as : List Addr} {s : S} {ta : TE} {fa : M Vl}
end
end DL

end DLsec_95

section DLsec_96
set_option maxRecDepth 100000
/-! comprehensions whose items stay cells -/
namespace DL
open PySem PySem.Spec PyProof.Rows L2
section
variable {mg : Str → Option Value} {W : WX} {B : Bd mg} {σ : St} {H Hi : Hp} {as : List Addr} {s : S}
variable {ta tb tc te : TE} {fa fb fc fe : M Vl}
end
end DL

end DLsec_96

section DLsec_97
set_option maxRecDepth 100000
set_option maxHeartbeats 4000000
/-! enumerate(zip(a, b)) -/
namespace EZ
open PySem PySem.Spec PyProof.Rows L2
open PySem.Sem (wp)
section
variable {prog : Program} {w : World} {A : Around} {E : Value → Shared → Prop} {s : Shared}
abbrev IsZipF (h : Heap) (z TI TO : Addr) (f0 : Value) (f : Bool) : Prop :=
  h.get? z = some { cls := .type "zip", dict := none, data := .fields #[f0, .bool f, .bool false, .ref TI, .ref TO], slots := #[] }
/-- a zip as it stands at turn k -/
def ZS (z TI TO i1 i2 l1 l2 : Addr) (k : Nat) (h : Heap) : Prop := IsPair h TI (.ref i1) (.ref i2) ∧ (∃ x y, IsPair h TO x y) ∧ h.IsListIter i1 l1 k ∧ h.IsListIter i2 l2 k ∧ (IsZip h z TI TO .none ∨ ∃ T f, IsZipHeld h z TI TO T f)
theorem ZS.ty {z TI TO i1 i2 l1 l2 : Addr} {k : Nat} {h : Heap} (st : ZS z TI TO i1 i2 l1 l2 k h) : ∃ f0 f, IsZipF h z TI TO f0 f := by
  rcases st.2.2.2.2 with q | ⟨T, f, q⟩
  · exact ⟨_, _, q⟩
  · exact ⟨_, _, q⟩
/-! enumerate over it -/
end
end EZ
namespace DL
open PySem PySem.Spec PyProof.Rows L2
section
variable {mg : Str → Option Value} {W : WX} {Hi : Hp}
end
end DL

end DLsec_97

section DLsec_98
set_option maxRecDepth 100000
/-! deep data: ==, !=, in and repr down to 190; append to a cell of either kind -/
namespace DL
open PySem PySem.Spec PyProof.Rows L2
section
variable {X : Cx} {K : PySem.W.Frag}
end
/-! repr -/
/-! either of two -/
end DL

end DLsec_98

section DLsec_99
set_option maxRecDepth 100000
set_option maxHeartbeats 1000000
/-! list(range(i, j, -1)); a law's end that goes on from the loop's last state -/
namespace DL
open PySem PySem.Spec PyProof.Rows L2
section
variable {X : Cx}
end
section
variable {mg : Str → Option Value} {W : WX} {tA : TA} {fA : M (List Vl)}
end
end DL

end DLsec_99

section DLsec_100
set_option maxRecDepth 100000
/-! for cell in script[:k] + [0]: body; and then a tail that goes on from the last turn's draws -/
namespace DL
open PySem PySem.Spec PyProof.Rows L2
end DL

end DLsec_100

section DLsec_101
set_option maxRecDepth 100000
set_option maxHeartbeats 1000000
/-! lambdas that have left their maker: asked -/
namespace DL
open PySem PySem.Spec PyProof.Rows L2
theorem cellO_at {P : Program} {w : World} {H : Hp} {h : Heap} {c : Addr} {u : Value} (ok : HOk P w H h) (e : H c = some (cellO c u)) : h.IsCell c (some u) := by
  have x : ObjOk P w H h c (.ext fun h => h.IsCell c (some u)) := ok c _ e
  exact x.1
theorem cellO_ok {P : Program} {w : World} {G : Hp} {h : Heap} {c : Addr} {u : Value} (x : h.IsCell c (some u)) : ObjOk P w G h c (cellO c u) := by
  obtain ⟨o, a, b⟩ := x
  exact ⟨⟨o, a, b⟩, ⟨o, a⟩, fun h1 h2 ⟨o, a, b⟩ k => ⟨o, k _ a, b⟩⟩
theorem thO_at {P : Program} {w : World} {H : Hp} {h : Heap} {q : Str} {ar : Arguments} {e : Expr} {sc : Scope} {C : List (Str × Addr)} {f d : Addr} (ok : HOk P w H h) (hf : H f = some (thO q ar e sc C f d)) : ∃ u v : Value, h.get? f = some (PySem.W.kla_obj "<lambda>" q ar e sc (cloFrom C sc.names []) u d v) := by
  have x : ObjOk P w H h f (.ext fun h => ∃ u v : Value, h.get? f = some (PySem.W.kla_obj "<lambda>" q ar e sc (cloFrom C sc.names []) u d v)) := ok f _ hf
  exact x.1
section
variable {P : Program} {w : World} {K : PySem.W.Frag} {mg : Str → Option Value} {base : Heap} {A : Around} {outer : List Env} {s s' : Shared} {H : Hp} {c : Addr} {u : Value}
theorem hok_del {h : Heap} (ok : HOk P w H h) (e : H c = some (cellO c u)) : HOk P w (del H c) h := fun b o q => by
  by_cases hb : b = c
  · rw [hb, del_same] at q; cases q
  · rw [del_ne hb] at q
    refine (ok b o q).stay (fun _ _ _ z => z) (fun d z => ?_) fun d xs z => ?_
    · rw [del_ne fun y => by rw [y, e] at z; cases z]; exact z
    · rw [del_ne fun y => by rw [y, e] at z; cases z]; exact z
theorem env0_del (e0 : Env0 P w K mg base A outer s H) (e : H c = some (cellO c u)) : Env0 P w K mg base A outer s (del H c) :=
  have nn : ∀ b, H b = none → del H c b = none := fun b z => by
    by_cases hb : b = c
    · rw [hb, del_same]
    · rw [del_ne hb]; exact z
  ⟨e0.frames, e0.mod, fun b o q => ⟨(e0.bs b o q).1, nn b (e0.bs b o q).2⟩, e0.bsz, e0.funs, fun b hb => nn b (e0.frf b hb), hok_del e0.hok e, e0.bare⟩
theorem hok_put {G : Hp} {h : Heap} (ok : HOk P w G h) (n : G c = none) (x : h.IsCell c (some u)) : HOk P w (upd G c (cellO c u)) h := fun b o q => by
  by_cases hb : b = c
  · subst hb
    rw [upd_same] at q
    cases q
    exact cellO_ok x
  · rw [upd_ne hb] at q
    refine (ok b o q).stay (fun _ _ _ z => z) (fun d z => ?_) fun d xs z => ?_
    · rw [upd_ne fun y => by rw [y, n] at z; cases z]; exact z
    · rw [upd_ne fun y => by rw [y, n] at z; cases z]; exact z
theorem cr_back {Q Q0 : VK} {E E0 : XK} (ok : HOk P w H s.heap) (e : H c = some (cellO c u)) (nf : c ∉ frs outer) (hQ : ∀ v G, G c = none → Q0 v G → Q v (upd G c (cellO c u))) (hE : ∀ cls d G, G c = none → E0 cls d G → E cls d (upd G c (cellO c u))) {r : Result}
    (h : CR (L2.CX P w) outer P w (del H c) s Q0 E0 r s') : CR (L2.CX P w) outer P w H s Q E r s' := by
  obtain ⟨ob, ho, hd⟩ := cellO_at ok e
  have nc : ∀ b, H b = none → b ≠ c ∧ del H c b = none := fun b z => by
    have hb : b ≠ c := fun y => by rw [y, e] at z; cases z
    exact ⟨hb, by rw [del_ne hb]; exact z⟩
  have kc : ∀ b o, H b = some o → (∀ u, o ≠ cellO c u) → b ≠ c ∧ del H c b = some o := fun b o z n => by
    have hb : b ≠ c := fun y => by rw [y, e] at z; cases z; exact n _ rfl
    exact ⟨hb, by rw [del_ne hb]; exact z⟩
  match r, h with
  | .ok (.ret v), h =>
    obtain ⟨x, H', os, bare, un, ok', rv, q⟩ := h
    have k1 : s'.heap.get? c = some ob := un.keep c ob ho del_same nf (by simp)
    have k2 : H' c = none := un.free c ob ho del_same (by simp)
    refine ⟨x, upd H' c (cellO c u), os, bare, ⟨fun b o q1 q2 => un.keep b o q1 (nc b q2).2, fun b o q1 q2 => un.slot b o q1 (nc b q2).2, fun b o q1 q2 q3 => ?_, un.there, fun b xs q1 => ?_, fun b o v q1 => ?_, fun b ps q1 => ?_⟩, hok_put ok' k2 ⟨ob, k1, hd⟩, rv, hQ _ _ k2 q⟩
    · rw [upd_ne (nc b q2).1]; exact un.free b o q1 (nc b q2).2 q3
    · obtain ⟨a1, a2⟩ := kc b _ q1 fun u z => by cases z
      rw [upd_ne a1]; exact un.tups b xs a2
    · obtain ⟨a1, a2⟩ := kc b _ q1 fun u z => by cases z
      rw [upd_ne a1]; exact un.frzs b o v a2
    · obtain ⟨a1, a2⟩ := kc b _ q1 fun u z => by cases z
      obtain ⟨more, q⟩ := un.tbls b ps a2
      exact ⟨more, by rw [upd_ne a1]; exact q⟩
  | .ok .next, h => exact h.elim
  | .ok .brk, h => exact h.elim
  | .ok .cont, h => exact h.elim
  | .error x, h =>
    obtain ⟨a, B, H', cls, d, ex, fl, okB, ub, na, os, bare, q⟩ := h
    have k1 : B.get? c = some ob := ub.keep c ob ho del_same nf
    have k2 : H' c = none := ub.free c ob ho del_same
    have ac : a ≠ c := fun z => by
      have := fl.2.1
      rw [z, k1] at this; cases this
    refine ⟨a, B, upd H' c (cellO c u), cls, d, ex, fl, hok_put okB k2 ⟨ob, k1, hd⟩, ⟨fun b o q1 q2 => ub.keep b o q1 (nc b q2).2, ub.slot, fun b o q1 q2 => ?_, ub.there, fun b xs q1 => ?_, fun b o v q1 => ?_, fun b ps q1 => ?_⟩, by rw [upd_ne ac]; exact na, os, bare, hE _ _ _ k2 q⟩
    · rw [upd_ne (nc b q2).1]; exact ub.free b o q1 (nc b q2).2
    · obtain ⟨a1, a2⟩ := kc b _ q1 fun u z => by cases z
      rw [upd_ne a1]; exact ub.tups b xs a2
    · obtain ⟨a1, a2⟩ := kc b _ q1 fun u z => by cases z
      rw [upd_ne a1]; exact ub.frzs b o v a2
    · obtain ⟨a1, a2⟩ := kc b _ q1 fun u z => by cases z
      obtain ⟨more, q⟩ := ub.tbls b ps a2
      exact ⟨more, by rw [upd_ne a1]; exact q⟩
end
/-- the cells are put aside -/
def delA (H : Hp) : List (Addr × Value) → Hp
  | [] => H
  | p :: r => delA (del H p.1) r
/-- and there again -/
def putA (G : Hp) : List (Addr × Value) → Hp
  | [] => G
  | p :: r => upd (putA G r) p.1 (cellO p.1 p.2)
theorem delA_ne {cu : List (Addr × Value)} : ∀ {H : Hp} {b : Addr}, (∀ p ∈ cu, b ≠ p.1) → delA H cu b = H b := by
  induction cu with
  | nil => intro H b _; rfl
  | cons p r ih =>
    intro H b h
    show delA (del H p.1) r b = H b
    rw [ih fun z hz => h z (List.mem_cons_of_mem _ hz), del_ne (h p List.mem_cons_self)]
theorem delA_none {cu : List (Addr × Value)} : ∀ {H : Hp} {b : Addr}, H b = none → delA H cu b = none := by
  induction cu with
  | nil => intro H b h; exact h
  | cons p r ih =>
    intro H b h
    show delA (del H p.1) r b = none
    refine ih ?_
    by_cases hb : b = p.1
    · rw [hb, del_same]
    · rw [del_ne hb]; exact h
theorem delA_mem {cu : List (Addr × Value)} : ∀ {H : Hp} {b : Addr}, (∃ p ∈ cu, b = p.1) → delA H cu b = none := by
  induction cu with
  | nil => intro H b ⟨p, hp, _⟩; cases hp
  | cons p r ih =>
    intro H b ⟨z, hz, e⟩
    rcases List.mem_cons.mp hz with h | h
    · subst h
      show delA (del H z.1) r b = none
      exact delA_none (by rw [e, del_same])
    · exact ih ⟨z, h, e⟩
theorem putA_ne {cu : List (Addr × Value)} {G : Hp} {b : Addr} (h : ∀ p ∈ cu, b ≠ p.1) : putA G cu b = G b := by
  induction cu with
  | nil => rfl
  | cons p r ih =>
    show upd (putA G r) p.1 _ b = G b
    rw [upd_ne (h p List.mem_cons_self), ih fun z hz => h z (List.mem_cons_of_mem _ hz)]
theorem putA_at {cu : List (Addr × Value)} {G : Hp} (nd : (cu.map (·.1)).Nodup) {p : Addr × Value} (hp : p ∈ cu) : putA G cu p.1 = some (cellO p.1 p.2) := by
  induction cu with
  | nil => cases hp
  | cons z r ih =>
    rw [List.map_cons, List.nodup_cons] at nd
    show upd (putA G r) z.1 (cellO z.1 z.2) p.1 = _
    rcases List.mem_cons.mp hp with h | h
    · rw [h, upd_same]
    · rw [upd_ne fun y => nd.1 (by rw [← y]; exact List.mem_map_of_mem h)]
      exact ih nd.2 h
section
variable {P : Program} {w : World} {K : PySem.W.Frag} {mg : Str → Option Value} {base : Heap} {A : Around} {outer : List Env} {s s' : Shared}
theorem env0_delA {cu : List (Addr × Value)} : ∀ {H : Hp}, Env0 P w K mg base A outer s H → (cu.map (·.1)).Nodup → (∀ p ∈ cu, H p.1 = some (cellO p.1 p.2)) → Env0 P w K mg base A outer s (delA H cu) := by
  induction cu with
  | nil => intro H e0 _ _; exact e0
  | cons p r ih =>
    intro H e0 nd h
    rw [List.map_cons, List.nodup_cons] at nd
    refine ih (env0_del e0 (h p List.mem_cons_self)) nd.2 fun z hz => ?_
    rw [del_ne fun y => nd.1 (by rw [← y]; exact List.mem_map_of_mem hz)]
    exact h z (List.mem_cons_of_mem _ hz)
theorem cr_backA {cu : List (Addr × Value)} : ∀ {H : Hp} {Q Q0 : VK} {E E0 : XK}, HOk P w H s.heap → (cu.map (·.1)).Nodup → (∀ p ∈ cu, H p.1 = some (cellO p.1 p.2) ∧ p.1 ∉ frs outer) → (∀ v G, (∀ p ∈ cu, G p.1 = none) → Q0 v G → Q v (putA G cu)) → (∀ cls d G, (∀ p ∈ cu, G p.1 = none) → E0 cls d G → E cls d (putA G cu)) → ∀ {r : Result},
    CR (L2.CX P w) outer P w (delA H cu) s Q0 E0 r s' → CR (L2.CX P w) outer P w H s Q E r s' := by
  induction cu with
  | nil =>
    intro H Q Q0 E E0 _ _ _ hQ hE r h
    match r, h with
    | .ok (.ret v), h =>
      obtain ⟨x, H', os, bare, un, ok', rv, q⟩ := h
      exact ⟨x, H', os, bare, un, ok', rv, hQ _ _ (fun _ z => by cases z) q⟩
    | .ok .next, h => exact h.elim
    | .ok .brk, h => exact h.elim
    | .ok .cont, h => exact h.elim
    | .error x, h =>
      obtain ⟨a, B, H', cls, d, ex, fl, okB, ub, na, os, bare, q⟩ := h
      exact ⟨a, B, H', cls, d, ex, fl, okB, ub, na, os, bare, hE _ _ _ (fun _ z => by cases z) q⟩
  | cons p r ih =>
    intro H Q Q0 E E0 ok nd h hQ hE res hh
    rw [List.map_cons, List.nodup_cons] at nd
    have ne : ∀ z ∈ r, p.1 ≠ z.1 := fun z hz y => nd.1 (by rw [y]; exact List.mem_map_of_mem hz)
    refine cr_back (c := p.1) (u := p.2) (Q0 := fun v G => G p.1 = none → Q v (upd G p.1 (cellO p.1 p.2))) (E0 := fun cls d G => G p.1 = none → E cls d (upd G p.1 (cellO p.1 p.2))) ok (h p List.mem_cons_self).1 (h p List.mem_cons_self).2 (fun _ _ n z => z n) (fun _ _ _ n z => z n) ?_
    have all : ∀ {G : Hp}, (∀ z ∈ r, G z.1 = none) → putA G r p.1 = none → ∀ z ∈ p :: r, G z.1 = none := fun {G} h1 h2 z hz => by
      rcases List.mem_cons.mp hz with y | y
      · rw [y, ← putA_ne (G := G) ne]; exact h2
      · exact h1 z y
    refine ih (hok_del ok (h p List.mem_cons_self).1) nd.2 (fun z hz => ⟨?_, (h z (List.mem_cons_of_mem _ hz)).2⟩) (fun v G n1 q n2 => hQ v G (all n1 n2) q) (fun cls d G n1 q n2 => hE cls d G (all n1 n2) q) hh
    rw [del_ne fun y => nd.1 (by rw [← y]; exact List.mem_map_of_mem hz)]
    exact (h z (List.mem_cons_of_mem _ hz)).1
end
/-! ### the lambda's body -/
section
variable {X : Cx} {A : Around} {outer : List Env} {E : XK} {scope : Scope} {f d : Addr} {h₁ : Heap} {tk : Nat} {HZ : Hp} {s1 : Shared} {σ : L2.St}
theorem lam_start3 (kd : scope.kind = .function) (ow : ∀ y ∈ scope.names, y.2 ≠ .local ∧ y.2 ≠ .cell) (inj : ∀ x y c, X.env.cells.lookup x = some c → X.env.cells.lookup y = some c → x = y)
    (hf : ∀ y ∈ scope.names, y.2 = .free → ∃ c u, X.env.cells.lookup y.1 = some c ∧ HZ c = none ∧ s1.heap.IsCell c (some u) ∧ ∀ (i : Nat) (v : V), X.N[i]? = some y.1 → σ[i]? = some (some v) → RelV v u) (hl : σ.length = X.N.length)
    (e0 : Env0 X.prog X.w X.K X.mg X.base A outer s1 HZ) (hd : A.handled = none) (hns : h₁.Ns s1.heap.objs.size fun y => ([] : List (Str × Value)).reverse.lookup y) (kp : ∀ b o, s1.heap.get? b = some o → h₁.get? b = some o) :
    Inv (LamX.lamCx X A outer s1 HZ E scope f d) [] σ HZ { s1 with heap := h₁, toks := tk } := by
  have cm : ∀ {y c}, (cloFrom X.env.cells scope.names []).lookup y = some c → X.env.cells.lookup y = some c ∧ (y, NameKind.free) ∈ scope.names := fun {y c} e => by
    rcases cloFrom_mem (PySem.mem_of_lookup e) with hm | ⟨h1, h2⟩
    · cases hm
    · obtain ⟨c1, u, hc, _⟩ := hf _ h1 rfl
      have hc : X.env.cells.lookup y = some c1 := hc
      have e2 : c = c1 := by
        rw [h2, hc] <;> rfl
      rw [e2]
      exact ⟨hc, h1⟩
  have look : ∀ {y}, scope.names.lookup y = some .free → ∃ c, (cloFrom X.env.cells scope.names []).lookup y = some c := fun {y} hl => by
    have hy : (y, NameKind.free) ∈ scope.names := PySem.mem_of_lookup hl
    exact mem_lookup (cloFrom_has (cells := X.env.cells) (acc := []) hy)
  have cellK : ∀ {c : Addr} {v : Option Value}, s1.heap.IsCell c v → h₁.IsCell c v := fun {c v} ⟨o, ho, hd⟩ => ⟨o, kp _ _ ho, hd⟩
  have noA : ∀ b : Addr, b ∉ (LamX.lamCx X A outer s1 HZ E scope f d).ex := fun b z => absurd (show b ∈ ([] : List Addr) from z) (by simp)
  refine ⟨⟨e0.mod, kd, rfl, rfl, Nat.le_refl _, fun y z c e1 e2 => inj y z c (cm e1).1 (cm e2).1, fun y hy => ?_, fun y c z _ => ?_, fun _ => hd, Around.frames_deeper e0.frames, .inr ⟨rfl, rfl⟩, fun b z => absurd z (noA b), e0.bs, e0.bsz, fun b _ _ => noA b,
      fun b z => absurd z (noA b), e0.funs, e0.frf⟩,
    rfl, e0.bare, Un.kept kp, ⟨_, hns, fun i y v e1 e2 e3 => ?_⟩, fun y c e => ?_, e0.hok.fresh (Nat.le_refl _), fun y c e => ?_, fun q hq => absurd (show q ∈ ([] : List (Addr × Obj)) ++ [] from hq) (by simp), e0.hok.kept kp, hl⟩
  · have hy : scope.names.lookup y = some .cell ∨ scope.names.lookup y = some .free := hy
    rcases hy with hy | hy
    · exact absurd rfl (ow _ (PySem.mem_of_lookup hy)).2
    · exact look hy
  · have z : false = true := z
    cases z
  · have e3 : Vis scope y := e3
    rcases e3 with k | k | k
    · exact absurd rfl (ow _ (PySem.mem_of_lookup k)).1
    · exact absurd rfl (ow _ (PySem.mem_of_lookup k)).2
    · obtain ⟨c2, h2⟩ := look k
      obtain ⟨c1, u, q1, _, q3, q4⟩ := hf _ (PySem.mem_of_lookup k) rfl
      have ec : c2 = c1 := by
        have := (cm h2).1
        rw [show X.env.cells.lookup y = some c1 from q1] at this
        exact (Option.some.inj this).symm
      subst ec
      exact ⟨u, q4 i v e1 e2, .inr ⟨.inr k, c2, h2, cellK q3⟩⟩
  · obtain ⟨q1, q2⟩ := cm e
    obtain ⟨c1, u, k1, _, k3, _⟩ := hf _ q2 rfl
    have ec : c = c1 := by
      rw [show X.env.cells.lookup y = some c1 from k1] at q1
      exact (Option.some.inj q1).symm
    subst ec
    exact ⟨some u, cellK k3⟩
  · obtain ⟨q1, q2⟩ := cm e
    obtain ⟨c1, u, k1, k2, _, _⟩ := hf _ q2 rfl
    have ec : c = c1 := by
      rw [show X.env.cells.lookup y = some c1 from k1] at q1
      exact (Option.some.inj q1).symm
    subst ec
    exact k2
end
/-- what a lambda is: its maker's name and names, its text; its reading -/
structure LamD where
  q0 : Str
  N : List Str
  ar : Arguments
  e : Expr
  sc : Scope
/-- the context of its body, seen from the def that asks -/
def thx (X : Cx) (p : LamD) (C : List (Str × Addr)) : Cx := { X with N := p.N, env := { X.env with qual := p.q0, cells := C } }
/-- all that is asked of it -/
structure LamGood (X : Cx) (k : Nat) (p : LamD) (t : XK → TE) : Prop where
  kd : p.sc.kind = .function
  co : p.sc.isCoroutine = false
  gen : p.sc.isGenerator = false
  ow : ∀ y ∈ p.sc.names, y.2 ≠ .local ∧ y.2 ≠ .cell
  nd : (p.sc.names.map (·.1)).Nodup
  none0 : ∀ (q : Str) (cl : List (Str × Addr)) (u d v : Value), bindArgs (PySem.W.kla_fn "<lambda>" q p.ar p.e p.sc cl u d v) ⟨[], []⟩ = pure []
  der : ∀ (C : List (Str × Addr)) (A : Around) (out : List Env) (z : Shared) (G : Hp) (E : XK) (f d : Addr), A.guards = some [] → Room k (A.deeper (LamX.lamEnv (thx X p C) p.sc z.heap.objs.size f d)) → PE (LamX.lamCx (thx X p C) A out z G E p.sc f d) p.e (t E)
def cuOf (p : LamD) (U : Str → Addr × Value) : List (Addr × Value) := (p.sc.names.filter fun y => decide (y.2 = .free)).map fun y => U y.1
def tAskT (W : WX) (i : Nat) (tab : List (LamD × (XK → TE))) : TE := fun σ H Q => ∃ p ∈ tab, ∃ (f d : Addr) (C : List (Str × Addr)) (U : Str → Addr × Value) (τ : L2.St), σ[i]? = some (some (.ref f)) ∧
  H f = some (thO (p.1.q0 ++ "<lambda>") p.1.ar p.1.e p.1.sc C f d) ∧ H d = some (LamX.CodeO d (p.1.q0 ++ "<lambda>")) ∧ (∀ x y c, C.lookup x = some c → C.lookup y = some c → x = y) ∧ τ.length = p.1.N.length ∧
  (∀ y ∈ p.1.sc.names, y.2 = .free → C.lookup y.1 = some (U y.1).1 ∧ H (U y.1).1 = some (cellO (U y.1).1 (U y.1).2) ∧ ∀ (i : Nat) (v : V), p.1.N[i]? = some y.1 → τ[i]? = some (some v) → RelV v (U y.1).2) ∧
  p.2 (fun cls o G => (∀ z ∈ cuOf p.1 U, G z.1 = none) → W cls o σ (putA G (cuOf p.1 U))) τ (delA H (cuOf p.1 U)) (fun v G => (∀ z ∈ cuOf p.1 U, G z.1 = none) → Q v (putA G (cuOf p.1 U)))
theorem cuOf_nd {p : LamD} {U : Str → Addr × Value} {C : List (Str × Addr)} (nd : (p.sc.names.map (·.1)).Nodup) (inj : ∀ x y c, C.lookup x = some c → C.lookup y = some c → x = y) (h : ∀ y ∈ p.sc.names, y.2 = .free → C.lookup y.1 = some (U y.1).1) : ((cuOf p U).map (·.1)).Nodup := by
  unfold cuOf
  rw [List.map_map]
  generalize p.sc.names = ns at nd h
  induction ns with
  | nil => exact List.nodup_nil
  | cons y ns ih =>
    rw [List.map_cons, List.nodup_cons] at nd
    have ih' := ih nd.2 fun z hz => h z (List.mem_cons_of_mem _ hz)
    rw [List.filter_cons]
    split
    · rename_i hy
      have hy : y.2 = .free := of_decide_eq_true hy
      rw [List.map_cons, List.nodup_cons]
      refine ⟨fun hm => ?_, ih'⟩
      obtain ⟨z, hz, e⟩ := List.mem_map.mp hm
      obtain ⟨z1, z2⟩ := List.mem_filter.mp hz
      have a := h y List.mem_cons_self hy
      have b := h z (List.mem_cons_of_mem _ z1) (of_decide_eq_true z2)
      have e : (U z.1).1 = (U y.1).1 := e
      rw [e] at b
      have := inj _ _ _ b a
      exact nd.1 (by rw [← this]; exact List.mem_map_of_mem z1)
    · exact ih'
theorem cuOf_mem {p : LamD} {U : Str → Addr × Value} {z : Addr × Value} (hz : z ∈ cuOf p U) : ∃ y ∈ p.sc.names, y.2 = .free ∧ z = U y.1 := by
  unfold cuOf at hz
  obtain ⟨y, hy, e⟩ := List.mem_map.mp hz
  obtain ⟨h1, h2⟩ := List.mem_filter.mp hy
  exact ⟨y, h1, of_decide_eq_true h2, e.symm⟩
theorem mem_cuOf {p : LamD} {U : Str → Addr × Value} {y : Str × NameKind} (hy : y ∈ p.sc.names) (hf : y.2 = .free) : U y.1 ∈ cuOf p U := by
  unfold cuOf
  exact List.mem_map.mpr ⟨y, List.mem_filter.mpr ⟨hy, decide_eq_true hf⟩, rfl⟩
section
variable {X : Cx} {W : WX}
/-- x(), where the name holds such a lambda -/
theorem pe_askT {k i : Nat} {a : Str} {tab : List (LamD × (XK → TE))} {p1 p2 : Pos} (tk : Takes X W) (room : Room (k + 1) X.A) (gd : X.A.guards = some []) (nm : X.N[i]? = some a) (vis : Vis X.env.scope a) (good : ∀ p ∈ tab, LamGood X k p.1 p.2)
    (n1 : (a == ("__debug__" : Str)) = false := by decide) (n2 : (a == ("__classdict__" : Str)) = false := by decide) : PE X (.Call (.Name a p1) [] [] p2) (tAskT W i tab) := by
  refine ⟨fun pins z τ0 H Q J ⟨p, hp, f, d, C, U, τ, slot, isF, cod, inj, hlen, hfree, rd⟩ => ?_⟩
  have gp := good p hp
  refine wpAny_Call_Name_kw (thn ((pe_var (pos := p1) (i := i) nm vis n1 n2).run pins z τ0 H (fun v H1 => v = .ref f ∧ H1 = H) J ⟨.ref f, slot, rfl, rfl⟩) fun w z1 ⟨y, G1, J1, r1, e1, e2⟩ => ?_)
  subst e1 e2
  cases (show w = Value.ref f from r1)
  obtain ⟨u, v, isF1⟩ := thO_at J1.hok isF
  refine PySem.W.callWith_F0 ⟨_, _, _, _, isF1⟩ ?_
  obtain ⟨⟨co, cvs, ct, c1, c2, c3⟩, _, _⟩ := J1.hok d _ cod
  have nd := cuOf_nd (U := U) gp.nd inj fun y hy e => (hfree y hy e).1
  have hcu : ∀ z ∈ cuOf p.1 U, G1 z.1 = some (cellO z.1 z.2) := fun z hz => by
    obtain ⟨y, hy, e, rfl⟩ := cuOf_mem hz
    exact (hfree y hy e).2.1
  have hnf : ∀ z ∈ cuOf p.1 U, z.1 ∉ frs X.stack := fun z hz n => by
    have := J1.stkFree _ n
    rw [hcu z hz] at this
    cases this
  have e0 := env0_delA J1.env0 nd hcu
  have ran : codeAny (model X.prog X.w) X.A (.call (.ref f) ⟨[], []⟩) (CR (L2.CX X.prog X.w) X.stack X.prog X.w (delA G1 (cuOf p.1 U)) z1 (fun v G => (∀ z ∈ cuOf p.1 U, G z.1 = none) → Q v (putA G (cuOf p.1 U))) (fun cls o G => (∀ z ∈ cuOf p.1 U, G z.1 = none) → W cls o τ0 (putA G (cuOf p.1 U)))) z1 := by
    refine PySem.W.kla_callFunE room.depth isF1 rfl gp.co gp.gen rfl ⟨d, co, cvs, ct, rfl, c1, c2, c3⟩ ?_
    rw [gp.none0]
    refine wpAny_pure (wpAny_newFunctionEnv (fun y hy => (gp.ow y hy).2) (fun y hy => absurd hy (by simp)) (fun hN ns inc => ⟨J1.nolimit.fresh _ inc, ?_⟩) gp.kd)
    have same : ∀ b o, z1.heap.get? b = some o → hN.get? b = some o := fun b o q => inc.extBut b o (Nat.ne_of_lt (Heap.lt_size q)) (Heap.get?_push_of_some _ q)
    have K0 : Inv (LamX.lamCx (thx X p.1 C) X.A X.stack z1 (delA G1 (cuOf p.1 U)) (fun cls o G => (∀ z ∈ cuOf p.1 U, G z.1 = none) → W cls o τ0 (putA G (cuOf p.1 U))) p.1.sc f d) [] τ (delA G1 (cuOf p.1 U)) { z1 with heap := hN, toks := z1.toks + ([] : List (Str × Value)).length } := by
      refine lam_start3 (X := thx X p.1 C) gp.kd gp.ow inj (fun y hy e => ?_) hlen e0 room.hd ns same
      obtain ⟨q1, q2, q3⟩ := hfree y hy e
      exact ⟨_, _, q1, delA_mem ⟨_, mem_cuOf hy e, rfl⟩, cellO_at J1.hok q2, q3⟩
    refine PySem.W.kla_codeExpr (wpAny_mono ((gp.der C X.A X.stack z1 _ _ f d gd (room.deeper _)).run [] _ _ _ _ K0 rd) (fun w' z' q => ?_) fun _ _ q => q)
    obtain ⟨y', G', K1, r2, q2⟩ := q
    exact ⟨y', G', K1.os, K1.bare, K1.base, K1.hok, r2, q2⟩
  refine wpAny_call (codeAny_mono ran fun res z' q0 => ?_)
  have q := cr_backA (Q := Q) (E := WE W τ0) J1.hok nd (fun z hz => ⟨hcu z hz, hnf z hz⟩) (fun _ _ n x => x n) (fun _ _ _ n x => x n) q0
  match res, q with
  | .error e, q => exact passAt tk τ0 pins G1 z1 e z' J1 q
  | .ok (.ret _), q => exact J1.after q
  | .ok .next, q => exact q.elim
  | .ok .brk, q => exact q.elim
  | .ok .cont, q => exact q.elim
end
end DL

end DLsec_101

section DLsec_102
set_option maxRecDepth 100000
set_option maxHeartbeats 1000000
/-! lambdas that have left their maker: the data twin of asking -/
namespace DL
open PySem PySem.Spec PyProof.Rows L2
open Classical in
noncomputable def fAskT (i : Nat) (tab : List (LamD × M Vl)) : M Vl := fun s => match s.sl[i]? with
  | some (some (.c j)) => (match s.ce[j]? with
    | some (.th t) => (match tab[t.k]? with
      | some z => if t.q = z.1.q0 ++ "<lambda>" ∧ t.N = z.1.N ∧ t.ar = z.1.ar ∧ t.e = z.1.e ∧ t.sc = z.1.sc then (match z.2 ⟨t.cap.map fun x => x.map Vl.d, []⟩ with
          | .ok (.d x) _ => .ok (.d x) s
          | .ex e _ => .ex e s
          | _ => .no) else .no
      | none => .no)
    | _ => .no)
  | _ => .no
mutual
/-- data lean on no other things -/
theorem Dq.dels {H H' : Hp} (e : ∀ b o, H b = some o → (∀ φ, o ≠ .ext φ) → H' b = some o) : ∀ {v : V} {d : D}, Dq H v d → Dq H' v d
  | _, _, .non => .non
  | _, _, .bl b => .bl b
  | _, _, .int i => .int i
  | _, _, .str x => .str x
  | _, _, .lst h r => .lst (e _ _ h fun _ z => by cases z) (DqA.dels e r)
  | _, _, .tup h r => .tup (e _ _ h fun _ z => by cases z) (DqA.dels e r)
  | _, _, .dct h r => .dct (e _ _ h fun _ z => by cases z) (DqM.dels e r)
theorem DqA.dels {H H' : Hp} (e : ∀ b o, H b = some o → (∀ φ, o ≠ .ext φ) → H' b = some o) : ∀ {v : List V} {d : List D}, DqA H v d → DqA H' v d
  | _, _, .nil => .nil
  | _, _, .cons h r => .cons (Dq.dels e h) (DqA.dels e r)
theorem DqM.dels {H H' : Hp} (e : ∀ b o, H b = some o → (∀ φ, o ≠ .ext φ) → H' b = some o) : ∀ {v : List (Key × V)} {d : List (D × D)}, DqM H v d → DqM H' v d
  | _, _, .nil => .nil
  | _, _, .cons h r => .cons (Dq.dels e h) (DqM.dels e r)
end
section
variable {mg : Str → Option Value} {W : WX} {B : Bd mg} {σ : St} {H Hi : Hp} {as : List Addr} {s : S}
theorem Rep.extP (r : Rep B σ H Hi as s) {d : Addr} {φ : Heap → Prop} (h : Hi d = some (.ext φ)) : H d = some (.ext φ) :=
  (r.sub d _ h).of_notin fun z => by
    obtain ⟨k, e⟩ := r.lkd d z
    rw [h] at e
    cases e
theorem RelCe.someH {mg : Str → Option Value} {H Hi : Hp} {as : List Addr} {a : Addr} {c : Ce} (h : RelCe mg H Hi as a c) (hc : c.alive = true) : ∃ o, H a = some o := by
  cases c with
  | l xs => exact ⟨_, h.2.choose_spec.1⟩
  | m xs => exact ⟨_, h.2.choose_spec.1⟩
  | v xs => exact ⟨_, h.2.choose_spec.1⟩
  | w xs => exact ⟨_, h.2.choose_spec.1⟩
  | tb _ _ => exact ⟨_, h.2.choose_spec.1⟩
  | y xs => exact ⟨_, h.2.choose_spec.1⟩
  | o _ _ => obtain ⟨_, vs, ⟨C, dx, h4, h2⟩, h3⟩ := h; exact ⟨_, h2⟩
  | _ => cases hc
section
variable {cu : List (Addr × Value)}
/-- the cells are put aside: the start of the lambda's body -/
theorem Rep.goA (r : Rep B σ H Hi as s) (hcu : ∀ z ∈ cu, Hi z.1 = some (cellO z.1 z.2)) {τ : St} {cap : List (Option D)} (hl : τ.length = cap.length) (hd : ∀ (i : Nat) (x : D), cap[i]? = some (some x) → ∃ v, τ[i]? = some (some v) ∧ Dq Hi v x) :
    Rep (mg := mg) ⟨delA H cu, delA Hi cu, [], B.lk0 ++ B.lk1, []⟩ τ (delA H cu) (delA Hi cu) [] ⟨cap.map fun x => x.map Vl.d, []⟩ := by
  have out : ∀ {b o}, delA Hi cu b = some o → (∀ p ∈ cu, b ≠ p.1) ∧ Hi b = some o := fun {b o} h => by
    have hn : ∀ p ∈ cu, b ≠ p.1 := fun p hp e => by
      rw [delA_mem ⟨p, hp, e⟩] at h; cases h
    exact ⟨hn, (delA_ne hn).symm.trans h⟩
  have nlk : ∀ {b}, b ∈ B.lk0 ++ B.lk1 → ∀ p ∈ cu, b ≠ p.1 := fun {b} hb p hp e => by
    obtain ⟨k, q⟩ := r.lkd b hb
    rw [e, hcu p hp] at q; cases q
  refine ⟨fun b o h => ?_, fun b hb => ?_, fun b o h _ => ?_, fun b o h => .inl h, fun j a c e1 _ _ => by simp at e1, by simp [hl], fun i x h => ?_, rfl, fun j a c e1 _ => by simp at e1, fun i j a c c' e1 _ _ _ _ _ => by simp at e1⟩
  · obtain ⟨h1, h2⟩ := out h
    have q := r.sub b o h2
    show HL (B.lk0 ++ B.lk1 ++ []) _ b o
    rw [List.append_nil]
    unfold HL at q ⊢
    rw [delA_ne h1]
    exact q
  · have hb' : b ∈ B.lk0 ++ B.lk1 := by
      have : b ∈ B.lk0 ++ B.lk1 ++ [] := hb
      rwa [List.append_nil] at this
    obtain ⟨k, q⟩ := r.lkd b hb'
    exact ⟨k, by rw [delA_ne (nlk hb')]; exact q⟩
  · show HL [] _ b o
    unfold HL
    rw [if_neg (by simp)]
    exact h
  · have h : (cap.map fun x => x.map Vl.d)[i]? = some (some x) := h
    rw [List.getElem?_map] at h
    cases hc : cap[i]? with
    | none => rw [hc] at h; cases h
    | some y =>
      rw [hc] at h
      cases y with
      | none => cases h
      | some y =>
        cases h
        obtain ⟨v, q1, q2⟩ := hd i y hc
        exact ⟨v, q1, .d (q2.dels fun b o e => (by
          refine fun ne => ?_
          by_cases hb : ∃ p ∈ cu, b = p.1
          · obtain ⟨p, hp, eb⟩ := hb
            rw [eb, hcu p hp] at e
            cases e
            exact absurd rfl (ne _)
          · rw [delA_ne fun p hp eb => hb ⟨p, hp, eb⟩]; exact e))⟩
/-- the cells are there again: behind the lambda's body -/
theorem Rep.backA (r : Rep B σ H Hi as s) (nd : (cu.map (·.1)).Nodup) (hcu : ∀ z ∈ cu, Hi z.1 = some (cellO z.1 z.2)) {τ' : St} {H' Hi' : Hp} {as' : List Addr} {s' : S}
    (r' : Rep (mg := mg) ⟨delA H cu, delA Hi cu, [], B.lk0 ++ B.lk1, []⟩ τ' H' Hi' as' s') (e' : Same (delA Hi cu) Hi') (hn : ∀ z ∈ cu, H' z.1 = none) : Rep B σ (putA H' cu) (putA Hi' cu) as s ∧ Same Hi (putA Hi' cu) ∧ Same Hi' (putA Hi' cu) := by
  have nlk : ∀ {b}, b ∈ B.lk0 ++ B.lk1 → ∀ p ∈ cu, b ≠ p.1 := fun {b} hb p hp e => by
    obtain ⟨k, q⟩ := r.lkd b hb
    rw [e, hcu p hp] at q; cases q
  have sm : Same Hi (putA Hi' cu) := fun b o h => by
    by_cases hb : ∃ p ∈ cu, b = p.1
    · obtain ⟨p, hp, eb⟩ := hb
      rw [eb, hcu p hp] at h
      cases h
      rw [eb]
      exact putA_at nd hp
    · have ne : ∀ p ∈ cu, b ≠ p.1 := fun p hp eb => hb ⟨p, hp, eb⟩
      rw [putA_ne ne]
      exact e' b o (by rw [delA_ne ne]; exact h)
  have sm' : Same Hi' (putA Hi' cu) := fun b o h => by
    have ne : ∀ p ∈ cu, b ≠ p.1 := fun p hp eb => by
      have := r'.fresh (hn p hp)
      rw [← eb, h] at this
      cases this
    rw [putA_ne ne]
    exact h
  have keep : ∀ b o, (∀ p ∈ cu, b ≠ p.1) → H b = some o → putA H' cu b = some o := fun b o ne h => by
    have q : HL [] H' b o := r'.fr b o (show delA H cu b = some o by rw [delA_ne ne]; exact h) (by simp)
    unfold HL at q
    rw [if_neg (by simp)] at q
    rw [putA_ne ne]
    exact q
  have notHi : ∀ a o, (∀ p ∈ cu, a ≠ p.1) → H a = some o → Hi a = none → (∀ vs, o ≠ .tup vs) → putA Hi' cu a = none := fun a o ne h hi nt => by
    rw [putA_ne ne]
    cases z : Hi' a with
    | none => rfl
    | some u =>
      rcases r'.hin a u z with q | q | q | q
      · have q : delA Hi cu a = some u := q
        rw [delA_ne ne, hi] at q; cases q
      · have q : delA H cu a = none := q
        rw [delA_ne ne, h] at q; cases q
      · cases q
      · obtain ⟨vs, rfl⟩ := q
        have := r'.tup z
        have k := keep a o ne h
        rw [putA_ne ne, this] at k
        cases k
        exact absurd rfl (nt vs)
  refine ⟨⟨fun b o h => ?_, fun b hb => ?_, fun b o h na => ?_, fun b o h => ?_, r.new, r.len, fun i x h => ?_, r.lea, fun j a c e1 e2 => ?_, r.inj⟩, sm, sm'⟩
  · by_cases hb : ∃ p ∈ cu, b = p.1
    · obtain ⟨p, hp, eb⟩ := hb
      have q := r.sub b (cellO p.1 p.2) (by rw [eb]; exact hcu p hp)
      rw [eb, putA_at nd hp] at h
      cases h
      unfold HL
      rw [if_neg fun z => absurd eb (nlk z p hp), eb]
      exact putA_at nd hp
    · have ne : ∀ p ∈ cu, b ≠ p.1 := fun p hp eb => hb ⟨p, hp, eb⟩
      rw [putA_ne ne] at h
      have q : HL (B.lk0 ++ B.lk1 ++ []) H' b o := r'.sub b o h
      rw [List.append_nil] at q
      unfold HL at q ⊢
      rw [putA_ne ne]
      exact q
  · obtain ⟨k, q⟩ := r'.lkd b (show b ∈ B.lk0 ++ B.lk1 ++ [] by rw [List.append_nil]; exact hb)
    exact ⟨k, by rw [putA_ne (nlk hb)]; exact q⟩
  · have q := r.fr b o h na
    by_cases hb : ∃ p ∈ cu, b = p.1
    · obtain ⟨p, hp, eb⟩ := hb
      have nl : b ∉ B.lk1 := fun z => absurd eb (nlk (List.mem_append_right _ z) p hp)
      have q2 := r.extP (φ := fun h => h.IsCell p.1 (some p.2)) (hcu p hp)
      unfold HL at q ⊢
      rw [if_neg nl] at q ⊢
      rw [eb, q2] at q
      cases q
      rw [eb]
      exact putA_at nd hp
    · have ne : ∀ p ∈ cu, b ≠ p.1 := fun p hp eb => hb ⟨p, hp, eb⟩
      unfold HL at q ⊢
      split
      · rename_i hm
        rw [if_pos hm] at q
        obtain ⟨ob, q⟩ := q
        exact ⟨ob, keep b _ ne q⟩
      · rename_i hm
        rw [if_neg hm] at q
        exact keep b _ ne q
  · by_cases hb : ∃ p ∈ cu, b = p.1
    · obtain ⟨p, hp, eb⟩ := hb
      rw [eb, putA_at nd hp] at h
      cases h
      rw [eb]
      exact r.hin p.1 _ (hcu p hp)
    · have ne : ∀ p ∈ cu, b ≠ p.1 := fun p hp eb => hb ⟨p, hp, eb⟩
      rw [putA_ne ne] at h
      rcases r'.hin b o h with q | q | q | q
      · have q : delA Hi cu b = some o := q
        rw [delA_ne ne] at q
        exact r.hin b o q
      · have q : delA H cu b = none := q
        rw [delA_ne ne] at q
        exact .inr (or3 (r.fresh0 q))
      · cases q
      · exact .inr (.inr (.inr q))
  · obtain ⟨v, q1, q2⟩ := r.slo i x h
    exact ⟨v, q1, q2.mono sm (List.prefix_refl _)⟩
  · have k := r.cel j a c e1 e2
    have ne : c.alive = true → ∀ p ∈ cu, a ≠ p.1 := fun al p hp eb => by
      have := k.hi_none al
      rw [eb, hcu p hp] at this
      cases this
    refine k.mono sm (List.prefix_refl _) (fun al => ?_) fun al => ?_
    · obtain ⟨o, ho⟩ := k.someH al
      rw [k.hi_none al]
      exact notHi a o (ne al) ho (k.hi_none al) fun vs z => by rw [z] at ho; exact k.no_tup al ho
    · obtain ⟨o, ho⟩ := k.someH al
      rw [ho]
      exact keep a o (ne al) ho
end
theorem se_askT {i : Nat} {ts : List (LamD × (XK → TE))} {fs : List (LamD × M Vl)} (good : ∀ p ∈ ts, (p.1.sc.names.map (·.1)).Nodup) (h : Paired (fun (p : LamD × (XK → TE)) (q : LamD × M Vl) => p.1 = q.1 ∧ ∀ E : XK, SE mg (fun cls o _ G => E cls o G) (p.2 E) q.2) ts fs) :
    SE mg W (tAskT W i ts) (fAskT i fs) := fun B σ H Hi as s Q r w => by
  unfold fAskT at w
  split at w
  case h_2 => exact w.elim
  case h_1 j hs =>
  split at w
  case h_2 => exact w.elim
  case h_1 t hj =>
  split at w
  case h_2 => exact w.elim
  case h_1 z hz =>
  split at w
  case isFalse => exact w.elim
  case isTrue hc =>
  obtain ⟨p, hp, hpe, he⟩ := paired_get h hz
  obtain ⟨c1, c2, c3, c4, c5⟩ := hc
  obtain ⟨v, s1, s2⟩ := r.slo i _ hs
  cases s2 with
  | @c a _ ha =>
  obtain ⟨f, d, C, U, τ, ef, hf, hd, inj, l1, l2, dat, fre⟩ := r.cel j a _ ha hj
  cases ef
  rw [← hpe] at c1 c2 c3 c4 c5
  rw [c1, c3, c4, c5] at hf
  rw [c1] at hd
  rw [c5] at fre
  rw [c2] at l1 l2 fre
  have nd := cuOf_nd (U := U) (good p (List.mem_of_getElem? hp)) inj fun y hy e => (fre y hy e).1
  have hcu : ∀ z ∈ cuOf p.1 U, Hi z.1 = some (cellO z.1 z.2) := fun z hz => by
    obtain ⟨y, hy, e, rfl⟩ := cuOf_mem hz
    exact (fre y hy e).2.1
  have start := r.goA hcu (l1.trans l2.symm) dat
  refine ⟨p, List.mem_of_getElem? hp, _, d, C, U, τ, s1, r.extP (φ := _) hf, r.code hd, inj, l1, fun y hy e => ⟨(fre y hy e).1, r.extP (φ := _) (fre y hy e).2.1, (fre y hy e).2.2⟩, he _ _ τ _ _ [] _ _ start ?_⟩
  cases hr : z.2 ⟨t.cap.map fun x => x.map Vl.d, []⟩ with
  | no => rw [hr] at w; exact w.elim
  | ex e s' =>
    rw [hr] at w
    intro H' Hi' as' r' e' p' cls o hx hn
    obtain ⟨r2, m1, m2⟩ := r.backA nd hcu r' e' hn
    exact w _ _ as r2 m1 (List.prefix_refl _) cls o (hx.mono m2)
  | ok x s' =>
    rw [hr] at w
    cases x with
    | c _ => exact w.elim
    | d x =>
      intro H' Hi' as' r' e' p' u hu hn
      obtain ⟨r2, m1, m2⟩ := r.backA nd hcu r' e' hn
      cases hu with
      | d q => exact w _ _ as r2 m1 (List.prefix_refl _) u (.d (q.mono m2))
end
end DL

end DLsec_102

section DLsec_103
set_option maxRecDepth 100000
set_option maxHeartbeats 1000000
/-! a def that hands back a list of lambdas -/
namespace DL
open PySem PySem.Spec PyProof.Rows L2
/-! ### a body whose end is told with the names as they are then -/
structure PMk (X : Cx) (st : List Stmt) (t : (St → Hp → V → Prop) → St → Hp → Prop) : Prop where
  run : ∀ (pins : List (Addr × Obj)) (s : Shared) (σ : St) (H : Hp) (R : St → Hp → V → Prop), Inv X pins σ H s → t R σ H →
    wpAny (model X.prog X.w) X.A (execs st X.env) (fun fl s' => ∃ u v σ' H', fl = .ret u ∧ Inv X pins σ' H' s' ∧ RelV v u ∧ R σ' H' v) X.xe s
section
variable {X : Cx} {st : Stmt} {rest : List Stmt} {t : TS} {u : (St → Hp → V → Prop) → St → Hp → Prop} {e : Expr} {te : TE} {pos : Pos}
theorem pmk_cons (h1 : PS X st t) (h2 : PMk X rest u) : PMk X (st :: rest) (fun R σ H => t { nx := u R, rt := fun _ _ => False } σ H) := by
  refine ⟨fun pins s σ H R I h => ?_⟩
  refine wpAny_execs_cons (thn (h1.run pins s σ H _ I h) fun f s1 q => ?_)
  cases f with
  | next =>
    obtain ⟨σ', H', I', q⟩ := q
    exact h2.run pins s1 σ' H' R I' q
  | ret v => obtain ⟨_, _, _, _, _, q⟩ := q; exact q.elim
  | brk => obtain ⟨_, _, _, q⟩ := q; exact q.elim
  | cont => obtain ⟨_, _, _, q⟩ := q; exact q.elim
theorem pmk_ret (he : PE X e te) : PMk X [.Return (some e) pos] (fun R σ H => te σ H fun v H' => R σ H' v) := by
  refine ⟨fun pins s σ H R I h => ?_⟩
  exact wpAny_execs_cons (wpAny_Return_some (thn (he.run pins s σ H _ I h) fun v s1 ⟨x, H1, I1, r1, q1⟩ => ⟨v, x, σ, H1, rfl, I1, r1, q1⟩))
end
/-- the end of a maker: the names' cells are told of -/
def MkEnd (N CN : List Str) (C : List (Str × Addr)) (Q : VK) : St → Hp → V → Prop := fun σ' H' v => (∀ z ∈ CN, ∃ (i : Nat) (w : V), N[i]? = some z ∧ σ'[i]? = some (some w)) ∧ ∀ U : Str → Addr × Value, (∀ x y c, C.lookup x = some c → C.lookup y = some c → x = y) →
  (∀ z ∈ CN, C.lookup z = some (U z).1 ∧ H' (U z).1 = none ∧ ∀ (i : Nat) (w : V), N[i]? = some z → σ'[i]? = some (some w) → RelV w (U z).2) → Q v (putA H' (CN.map U))
theorem map_nd {CN : List Str} (nd : CN.Nodup) {C : List (Str × Addr)} {U : Str → Addr × Value} (inj : ∀ x y c, C.lookup x = some c → C.lookup y = some c → x = y) (h : ∀ z ∈ CN, C.lookup z = some (U z).1) : ((CN.map U).map (·.1)).Nodup := by
  rw [List.map_map]
  induction CN with
  | nil => exact List.nodup_nil
  | cons y ns ih =>
    rw [List.nodup_cons] at nd
    rw [List.map_cons, List.nodup_cons]
    refine ⟨fun hm => ?_, ih nd.2 fun z hz => h z (List.mem_cons_of_mem _ hz)⟩
    obtain ⟨z, hz, e⟩ := List.mem_map.mp hm
    have a := h y List.mem_cons_self
    have b := h z (List.mem_cons_of_mem _ hz)
    have e : (U z).1 = (U y).1 := e
    rw [e] at b
    have := inj _ _ _ b a
    exact nd.1 (by rw [← this]; exact hz)
section
variable {P : Program} {w : World} {K : PySem.W.Frag} {mg : Str → Option Value} {base : Heap}
theorem hok_putA {h : Heap} {cu : List (Addr × Value)} : ∀ {G : Hp}, HOk P w G h → (cu.map (·.1)).Nodup → (∀ p ∈ cu, G p.1 = none ∧ h.IsCell p.1 (some p.2)) → HOk P w (putA G cu) h := by
  induction cu with
  | nil => intro G ok _ _; exact ok
  | cons p r ih =>
    intro G ok nd hp
    rw [List.map_cons, List.nodup_cons] at nd
    have ne : ∀ z ∈ r, p.1 ≠ z.1 := fun z hz y => nd.1 (by rw [y]; exact List.mem_map_of_mem hz)
    exact hok_put (ih ok nd.2 fun z hz => hp z (List.mem_cons_of_mem _ hz)) (by rw [putA_ne ne]; exact (hp p List.mem_cons_self).1) (hp p List.mem_cons_self).2
/-- a maker, by its body -/
theorem _root_.L2.Fun.okMk {x qual : Str} {st : Stmt} {f cA : Addr} {fd : FuncData} {N ps : List Str} {k : Nat} {sp : Sp} {CN : List Str} (F : Fun K x qual st f fd) (S : FnScope N ps (defScope st)) (known : fd.code = .ref cA) (len : ∀ us G Q E, sp us G Q E → us.length = ps.length)
    (ndC : CN.Nodup) (hC : ∀ z ∈ CN, (defScope st).names.lookup z = some .cell)
    (hbody : ∀ (A : Around) (out : List Env) (s : Shared) (G : Hp) (vs : List V) (Q : VK) (E : XK), Room k (A.deeper (envOfC qual (defScope st) s.heap.objs.size f (.ref cA))) → A.guards = some [] → sp vs G Q E →
      ∃ t, PMk (cxOf (L2.CX P w) P w K mg base N qual (defScope st) f (.ref cA) A out s G E) (defBody st) t ∧ t (MkEnd N CN (cxOf (L2.CX P w) P w K mg base N qual (defScope st) f (.ref cA) A out s G E).env.cells Q) (L2.start N vs) G) : FnG P w K mg base (k + 1) f fd ps sp := by
  obtain ⟨oc, od, kV, doc, pm, an, cdv, ct, osl, rfl, lk, hcd⟩ := F.ex
  cases (show cdv = .ref cA from known)
  refine ⟨len, fun A out s G args us vs Q E room grd e0 bnd rel prom => ?_⟩
  have isIn : K.In s.heap := e0.mod.kin.keeps fun b o q => (e0.bs b o q).1
  have kinds : ∀ y ∈ ps.zip us, (defScope st).names.lookup y.1 = some .local ∨ ((defScope st).names.lookup y.1 = some .cell ∧
      ((cellsFrom (s.heap.objs.size + 1) (defScope st).names []).lookup y.1).isSome = true) := by
    rintro ⟨n, v⟩ hy
    exact (S.par n (List.of_mem_zip hy).1).imp id fun q => ⟨q, PySem.W.cellsFrom_some _ _ _ (.inl q)⟩
  refine codeAny_call_function room.depth (isIn _ _ lk) rfl S.co S.gen rfl
    (PySem.W.codeRec_of isIn hcd) (bnd _ _ _ _ (wpAny_newFunctionEnv_cells S.kind kinds fun env he s1 inc => ?_))
  subst he
  refine ⟨(e0.mod.nolimit.keeps fun b o q => (e0.bs b o q).1).keeps inc.toInCall.keep, codeAny_func ?_⟩
  obtain ⟨t, der, rd⟩ := hbody A out s G vs Q E (room.deeper _) grd prom
  have I0 := inv_start (CX := L2.CX P w) (E := E) S room.hd e0 (len _ _ _ _ prom) rel inc
  refine wpAny_mono (der.run [] s1 _ G _ I0 rd) (fun fl s' q => ?_) fun _ _ q => q
  obtain ⟨u, v, σ', H', rfl, J, rv, hex, hQ⟩ := q
  classical
  obtain ⟨m, hns, hl⟩ := J.loc
  have hU : ∀ z ∈ CN, ∃ p : Addr × Value, (cxOf (L2.CX P w) P w K mg base N qual (defScope st) f (.ref cA) A out s G E).env.cells.lookup z = some p.1 ∧ s'.heap.IsCell p.1 (some p.2) := fun z hz => by
    obtain ⟨i, y, e1, e2⟩ := hex z hz
    obtain ⟨uu, r1, r2⟩ := hl i z y e1 e2 (.inr (.inl (hC z hz)))
    rcases r2 with ⟨k1, _⟩ | ⟨_, c, k2, k3⟩
    · have k1 : (defScope st).names.lookup z = some .local := k1
      rw [hC z hz] at k1; cases k1
    · exact ⟨(c, uu), k2, k3⟩
  let U : Str → Addr × Value := fun z => if h : ∃ p : Addr × Value, (cxOf (L2.CX P w) P w K mg base N qual (defScope st) f (.ref cA) A out s G E).env.cells.lookup z = some p.1 ∧ s'.heap.IsCell p.1 (some p.2) then h.choose else (0, .none)
  have hUz : ∀ z ∈ CN, (cxOf (L2.CX P w) P w K mg base N qual (defScope st) f (.ref cA) A out s G E).env.cells.lookup z = some (U z).1 ∧ s'.heap.IsCell (U z).1 (some (U z).2) := fun z hz => by
    have e : U z = (hU z hz).choose := dif_pos (hU z hz)
    rw [e]
    exact (hU z hz).choose_spec
  have inj := J.ok.inj
  have nd := map_nd (U := U) ndC inj fun z hz => (hUz z hz).1
  have hcu : ∀ p ∈ CN.map U, H' p.1 = none ∧ s'.heap.IsCell p.1 (some p.2) ∧ s.heap.objs.size ≤ p.1 := fun p hp => by
    obtain ⟨z, hz, rfl⟩ := List.mem_map.mp hp
    exact ⟨J.freeC z _ (hUz z hz).1, (hUz z hz).2, J.ok.cab z _ rfl (hUz z hz).1⟩
  have un := J.base
  have old : ∀ b o, s.heap.get? b = some o → ∀ p ∈ CN.map U, b ≠ p.1 := fun b o e p hp z => by
    have h1 := Heap.lt_size e
    have h2 := (hcu p hp).2.2
    rw [z] at h1
    exact absurd (Nat.lt_of_lt_of_le h1 h2) (Nat.lt_irrefl _)
  have tr : ∀ b o, H' b = some o → ∀ p ∈ CN.map U, b ≠ p.1 := fun b o e p hp z => by
    have := (hcu p hp).1
    rw [← z, e] at this; cases this
  refine ⟨v, putA H' (CN.map U), J.os, J.bare, ⟨fun b o q1 q2 q3 q4 => un.keep b o q1 q2 q3 q4, fun b o q1 q2 q3 q4 => un.slot b o q1 q2 q3 q4, fun b o q1 q2 q3 => ?_, fun b o q1 q2 => un.there b o q1 q2, fun b xs q => ?_, fun b o v q => ?_, fun b ps q => ?_⟩, hok_putA J.hok nd fun p hp => ⟨(hcu p hp).1, (hcu p hp).2.1⟩, rv, hQ U inj fun z hz => ⟨(hUz z hz).1, J.freeC z _ (hUz z hz).1, fun i y e1 e2 => ?_⟩⟩
  · rw [putA_ne (old b o q1)]; exact un.free b o q1 q2 q3
  · have := un.tups b xs q
    rw [putA_ne (tr b _ this)]; exact this
  · have := un.frzs b o v q
    rw [putA_ne (tr b _ this)]; exact this
  · obtain ⟨more, this⟩ := un.tbls b ps q
    exact ⟨more, by rw [putA_ne (tr b _ this)]; exact this⟩
  · obtain ⟨uu, r1, r2⟩ := hl i z y e1 e2 (.inr (.inl (hC z hz)))
    rcases r2 with ⟨k1, _⟩ | ⟨_, c, k2, o, k3, k4⟩
    · have k1 : (defScope st).names.lookup z = some .local := k1
      rw [hC z hz] at k1; cases k1
    · obtain ⟨h1, o2, h2, h3⟩ := hUz z hz
      have ec : c = (U z).1 := by
        rw [h1] at k2
        exact (Option.some.inj k2).symm
      rw [ec, h2] at k3
      cases k3
      rw [h3] at k4
      injection k4 with k4
      injection k4 with k4
      rw [k4]
      exact r1
end
/-! ### the data twin -/
section
variable {mg : Str → Option Value} {B : Bd mg} {σ : St} {H Hi : Hp} {as : List Addr} {s : S}
theorem Rep.pushD (r : Rep B σ H Hi as s) {a : Addr} {c : Ce} (hc : c.alive = false) (h : RelCe mg H Hi (as ++ [a]) a c) : Rep B σ H Hi (as ++ [a]) ⟨s.sl, s.ce ++ [c]⟩ := by
  have look : ∀ j b c', (as ++ [a])[j]? = some b → (s.ce ++ [c])[j]? = some c' → (as[j]? = some b ∧ s.ce[j]? = some c') ∨ (b = a ∧ c' = c) := fun j b c' e1 e2 => by
    by_cases hj : j < as.length
    · rw [List.getElem?_append_left hj] at e1
      rw [List.getElem?_append_left (by rw [← r.lea]; exact hj)] at e2
      exact .inl ⟨e1, e2⟩
    · rw [List.getElem?_append_right (by omega)] at e1
      rw [List.getElem?_append_right (by rw [← r.lea]; omega), ← r.lea] at e2
      have hz : j - as.length = 0 := by
        cases hh : j - as.length with
        | zero => rfl
        | succ n => rw [hh] at e1; simp at e1
      rw [hz] at e1 e2
      cases e1
      cases e2
      exact .inr ⟨rfl, rfl⟩
  refine ⟨r.sub, r.lkd, r.fr, r.hin, fun j b c' e1 e2 al => ?_, r.len, fun i x e => ?_, ?_, fun j b c' e1 e2 => ?_, fun i j b c1 c2 e1 e2 e3 e4 a1 a2 => ?_⟩
  · rcases look j b c' e1 e2 with ⟨q1, q2⟩ | ⟨rfl, rfl⟩
    · exact r.new j b c' q1 q2 al
    · rw [hc] at al; cases al
  · obtain ⟨v, q1, q2⟩ := r.slo i x e
    exact ⟨v, q1, q2.mono (Same.refl _) (List.prefix_append _ _)⟩
  · show (as ++ [a]).length = (s.ce ++ [c]).length
    rw [List.length_append, List.length_append, r.lea]
    rfl
  · rcases look j b c' e1 e2 with ⟨q1, q2⟩ | ⟨rfl, rfl⟩
    · exact (r.cel j b c' q1 q2).mono (Same.refl _) (List.prefix_append _ _) (fun _ => rfl) (fun _ => rfl)
    · exact h
  · rcases look i b c1 e1 e3 with ⟨q1, q2⟩ | ⟨rfl, rfl⟩
    · rcases look j b c2 e2 e4 with ⟨q3, q4⟩ | ⟨rfl, rfl⟩
      · exact r.inj i j b c1 c2 q1 q3 q2 q4 a1 a2
      · rw [hc] at a2; cases a2
    · rw [hc] at a1; cases a1
open Classical in
/-- private things are known from now on -/
noncomputable def frzS (H Hi : Hp) (S : List Addr) : Hp := fun b => if b ∈ S then H b else Hi b
theorem Rep.frzS (r : Rep B σ H Hi as s) {S : List Addr} (hS : ∀ b ∈ S, Pv B Hi as s b) : Rep B σ H (DL.frzS H Hi S) as s ∧ Same Hi (DL.frzS H Hi S) := by
  have out : ∀ {b}, b ∉ S → DL.frzS H Hi S b = Hi b := fun h => if_neg h
  have inn : ∀ {b}, b ∈ S → DL.frzS H Hi S b = H b := fun h => if_pos h
  have sm : Same Hi (DL.frzS H Hi S) := fun b o h => by
    by_cases hb : b ∈ S
    · rw [(hS b hb).hi] at h; cases h
    · rw [out hb]; exact h
  refine ⟨⟨fun b o h => ?_, fun b hb => ?_, r.fr, fun b o h => ?_, r.new, r.len, fun i x h => ?_, r.lea, fun j a c e1 e2 => ?_, r.inj⟩, sm⟩
  · by_cases hb : b ∈ S
    · rw [inn hb] at h
      unfold HL
      rw [if_neg fun z => by
        obtain ⟨k, q⟩ := r.lkd b z
        rw [(hS b hb).hi] at q; cases q]
      exact h
    · rw [out hb] at h
      exact r.sub b o h
  · obtain ⟨k, q⟩ := r.lkd b hb
    exact ⟨k, sm _ _ q⟩
  · by_cases hb : b ∈ S
    · exact .inr (or3 (hS b hb).own)
    · rw [out hb] at h
      exact r.hin b o h
  · obtain ⟨v, q1, q2⟩ := r.slo i x h
    exact ⟨v, q1, q2.mono sm (List.prefix_refl _)⟩
  · have k := r.cel j a c e1 e2
    refine k.mono sm (List.prefix_refl _) (fun al => ?_) fun al => rfl
    rw [out fun z => by
      have := (hS a z).dead j c e1 e2
      rw [this] at al; cases al]
theorem Rep.putA {cu : List (Addr × Value)} : ∀ {H Hi : Hp}, Rep B σ H Hi as s → (cu.map (·.1)).Nodup → (∀ p ∈ cu, H p.1 = none) → Rep B σ (DL.putA H cu) (DL.putA Hi cu) as s ∧ Same Hi (DL.putA Hi cu) := by
  induction cu with
  | nil => intro H Hi r _ _; exact ⟨r, Same.refl _⟩
  | cons p l ih =>
    intro H Hi r nd h
    rw [List.map_cons, List.nodup_cons] at nd
    have ne : ∀ z ∈ l, p.1 ≠ z.1 := fun z hz y => nd.1 (by rw [y]; exact List.mem_map_of_mem hz)
    obtain ⟨r1, s1⟩ := ih r nd.2 fun z hz => h z (List.mem_cons_of_mem _ hz)
    have n : DL.putA H l p.1 = none := by rw [putA_ne ne]; exact h p List.mem_cons_self
    exact ⟨r1.addI (o := cellO p.1 p.2) n, s1.trans (same_new (r1.fresh n))⟩
end
/-- the lambdas of a maker, numbered from k on -/
def thL (q : Str) (N : List Str) (cap : List (Option D)) : Nat → List (Arguments × Expr × Scope) → List Th
  | _, [] => []
  | k, l :: r => ⟨k, q, N, l.1, l.2.1, l.2.2, cap⟩ :: thL q N cap (k + 1) r
open Classical in
noncomputable def gMk (p : Addr) (q : Str) (N : List Str) (ar k0 : Nat) (ls : List (Arguments × Expr × Scope)) : FD := fun xs cs =>
  if Ce.tb p q ∈ cs ∧ xs.length = ar ∧ ∀ x ∈ xs, ∃ d, x = Vl.d d then .ok (.c cs.length) (cs ++ [.tl (thL q N (datas (xs.map some ++ List.replicate (N.length - ar) none)) k0 ls)]) else .no
theorem gMk_len {mg : Str → Option Value} {p : Addr} {q : Str} {N : List Str} {ar k0 : Nat} {ls : List (Arguments × Expr × Scope)} {vs : List V} {H : Hp} {Q : VK} {E : XK} (h : FSp mg (gMk p q N ar k0 ls) vs H Q E) : vs.length = ar := by
  obtain ⟨Hi, as, xs, cs, lk, r, w⟩ := h
  unfold gMk at w
  split at w
  · rename_i e
    have := r.len
    simp at this
    omega
  · exact w.elim
/-- told.append(lambda: ..) .. return told -/
def tMkB (K : PySem.W.Frag) (P : Addr) (q : Str) (i : Nat) : List (Addr → Addr → HO) → (St → Hp → V → Prop) → St → Hp → Prop
  | [] => fun R σ H => tVar i σ H fun v H' => R σ H' v
  | L :: Ls => fun R σ H => tDrop (tBM K "list" rAppend (tVar i) (tCons (tLamV P q L) tNil)) { nx := tMkB K P q i Ls R, rt := fun _ _ => False } σ H
def tMk (K : PySem.W.Frag) (P : Addr) (q : Str) (i : Nat) (L0 : Addr → Addr → HO) (Ls : List (Addr → Addr → HO)) : (St → Hp → V → Prop) → St → Hp → Prop :=
  fun R σ H => tAsg (tLst (tCons (tLamV P q L0) tNil)) (gName i) { nx := tMkB K P q i Ls R, rt := fun _ _ => False } σ H
section
variable {mg : Str → Option Value} {B : Bd mg} {σ : St} {H Hi : Hp} {as : List Addr} {s : S}
abbrev altD (L : Addr → Addr → HO) : Alt := (L, fun _ _ _ _ _ => True)
theorem kp_mk {K : PySem.W.Frag} {i : Nat} {P : Addr} {q : Str} {R : St → Hp → V → Prop} (hm : Ce.tb P q ∈ s.ce) : ∀ (Ls L0 : List (Addr → Addr → HO)) (H Hi : Hp), (∀ a ∈ L0 ++ Ls, ExtR a) → (L0 ++ Ls).length < 1000 → Kp i q (L0.map altD) B σ H Hi as s →
    (∀ H' Hi' p, Kp i q ((L0 ++ Ls).map altD) B σ H' Hi' as s → Same Hi Hi' → σ[i]? = some (some p) → R σ H' p) → tMkB K P q i Ls R σ H
  | [], L0, H, Hi, _, _, k, go => by
    obtain ⟨p, fs, h1, h2, h3, h4⟩ := k.ls
    exact ⟨_, h1, go H Hi _ (by rw [List.append_nil]; exact k) (Same.refl _) h1⟩
  | a :: Ls, L0, H, Hi, hx, hl, k, go => by
    rw [List.length_append, List.length_cons] at hl
    refine kp_app (a := altD a) (fun b hb => ?_) k hm (by rw [List.length_map]; omega) fun H' Hi' k' sm => ?_
    · rcases List.mem_append.mp hb with z | z
      · obtain ⟨y, hy, rfl⟩ := List.mem_map.mp z
        exact hx y (List.mem_append_left _ hy)
      · rw [List.mem_singleton.mp z]
        exact hx a (List.mem_append_right _ (List.mem_cons_self ..))
    · refine kp_mk hm Ls (L0 ++ [a]) H' Hi' (by rw [List.append_assoc]; exact hx) (by rw [List.length_append, List.length_append, List.length_singleton]; omega) (by rw [List.map_append]; exact k') fun H2 Hi2 p k2 sm2 hp => ?_
      rw [List.append_assoc] at k2
      exact go H2 Hi2 p k2 (sm.trans sm2) hp
/-- how the maker's body ends -/
theorem fn_endMk {K : PySem.W.Frag} {N CN : List Str} {ar k0 it : Nat} {P : Addr} {q : Str} {C : List (Str × Addr)} {l0 : Arguments × Expr × Scope} {ls : List (Arguments × Expr × Scope)} {vs : List V} {H : Hp} {Q : VK} {E : XK}
    (hit : ar ≤ it ∧ it < N.length) (har : ar ≤ N.length) (hll : (l0 :: ls).length < 1000) (hCN : ∀ z ∈ CN, ∃ i, i < ar ∧ N[i]? = some z) (ndC : CN.Nodup) (hfr : ∀ l ∈ l0 :: ls, ∀ y ∈ l.2.2.names, y.2 = .free → y.1 ∈ CN)
    (h : FSp mg (gMk P q N ar k0 (l0 :: ls)) vs H Q E) : tMk K P q it (thO q l0.1 l0.2.1 l0.2.2 C) (ls.map fun l => thO q l.1 l.2.1 l.2.2 C) (MkEnd N CN C Q) (L2.start N vs) H := by
  obtain ⟨Hi, as, xs, cs, lk, r, w⟩ := h
  have hx0 : vs.length = xs.length := by have := r.len; simpa using this
  unfold gMk at w
  split at w
  case isFalse => exact w.elim
  case isTrue hc =>
  obtain ⟨hm, hx, hdt⟩ := hc
  have hl : vs.length = ar := by omega
  have r0 := r.names (N.length - ar)
  have es : L2.start N vs = vs.map some ++ List.replicate (N.length - ar) none := by unfold L2.start; rw [hl]
  rw [es]
  have r0 : Rep (mg := mg) ⟨H, Hi, aliveA as cs, lk, []⟩ (vs.map some ++ List.replicate (N.length - ar) none) H Hi as ⟨xs.map some ++ List.replicate (N.length - ar) none, cs⟩ := r0
  have hext : ∀ a ∈ [thO q l0.1 l0.2.1 l0.2.2 C] ++ (ls.map fun l => thO q l.1 l.2.1 l.2.2 C), ExtR a := fun a ha => by
    rcases List.mem_append.mp ha with z | z
    · rw [List.mem_singleton.mp z]; exact fun f d => ⟨_, rfl⟩
    · obtain ⟨l, _, rfl⟩ := List.mem_map.mp z; exact fun f d => ⟨_, rfl⟩
  have hlen : (vs.map some ++ List.replicate (N.length - ar) (none : Option V)).length = N.length := by simp; omega
  refine kp_new (a := altD (thO q l0.1 l0.2.1 l0.2.2 C)) (fun f d => ⟨_, rfl⟩) r0 hm (by rw [hlen]; exact hit.2) (fun x z => ?_) fun σ1 H1 Hi1 k1 sm1 => ?_
  · have z : (xs.map some ++ List.replicate (N.length - ar) none)[it]? = some (some x) := z
    rw [List.getElem?_append_right (by simp; omega), List.getElem?_replicate] at z
    split at z <;> cases z
  refine kp_mk hm (ls.map fun l => thO q l.1 l.2.1 l.2.2 C) [thO q l0.1 l0.2.1 l0.2.2 C] H1 Hi1 hext (by rw [List.length_append, List.length_map, List.length_singleton]; simp at hll; omega) k1 fun H2 Hi2 pv k2 sm2 hpv => ?_
  obtain ⟨p, fs, hs, hp, pvp, hfs⟩ := k2.ls
  rw [hs] at hpv
  cases hpv
  have rp := k2.rp
  refine ⟨fun z hz => ?_, fun U inj hU => ?_⟩
  · obtain ⟨i, hi, hN⟩ := hCN z hz
    have hxi : i < xs.length := by omega
    obtain ⟨y, q1, _⟩ := rp.slo i xs[i] (by
      show (xs.map some ++ List.replicate (N.length - ar) none)[i]? = some (some xs[i])
      rw [List.getElem?_append_left (by simpa using hxi), List.getElem?_map, List.getElem?_eq_getElem hxi]
      rfl)
    exact ⟨i, y, hN, q1⟩
  have nd := map_nd (U := U) ndC inj fun z hz => (hU z hz).1
  have hS : ∀ b ∈ p :: fs.map (·.1), Pv (mg := mg) ⟨H, Hi, aliveA as cs, lk, []⟩ Hi2 as ⟨xs.map some ++ List.replicate (N.length - ar) none, cs⟩ b := fun b hb => by
    rcases List.mem_cons.mp hb with z | z
    · rw [z]; exact pvp
    · obtain ⟨x, hx1, rfl⟩ := List.mem_map.mp z
      obtain ⟨n, hn⟩ := List.getElem?_of_mem hx1
      obtain ⟨a, _, z⟩ := pair_get hfs hn
      exact z.2.2
  obtain ⟨r3, sm3⟩ := rp.frzS hS
  obtain ⟨r4, sm4⟩ := r3.putA nd fun z hz => by
    obtain ⟨y, hy, rfl⟩ := List.mem_map.mp hz
    exact (hU y hy).2.1
  have SM : Same Hi2 (DL.putA (DL.frzS H2 Hi2 (p :: fs.map (·.1))) (CN.map U)) := sm3.trans sm4
  have known : ∀ b o, b ∈ p :: fs.map (·.1) → H2 b = some o → DL.putA (DL.frzS H2 Hi2 (p :: fs.map (·.1))) (CN.map U) b = some o := fun b o hb e => sm4 _ _ (by unfold DL.frzS; rw [if_pos hb]; exact e)
  let cap := datas (xs.map some ++ List.replicate (N.length - ar) none)
  have hcap : cap.length = N.length := by
    show (datas _).length = _
    unfold datas
    rw [List.length_map, List.length_append, List.length_map, List.length_replicate]
    omega
  have hσ : σ1.length = N.length := by
    have := rp.len
    rw [this]
    show (xs.map some ++ List.replicate (N.length - ar) (none : Option Vl)).length = _
    simp; omega
  let τ : St := List.zipWith (fun (c : Option D) (v : Option V) => if c.isSome = true then v else none) cap σ1
  have hτ : ∀ (i : Nat) (v : V), τ[i]? = some (some v) → σ1[i]? = some (some v) := fun i v e => by
    have e : (List.zipWith (fun (c : Option D) (v : Option V) => if c.isSome = true then v else none) cap σ1)[i]? = some (some v) := e
    rw [List.getElem?_zipWith] at e
    cases hc : cap[i]? with
    | none => rw [hc] at e; cases e
    | some c =>
      cases hv : σ1[i]? with
      | none => rw [hc, hv] at e; cases e
      | some y =>
        rw [hc, hv] at e
        have e : some (if c.isSome = true then y else none) = some (some v) := e
        split at e
        · exact e
        · cases e
  have dat : ∀ (i : Nat) (x : D), cap[i]? = some (some x) → ∃ v, τ[i]? = some (some v) ∧ Dq Hi2 v x := fun i x e => by
    have e0 := e
    have e : (datas (xs.map some ++ List.replicate (N.length - ar) none))[i]? = some (some x) := e
    unfold datas at e
    rw [List.getElem?_map] at e
    cases hs : (xs.map some ++ List.replicate (N.length - ar) (none : Option Vl))[i]? with
    | none => rw [hs] at e; cases e
    | some o =>
      rw [hs] at e
      cases o with
      | none => cases e
      | some y =>
        cases y with
        | c _ => cases e
        | d y =>
          cases e
          obtain ⟨v, e1, e2⟩ := rp.slo i _ hs
          cases e2 with
          | d e2 =>
            refine ⟨v, ?_, e2⟩
            show (List.zipWith _ cap σ1)[i]? = _
            rw [List.getElem?_zipWith, e0, e1]
            rfl
  have one : ∀ (k : Nat) (l : Arguments × Expr × Scope) (x : Addr × Addr), l ∈ l0 :: ls → x ∈ fs → H2 x.1 = some (thO q l.1 l.2.1 l.2.2 C x.1 x.2) → Hi2 x.2 = some (LamX.CodeO x.2 q) → RelTh (DL.putA (DL.frzS H2 Hi2 (p :: fs.map (·.1))) (CN.map U)) (.ref x.1) ⟨k, q, N, l.1, l.2.1, l.2.2, cap⟩ := fun k l x hl hx e1 e2 => by
    refine ⟨x.1, x.2, C, U, τ, rfl, known _ _ (List.mem_cons_of_mem _ (List.mem_map_of_mem hx)) e1, SM _ _ e2, inj, ?_, hcap, fun i y e => ?_, fun y hy e => ?_⟩
    · show (List.zipWith _ cap σ1).length = N.length
      rw [List.length_zipWith, hcap, hσ, Nat.min_self]
    · obtain ⟨v, q1, q2⟩ := dat i y e
      exact ⟨v, q1, q2.mono SM⟩
    · have hz := hfr l hl y hy e
      obtain ⟨u1, u2, u3⟩ := hU y.1 hz
      exact ⟨u1, putA_at nd (List.mem_map_of_mem hz), fun i v e1 e2 => u3 i v e1 (hτ i v e2)⟩
  have all : ∀ (L : List (Arguments × Expr × Scope)) (k : Nat) (gs : List (Addr × Addr)), (∀ l ∈ L, l ∈ l0 :: ls) → (∀ x ∈ gs, x ∈ fs) → Paired (fun (x : Addr × Addr) (a : Alt) => H2 x.1 = some (a.1 x.1 x.2) ∧ Hi2 x.2 = some (LamX.CodeO x.2 q) ∧ Pv (mg := mg) ⟨H, Hi, aliveA as cs, lk, []⟩ Hi2 as ⟨xs.map some ++ List.replicate (N.length - ar) none, cs⟩ x.1) gs (L.map fun l => altD (thO q l.1 l.2.1 l.2.2 C)) →
      Paired (RelTh (DL.putA (DL.frzS H2 Hi2 (p :: fs.map (·.1))) (CN.map U))) (gs.map fun x => V.ref x.1) (thL q N cap k L) := fun L => by
    induction L with
    | nil =>
      intro k gs _ _ h
      cases gs with
      | nil => exact .nil
      | cons _ _ => cases h
    | cons l L ih =>
      intro k gs h1 h2 h
      cases gs with
      | nil => cases h
      | cons x gs =>
        cases h with
        | cons z h =>
          exact .cons (one k l x (h1 l List.mem_cons_self) (h2 x List.mem_cons_self) z.1 z.2.1) (ih (k + 1) gs (fun y hy => h1 y (List.mem_cons_of_mem _ hy)) (fun y hy => h2 y (List.mem_cons_of_mem _ hy)) h)
  have em : ([thO q l0.1 l0.2.1 l0.2.2 C] ++ (ls.map fun l => thO q l.1 l.2.1 l.2.2 C)).map altD = (l0 :: ls).map fun l => altD (thO q l.1 l.2.1 l.2.2 C) := by
    simp [List.map_map, Function.comp_def]
  rw [em] at hfs
  have r5 := r4.nil.pushD (a := p) (c := .tl (thL q N cap k0 (l0 :: ls))) rfl ⟨_, known _ _ List.mem_cons_self hp, all _ k0 fs (fun _ h => h) (fun _ h => h) hfs⟩
  refine w _ _ _ _ r5 ((sm1.trans sm2).trans SM) (List.prefix_append _ _) (.c ?_)
  have : as.length = cs.length := r.lea
  rw [← this, List.getElem?_append_right (Nat.le_refl _), Nat.sub_self]
  rfl
end
end DL

end DLsec_103

section DLsec_104
set_option maxRecDepth 100000
set_option maxHeartbeats 1000000
/-! lists of lambdas: put together, asked one after the other -/
namespace DL
open PySem PySem.Spec PyProof.Rows L2
def fCatT (fa fb : M Vl) : M Vl := bnd fa fun x => bnd fb fun y s => match x, y with
  | .c i, .c j => (match s.ce[i]?, s.ce[j]? with
    | some (.tl a), some (.tl b) => if a.length + b.length ≤ 1000000 then .ok (.c s.ce.length) { s with ce := s.ce ++ [.tl (a ++ b)] } else .no
    | _, _ => .no)
  | _, _ => .no
open Classical in
/-- [x for x in ts if test], where the test never holds -/
noncomputable def fLcT (fa : M Vl) (iv : Nat) (ft : M Bool) : M Vl := bnd fa fun x s => match x with
  | .c j => (match s.ce[j]? with
    | some (.tl ts) => if s.sl[iv]? = some none ∧ ∀ t ∈ ts, ∃ s', ft ⟨s.sl.set iv (some (.c s.ce.length)), s.ce ++ [.th t]⟩ = .ok false s' ∧ cutC s.ce.length s'.ce = s.ce then .ok (.d (.list [])) s else .no
    | _ => .no)
  | _ => .no
theorem fCatT_at {fa fb : M Vl} {s s1 s2 : S} {i j : Nat} {a b : List Th} (h1 : fa s = .ok (.c i) s1) (h2 : fb s1 = .ok (.c j) s2) (e1 : s2.ce[i]? = some (.tl a)) (e2 : s2.ce[j]? = some (.tl b)) (hl : a.length + b.length ≤ 1000000) : fCatT fa fb s = .ok (.c s2.ce.length) ⟨s2.sl, s2.ce ++ [.tl (a ++ b)]⟩ := by
  simp only [fCatT, bnd, h1, h2, e1, e2]
  rw [if_pos hl]
theorem fLcT_at {fa : M Vl} {iv : Nat} {ft : M Bool} {s s1 : S} {j : Nat} {ts : List Th} (h1 : fa s = .ok (.c j) s1) (e1 : s1.ce[j]? = some (.tl ts)) (hi : s1.sl[iv]? = some none) (h : ∀ t ∈ ts, ∃ s', ft ⟨s1.sl.set iv (some (.c s1.ce.length)), s1.ce ++ [.th t]⟩ = .ok false s' ∧ cutC s1.ce.length s'.ce = s1.ce) :
    fLcT fa iv ft s = .ok (.d (.list [])) s1 := by
  simp only [fLcT, bnd, h1, e1]
  rw [if_pos ⟨hi, h⟩]
section
variable {mg : Str → Option Value} {W : WX} {B : Bd mg} {σ : St} {H Hi : Hp} {as : List Addr} {s : S}
variable {ta tb : TE} {fa fb : M Vl}
theorem relTh_mono {Hi Hi' : Hp} (e : Same Hi Hi') {vs : List V} {ts : List Th} (h : Paired (RelTh Hi) vs ts) : Paired (RelTh Hi') vs ts := paired_mono (fun _ _ q => RelTh.mono q e) h
theorem se_catT (ha : SE mg W ta fa) (hb : SE mg W tb fb) : SE mg W (tOp rCat ta tb) (fCatT fa fb) := fun B σ H Hi as s Q rp w => by
  refine two ha hb rp w fun x y s2 H2 Hi2 as2 u v r2 e2 p2 hu hv w2 => ?_
  cases hu with
  | d _ => exact w2.elim
  | @c a i ha1 =>
  cases hv with
  | d _ => exact w2.elim
  | @c b j hb1 =>
  simp only at w2
  split at w2
  case h_2 => exact w2.elim
  case h_1 xs ys h1 h2 =>
  split at w2
  case isFalse => exact w2.elim
  case isTrue hn =>
  obtain ⟨vs, a1, a2⟩ := r2.cel i a _ ha1 h1
  obtain ⟨ws, b1, b2⟩ := r2.cel j b _ hb1 h2
  refine ⟨a, b, vs, ws, rfl, rfl, r2.lst a1, r2.lst b1, by rw [Paired.length a2, Paired.length b2]; exact le_line hn, fun p hp => ?_⟩
  have r3 := r2.addI (o := .lst (vs ++ ws)) (p := p) hp
  have sm : Same Hi2 (upd Hi2 p (.lst (vs ++ ws))) := same_new (r2.fresh hp)
  have r4 := r3.pushD (a := p) (c := .tl (xs ++ ys)) rfl ⟨vs ++ ws, upd_same, paired_app (relTh_mono sm a2) (relTh_mono sm b2)⟩
  refine w2 _ _ _ r4 (e2.trans sm) (p2.trans (List.prefix_append _ _)) _ (.c ?_)
  rw [← r2.lea, List.getElem?_append_right (Nat.le_refl _), Nat.sub_self]
  rfl
theorem se_lcT {K : PySem.W.Frag} {iv : Nat} {tt : TT} {te : TE} {ft : M Bool} (ha : SE mg W ta fa) (ht : ST mg WF tt ft) : SE mg W (tLc (fun σ H R => iList K ta σ H R ∨ iTup K ta σ H R) (gName iv) tt te [iv]) (fLcT fa iv ft) := fun B σ H Hi as s Q rp w => by
  refine .inl (ha B σ H Hi as s _ rp (wp_mono (wp_bnd w) (fun x s1 w1 => ?_) fun _ _ z => z))
  intro H1 Hi1 as1 r1 e1 p1 v hv
  cases hv with
  | d _ => exact w1.elim
  | @c a j hj =>
  simp only at w1
  split at w1
  case h_2 => exact w1.elim
  case h_1 ts hts =>
  split at w1
  case isFalse => exact w1.elim
  case isTrue hc =>
  obtain ⟨hsi, hask⟩ := hc
  obtain ⟨vs, ha1, hvs⟩ := r1.cel j a _ hj hts
  have hle : vs.length = ts.length := Paired.length hvs
  refine ⟨a, rfl, ⟨vs, .inl (.inl (r1.lst ha1))⟩, fun D hD => ?_⟩
  have HiD : Hi1 D = none := r1.fresh hD
  have hsl : ∀ (k : Nat) (x : Vl), s1.sl[k]? = some (some x) → (L2.wipe σ [iv])[k]? = σ[k]? := fun k x e => by
    have : k ≠ iv := fun z => by rw [z, hsi] at e; cases e
    simp only [L2.wipe]
    rw [List.getElem?_set_ne (Ne.symm this)]
  refine ⟨fun i m H2 => m + i = vs.length ∧ ∃ Hi2, H2 D = some (.lst []) ∧ Hi2 D = none ∧ Rep B (L2.wipe σ [iv]) (era H2 D) Hi2 as1 s1 ∧ Same Hi1 Hi2, ⟨vs.length, rfl, Hi1, upd_same, HiD, ?_, Same.refl _⟩, ?_⟩
  · have ee : era (upd H1 D (.lst [])) D = H1 := by
      funext b
      by_cases z : b = D
      · subst z; rw [era_same, hD]
      · rw [era_ne z, upd_ne z]
    rw [ee]
    exact r1.resl (by simp [L2.wipe]) hsl
  · rintro i m H2 ⟨hm, Hi2, hDa, hHiD, r2, e2⟩
    have r2' : Rep B (L2.wipe σ [iv]) H2 Hi2 as1 s1 := by
      have := r2.add (o := .lst []) (p := D) era_same
      rw [upd_era hDa] at this
      exact this
    have hDA : D ∉ aliveA as1 s1.ce := fun z => by
      obtain ⟨j, c, h1, h2, h3⟩ := mem_aliveA.mp z
      exact (r2.cel j D c h1 h2).ne_new h3 era_same rfl
    have rb := r2'.enter
    have keepD : ∀ {σ' : St} {H' Hi' : Hp} {as' : List Addr} {s' : S}, Rep (B.sub H2 Hi2 as1 s1.ce) σ' H' Hi' as' s' → H' D = some (.lst []) ∧ Hi' D = none := fun {σ' H' Hi' as' s'} r => by
      refine ⟨?_, ?_⟩
      · have q : HL [] H' D (.lst []) := r.fr D _ hDa hDA
        unfold HL at q
        rw [if_neg (by simp)] at q
        exact q
      · cases z : Hi' D with
        | none => rfl
        | some o =>
          rcases r.hin D o z with q | q | q | q
          · have q' : Hi2 D = some o := q
            rw [hHiD] at q'; cases q'
          · have q' : H2 D = none := q
            rw [hDa] at q'; cases q'
          · exact absurd q hDA
          · obtain ⟨vs', rfl⟩ := q
            have h' := r.tup z
            have q : HL [] H' D (.lst []) := r.fr D _ hDa hDA
            unfold HL at q
            rw [if_neg (by simp), h'] at q
            cases q
    have sq : SqL K H2 a vs := .inl (.inl (r2'.lst (e2 _ _ ha1)))
    cases hn : vs[i]? with
    | none =>
      have ln : vs.length ≤ i := List.getElem?_eq_none_iff.mp hn
      refine .inl ⟨⟨_, sq, ln⟩, ?_⟩
      have r4 : Rep B σ (era H2 D) Hi2 as1 s1 := r2.resl (by simp [L2.wipe]) fun k x e => (hsl k x e).symm
      have r5 := r4.addI (o := .lst []) (p := D) era_same
      rw [upd_era hDa] at r5
      have sm : Same Hi2 (upd Hi2 D (.lst [])) := same_new hHiD
      exact w1 H2 _ as1 r5 (e1.trans (e2.trans sm)) p1 _ (.d (.lst upd_same .nil))
    | some x =>
      have hlt := lt_of_get hn
      refine .inr ⟨⟨vs, x, sq, hn⟩, fun H' => ∃ Hi2, H' D = some (.lst []) ∧ Hi2 D = none ∧ Rep B (L2.wipe σ [iv]) (era H' D) Hi2 as1 s1 ∧ Same Hi1 Hi2, fun H' z => ⟨m - 1, by omega, by omega, z⟩, ?_⟩
      rintro x' H3 ⟨rfl, hx'⟩
      have := hx' vs sq
      rw [hn] at this
      cases this
      obtain ⟨t, htm, hth⟩ := pair_get hvs hn
      obtain ⟨s', q1, q2⟩ := hask t (List.mem_of_getElem? htm)
      have hx2 := RelTh.mono hth e2
      obtain ⟨f, hf⟩ : ∃ f, x = V.ref f := ⟨_, hx2.choose_spec.choose_spec.choose_spec.choose_spec.choose_spec.1⟩
      subst hf
      have rp := rb.pushD (a := f) (c := .th t) rfl hx2
      have rs : Rep (B.sub H3 Hi2 as1 s1.ce) ((L2.wipe σ [iv]).set iv (some (V.ref f))) H3 Hi2 (as1 ++ [f]) ⟨s1.sl.set iv (some (.c s1.ce.length)), s1.ce ++ [.th t]⟩ := by
        refine ⟨rp.sub, rp.lkd, rp.fr, rp.hin, rp.new, ?_, fun k y e => ?_, rp.lea, rp.cel, rp.inj⟩
        · have := rp.len
          rw [List.length_set]
          show _ = (s1.sl.set iv _).length
          rw [List.length_set]
          exact this
        · have e : (s1.sl.set iv (some (.c s1.ce.length)))[k]? = some (some y) := e
          by_cases hk : k = iv
          · subst hk
            rw [List.getElem?_set_self (lt_of_get hsi)] at e
            cases e
            refine ⟨.ref f, ?_, .c ?_⟩
            · have l1 : k < (L2.wipe σ [k]).length := by
                have l2 : (L2.wipe σ [k]).length = s1.sl.length := rb.len
                rw [l2]
                exact lt_of_get hsi
              rw [List.getElem?_set_self l1]
            · have l3 : as1.length = s1.ce.length := rb.lea
              rw [← l3, List.getElem?_append_right (Nat.le_refl _), Nat.sub_self]
              rfl
          · rw [List.getElem?_set_ne (Ne.symm hk)] at e ⊢
            exact rp.slo k y e
      refine ⟨by simp [L2.wipe], ht _ _ _ _ _ _ _ rs ?_⟩
      have w4 : wpR (ft ⟨s1.sl.set iv (some (.c s1.ce.length)), s1.ce ++ [.th t]⟩) (fun b s5 => b = false ∧ s5 = s') (fun _ _ => False) := by rw [q1]; exact ⟨rfl, rfl⟩
      refine wp_mono w4 (fun b s6 ⟨hb, hs6⟩ => ?_) fun _ _ z => z.elim
      subst hb hs6
      intro H6 Hi6 as6 r6 e6 p6
      show ∃ Hi2, H6 D = some (.lst []) ∧ Hi2 D = none ∧ Rep B (L2.wipe σ [iv]) (era H6 D) Hi2 as1 s1 ∧ Same Hi1 Hi2
      obtain ⟨k1, k2⟩ := keepD r6
      have E6 : Same Hi2 Hi6 := e6
      have P6 : as1 <+: as6 := (List.prefix_append _ _).trans p6
      have la : as1.length = s1.ce.length := rb.lea
      have rt := r6.nil.takeC (n := s1.ce.length) (by rw [← la]; exact P6.length_le)
      rw [q2] at rt
      have ea : as6.take s1.ce.length = as1 := by
        obtain ⟨tl, rfl⟩ := P6
        rw [← la, List.take_left]
      rw [ea] at rt
      have rn : Rep (B.sub H3 Hi2 as1 s1.ce) (L2.wipe σ [iv]) H6 Hi6 as1 s1 := rt.slots rb.len fun k y e => by
        obtain ⟨u, z1, z2⟩ := rb.slo k y e
        exact ⟨u, z1, z2.mono E6 (List.prefix_refl _)⟩
      have rc : Rep B (L2.wipe σ [iv]) H6 Hi6 as1 s1 := r2'.leave rn
      refine ⟨Hi6, k1, k2, rc.era k2 (r2.fresh0 era_same) fun j c h1 h2 => ?_, e2.trans E6⟩
      cases al : c.alive with
      | false => rfl
      | true =>
        rcases rn.new j D c h1 h2 al with q | q
        · exact absurd q hDA
        · have q' : H3 D = none := q
          rw [hDa] at q'; cases q'
end
/-! ### a statement that never lets the next one run -/
section
variable {X : Cx} {st : Stmt} {rest : List Stmt} {t : TS}
theorem pss_stop (h1 : PS X st t) : PSs X (st :: rest) (fun D σ H => t { nx := fun _ _ => False, rt := D.rt } σ H) := by
  refine ⟨fun pins s σ H D I h => ?_⟩
  refine wpAny_execs_cons (thn (h1.run pins s σ H _ I h) fun f s1 q => ?_)
  cases f with
  | next => obtain ⟨_, _, _, q⟩ := q; exact q.elim
  | ret v => exact q
  | brk => obtain ⟨_, _, _, q⟩ := q; exact q.elim
  | cont => obtain ⟨_, _, _, q⟩ := q; exact q.elim
end
/-- only what hands back or raises -/
def fStop (f : M Fl) : M Fl := fun s => match f s with
  | .ok (.rt v) s' => .ok (.rt v) s'
  | .ex e s' => .ex e s'
  | _ => .no
theorem ss_stop {mg : Str → Option Value} {W : WX} {t : TS} {f : M Fl} (h : SS mg W t f) : SS mg W (fun D σ H => t { nx := fun _ _ => False, rt := D.rt } σ H) (fStop f) := fun B σ H Hi as s Dn rp w => by
  refine h B σ H Hi as s _ rp ?_
  unfold fStop at w
  cases hf : f s with
  | no => rw [hf] at w; exact w
  | ex e s' => rw [hf] at w; exact w
  | ok fl s' =>
    rw [hf] at w
    cases fl with
    | nx => exact w.elim
    | bk => exact w.elim
    | ct => exact w.elim
    | rt v => exact w
end DL

end DLsec_104

section DLsec_105
set_option maxRecDepth 100000
set_option maxHeartbeats 1000000
/-! k06: except of six classes and another clause; a maker's lambdas; a law over made lists with tables -/
namespace PySem.W
open PySem PySem.Spec PySem.Calls PyProof.Rows
section
variable {M : Model} {K : Frag}
theorem exm_tup6 {c1 c2 c3 c4 c5 c6 cls : Value} {tp e : Addr} {b3 b4 b5 b6 : Bool} {h : Heap} (X : K.In h) (LT : Looks M h (typeOf (.ref e)) cls) (hp : h.get? tp = some { cls := .type "tuple", data := .seq [c1, c2, c3, c4, c5, c6].toArray })
    (x1 : exmOne K cls c1 = some false) (x2 : exmOne K cls c2 = some true) (x3 : exmOne K cls c3 = some b3) (x4 : exmOne K cls c4 = some b4) (x5 : exmOne K cls c5 = some b5) (x6 : exmOne K cls c6 = some b6) : Looks M h (excMatches (.ref e) (.ref tp)) true := by
  intro A Q E s k₀ q
  obtain ⟨hh, g, d, tk, os⟩ := s
  have k : ∀ b o, h.get? b = some o → hh.get? b = some o := k₀
  have LT0 : Looks M h (isInstance (.ref tp) (.type "tuple")) true := ((Looks.ld hp).andThen .now).andThen (Looks.of_pure isSubtype_tuple_tuple)
  have e1 := (exm_cls (M := M) X x1).1.keeps k
  have S1 := (exm_cls (M := M) X x1).2.keeps k
  have e2 := (exm_cls (M := M) X x2).1.keeps k
  have S2 := (exm_cls (M := M) X x2).2.keeps k
  have e3 := (exm_cls (M := M) X x3).1.keeps k
  have e4 := (exm_cls (M := M) X x4).1.keeps k
  have e5 := (exm_cls (M := M) X x5).1.keeps k
  have e6 := (exm_cls (M := M) X x6).1.keeps k
  have LT := LT.keeps k
  have LT0 := LT0.keeps k
  have hp' := k _ _ hp
  unfold excMatches
  refine wpAny_bind (LT0.at ?_)
  dsimp only
  rw [if_pos rfl]
  first
    | refine wpAny_bind (wpAny_seqItems hp' rfl ?_)
    | refine wpAny_bind (wpAny_bind (wpAny_seqItems hp' rfl (wpAny_pure ?_)))
  dsimp only [Option.getD_some, Option.getD]
  ((repeat (first | simp only [List.forIn_cons, List.forIn_nil, Bool.not_true, Bool.false_eq_true, if_false, if_true] | lk)); exact q)
end
end PySem.W
namespace DL
open PySem PySem.Spec PyProof.Rows L2
/-- the second of six classes -/
def exm6 (K : PySem.W.Frag) (c1 c2 c3 c4 c5 c6 : Value) : Value → Option Bool := fun cls => match PySem.W.exmOne K cls c1, PySem.W.exmOne K cls c2, PySem.W.exmOne K cls c3, PySem.W.exmOne K cls c4, PySem.W.exmOne K cls c5, PySem.W.exmOne K cls c6 with
  | some false, some true, some _, some _, some _, some _ => some true
  | _, _, _, _, _, _ => none
theorem exm6_no {K : PySem.W.Frag} {c1 c2 c3 c4 c5 c6 : Value} (cls : Value) : exm6 K c1 c2 c3 c4 c5 c6 cls ≠ some false := by
  unfold exm6
  split <;> intro h <;> cases h
theorem exm6_yes {K : PySem.W.Frag} {c1 c2 c3 c4 c5 c6 cls : Value} {b3 b4 b5 b6 : Bool} (x1 : PySem.W.exmOne K cls c1 = some false) (x2 : PySem.W.exmOne K cls c2 = some true) (x3 : PySem.W.exmOne K cls c3 = some b3) (x4 : PySem.W.exmOne K cls c4 = some b4) (x5 : PySem.W.exmOne K cls c5 = some b5) (x6 : PySem.W.exmOne K cls c6 = some b6) : exm6 K c1 c2 c3 c4 c5 c6 cls = some true := by
  unfold exm6
  rw [x1, x2, x3, x4, x5, x6]
theorem test_tup6 {X : Cx} {x1 x2 x3 x4 x5 x6 : Str} {c1 c2 c3 c4 c5 c6 : Value} {p1 p2 p3 p4 p5 p6 tpos : Pos} {kk : Nat} (n1 : Names X x1 c1) (n2 : Names X x2 c2) (n3 : Names X x3 c3) (n4 : Names X x4 c4) (n5 : Names X x5 c5) (n6 : Names X x6 c6) :
    TestK X (.Tuple [.Name x1 p1, .Name x2 p2, .Name x3 p3, .Name x4 p4, .Name x5 p5, .Name x6 p6] kk tpos) (exm6 X.K c1 c2 c3 c4 c5 c6) := fun a ob vs pn σ G s b I hd hb {Q E} q => by
  obtain ⟨hget, _⟩ := I.pin (a, ob) (List.mem_append_left _ List.mem_cons_self)
  have LT : PySem.W.Looks (model X.prog X.w) s.heap (typeOf (.ref a)) ob.cls := fun A' Q' E' s' k z => wpAny_typeOf_ref (k _ _ hget) z
  refine wpAny_Tuple (wpAny_items_cons (nm_load n1 I (wpAny_items_cons (nm_load n2 I (wpAny_items_cons (nm_load n3 I (wpAny_items_cons (nm_load n4 I (wpAny_items_cons (nm_load n5 I (wpAny_items_cons (nm_load n6 I (wpAny_items_nil ⟨by size_fits, ?_⟩)))))))))))))
  have kp : ∀ (z : Addr) (o : Obj), s.heap.get? z = some o → (s.heap.push { cls := .type "tuple", data := .seq [c1, c2, c3, c4, c5, c6].toArray }).get? z = some o := fun _ _ e => Heap.get?_push_of_some _ e
  unfold exm6 at hb
  split at hb
  case h_2 => cases hb
  case h_1 h1 h2 h3 h4 h5 h6 =>
  cases hb
  exact (PySem.W.exm_tup6 (I.kIn.keeps kp) (LT.keeps kp) (Heap.get?_push_size s.heap rfl) h1 h2 h3 h4 h5 h6).here (q _ kp)
section
variable {X : Cx} {te : Expr} {n m : Str} {f : Value → Option Bool} {i j : Nat} {body : List Stmt} {mp np2 ap pos pos' : Pos} {tb : WX → TS} {Wout : WX}
theorem ps_tryR {rest : List ExceptHandler} (hno : ∀ cls, f cls ≠ some false) (hs : X.stack = X.env :: X.outer) (hf : X.env.frame = some X.env.locals) (hex : X.ex = []) (hN : X.N.Nodup) (hi : X.N[i]? = some n) (hln : X.env.kindOf n = some .local) (hte : TestK X te f) (tk : Takes X Wout)
    (hb : ∀ (W : WX) (pn : List (Addr × Obj)) (xe : Value → Shared → Prop), Takes (X.tr pn xe) W → PassesOwn (model X.prog X.w) X.A X.env xe → PSs (X.tr pn xe) body (tb W))
    (hsu : ∀ (a : Addr) (ob : Obj) (pn : List (Addr × Obj)), PSs (X.suite a ((a, ob) :: pn)) [.Assign [.Name m mp] (.Name n np2) ap] (tAsg (tVar i) (gName j))) (hij : i ≠ j) :
    PS X (.Try body (.ExceptHandler (some te) (some n) [.Assign [.Name m mp] (.Name n np2) ap] pos' :: rest) [] [] pos) (fun Dn σ G => tb (wKp X.K f i j Wout Dn) Dn σ G) := by
  refine ⟨fun pins s σ G Dn I h => ?_⟩
  have okX := I.ok
  have frm : X.A.frames = some (X.env :: X.outer) := by rw [okX.frames, hs]
  have nloc : Loc X.env.scope n := .inl hln
  refine wpAny_Try_except ?_
  have cat : Takes (X.tr (X.pn ++ pins) (fun e s1 => wpAny (model X.prog X.w) X.A (noteFrame e X.env) (fun _ s2 => wpAny (model X.prog X.w) X.A (setFlight e none) (fun _ s3 =>
      wpAny (model X.prog X.w) X.A (handleBy e X.env (.ExceptHandler (some te) (some n) [.Assign [.Name m mp] (.Name n np2) ap] pos' :: rest)) (SP X pins Dn) X.xe s3) X.xe s2) X.xe s1)) (wKp X.K f i j Wout Dn) := by
    intro u s' air
    obtain ⟨a, Bh, sI, pins', σ', G', cls, d, rfl, J0, nb, up, sky, na, hos, ag, b, hb1, yes, no⟩ := air
    have J : Inv X pins σ' G' sI := J0.ofTry okX
    have sky2 : Sky Bh (X.env :: X.outer) a (Zc cls d) X.env.locals s'.heap := by rw [← hs]; exact sky
    show wpAny (model X.prog X.w) X.A (noteFrame (.ref a) X.env) _ _ _
    refine Sky.land Zc.steady frm hf sky2 fun h3 fl up3 => ?_
    have J3 : Inv X pins σ' G' { s' with heap := h3 } := J.landed nb fl.1 (up.trans up3) hos ag
    obtain ⟨o3, v3, g3, z3, d3⟩ := fl.there
    have noframe : a ∉ frs (X.env :: X.outer) := fun hm => by
      obtain ⟨_, o', e', hnf⟩ := fl.2.2.1.mem hm
      rw [g3] at e'
      cases e'
      exact hnf _ d3
    have neL : a ≠ X.env.locals := fun z => noframe (List.mem_filterMap.mpr ⟨X.env, List.mem_cons_self, by rw [hf, z]⟩)
    have neF : a ∉ X.fs := fun hm => by
      obtain ⟨e, he, q⟩ := List.mem_filterMap.mp hm
      exact noframe (List.mem_filterMap.mpr ⟨e, List.mem_cons_of_mem _ he, q⟩)
    have fresh : ∀ {c : Addr} {o : Obj}, sI.heap.get? c = some o → c ≠ a := fun {c o} e z => by
      subst z
      have q := nb c o e (by rw [hs]; exact noframe)
      rw [fl.2.1] at q
      cases q
    have new0 : X.s_0.heap.get? a = none := by
      cases q : X.s_0.heap.get? a with
      | none => rfl
      | some o =>
        obtain ⟨o', e⟩ := J.base.there a o q (by rw [hex]; simp)
        exact absurd rfl (fresh e)
    have nopin : ∀ p ∈ X.pn ++ pins, p.1 ≠ a := fun p hp => fresh (J.pin p hp).1
    have S3 := J3.suite g3 d3 na neL neF
    refine wpAny_handleBy_cons (codeAny_handlers_test ?_) (by intro q; cases q)
    refine hte a o3 v3 (X.pn ++ pins) σ' G' _ b S3 d3 (by rw [z3.1]; exact hb1) fun h9 kp => ?_
    have up9 := up3.trans (keep_up kp)
    clear S3
    replace fl := keep_fly kp fl
    replace up3 := up9
    cases b with
    | true =>
      refine codeAny_handlers_suite_as (HandSPX.lands_againZ fl fun h4 fl4 up4 => ?_)
      have J4 : Inv X pins σ' G' { s' with heap := h4 } := J.landed nb fl4.1 ((up.trans up3).trans up4) hos ag
      obtain ⟨o4, v4, g4, z4, d4⟩ := fl4.there
      have S4 := J4.suite g4 d4 na neL neF
      refine store_ok (X := X.suite a ((a, o4) :: (X.pn ++ pins))) (v := .ref a) S4 hN hi nloc rfl (fun s5 S5 => ?_) (.inr hln)
      have hlen : i < σ'.length := by
        have e1 := J.len
        have e2 := (List.getElem?_eq_some_iff.mp hi).1
        omega
      refine wpAny_mono ((hsu a o4 (X.pn ++ pins)).run [] s5 _ G' ⟨fun σ6 G6 => σ6 = (σ'.set i (some (.ref a))).set j (some (.ref a)) ∧ G6 = G', fun _ _ => False, fun _ _ => False, fun _ _ => False⟩ S5 ⟨.ref a, by rw [List.getElem?_set_self hlen], rfl, rfl⟩) (fun fl6 s6 q6 => ?_) (fun _ _ z => z.elim)
      cases fl6 with
      | next =>
        obtain ⟨σ6, G6, S6, rfl, rfl⟩ := q6
        refine gone_ok (X := X.suite a ((a, o4) :: (X.pn ++ pins))) S6 hN hi hln fun s7 S7 => ?_
        obtain ⟨p1, p2, _⟩ := S7.pin (a, o4) (List.mem_append_left _ List.mem_cons_self)
        exact ⟨_, _, (S7.unsuite okX).keepX new0 p2 neL p1 z4.1 z4.2 d4 nopin, yes rfl a na⟩
      | brk => obtain ⟨_, _, _, z⟩ := q6; exact z.elim
      | cont => obtain ⟨_, _, _, z⟩ := q6; exact z.elim
      | ret u => obtain ⟨_, _, _, _, _, z⟩ := q6; exact z.elim
    | false => exact absurd hb1 (hno _)
  refine wpAny_mono ((hb _ _ _ cat PassesOwn.looking).run [] s σ G Dn (I.toTry _) h) (fun fl s1 q => ?_) (fun e s1 q => q)
  cases fl with
  | next => obtain ⟨σ1, G1, J1, q1⟩ := q; exact wpAny_execs_nil ⟨σ1, G1, J1.ofTry okX, q1⟩
  | brk => obtain ⟨σ1, G1, J1, q1⟩ := q; exact ⟨σ1, G1, J1.ofTry okX, q1⟩
  | cont => obtain ⟨σ1, G1, J1, q1⟩ := q; exact ⟨σ1, G1, J1.ofTry okX, q1⟩
  | ret u => obtain ⟨v, σ1, G1, J1, r1, q1⟩ := q; exact ⟨v, σ1, G1, J1.ofTry okX, r1, q1⟩
end
/-! ### a maker's lambda -/
section
variable {X : Cx}
theorem pe_lamVt {qn : Str} {c P : Addr} {ar : Arguments} {e : Expr} {sc : Scope} {lp : Pos} (hq : X.env.qual = qn) (tbl : LamX.TabB X.base X.mg c P) (own : X.env.code = .ref c) (L : LamX.LamS X.env.scope sc) (hdf : defaultsOf ar X.env = ([], [])) :
    PE X (.Lambda ar e sc lp) (tLamV P (qn ++ "<lambda>") (thO (qn ++ "<lambda>") ar e sc X.env.cells)) := by
  subst hq
  exact pe_lamV tbl own L hdf
end
/-- all lambdas that may be asked -/
inductive LamsGood (X : Cx) (k : Nat) : List (LamD × (XK → TE)) → Prop
  | nil : LamsGood X k []
  | cons {p : LamD} {t : XK → TE} {r : List (LamD × (XK → TE))} : LamGood X k p t → LamsGood X k r → LamsGood X k ((p, t) :: r)
theorem LamsGood.all {X : Cx} {k : Nat} : ∀ {l : List (LamD × (XK → TE))}, LamsGood X k l → ∀ p ∈ l, LamGood X k p.1 p.2
  | _, .cons h r, p, hp => by
    rcases List.mem_cons.mp hp with z | z
    · rw [z]; exact h
    · exact r.all p z
/-- no name of its own, captured ones apart -/
def thB (sc : Scope) : Bool := decide (sc.kind = .function) && !sc.isCoroutine && !sc.isGenerator && (sc.names.all fun y => !decide (y.2 = .local) && !decide (y.2 = .cell)) && decide ((sc.names.map (·.1)).Nodup)
theorem lamGood_by {X : Cx} {k : Nat} {p : LamD} {t : XK → TE} (h : thB p.sc = true) (none0 : ∀ (q : Str) (cl : List (Str × Addr)) (u d v : Value), bindArgs (PySem.W.kla_fn "<lambda>" q p.ar p.e p.sc cl u d v) ⟨[], []⟩ = pure [])
    (der : ∀ (C : List (Str × Addr)) (A : Around) (out : List Env) (z : Shared) (G : Hp) (E : XK) (f d : Addr), A.guards = some [] → Room k (A.deeper (LamX.lamEnv (thx X p C) p.sc z.heap.objs.size f d)) → PE (LamX.lamCx (thx X p C) A out z G E p.sc f d) p.e (t E)) : LamGood X k p t := by
  unfold thB at h
  simp only [Bool.and_eq_true, Bool.not_eq_true', decide_eq_true_eq, decide_eq_false_iff_not, List.all_eq_true] at h
  obtain ⟨⟨⟨⟨h1, h2⟩, h3⟩, h4⟩, h5⟩ := h
  exact ⟨h1, h2, h3, h4, h5, none0, der⟩
theorem pe_askTs {X : Cx} {W : WX} {k i : Nat} {a : Str} {tab : List (LamD × (XK → TE))} {p1 p2 : Pos} (tk : Takes X W) (room : Room (k + 1) X.A) (gd : X.A.guards = some []) (nm : X.N[i]? = some a) (vis : Vis X.env.scope a) (good : LamsGood X k tab)
    (n1 : (a == ("__debug__" : Str)) = false := by decide) (n2 : (a == ("__classdict__" : Str)) = false := by decide) : PE X (.Call (.Name a p1) [] [] p2) (tAskT W i tab) := pe_askT tk room gd nm vis good.all n1 n2
def ndB (tab : List LamD) : Bool := tab.all fun p => decide ((p.sc.names.map (·.1)).Nodup)
theorem se_askTs {mg : Str → Option Value} {W : WX} {i : Nat} {ts : List (LamD × (XK → TE))} {fs : List (LamD × M Vl)} (good : ndB (ts.map (·.1)) = true) (h : Paired (fun (p : LamD × (XK → TE)) (q : LamD × M Vl) => p.1 = q.1 ∧ ∀ E : XK, SE mg (fun cls o _ G => E cls o G) (p.2 E) q.2) ts fs) :
    SE mg W (tAskT W i ts) (fAskT i fs) := se_askT (fun p hp => by
      unfold ndB at good
      rw [List.all_eq_true] at good
      exact of_decide_eq_true (good p.1 (List.mem_map_of_mem hp))) h
end DL

end DLsec_105

section DLsec_106
set_option maxRecDepth 100000
set_option maxHeartbeats 1000000
/-! a law over made lists, with tables -/
namespace DL
open PySem PySem.Spec PyProof.Rows L2
end DL

end DLsec_106

section DLsec_107
set_option maxRecDepth 100000
set_option maxHeartbeats 1000000
/-! list(g(..)), where the generator raises when its first item is asked for -/
namespace DL
open PySem PySem.Spec PyProof.Rows L2
/-- a def that raises -/
def mkR (ar n : Nat) (body : M Fl) : FD := fun xs cs => if xs.length = ar then (match body ⟨xs.map some ++ List.replicate (n - ar) none, cs⟩ with
  | .ex e s => .ex e (cutC cs.length s.ce)
  | _ => .no) else .no
theorem fsp_lenR {mg : Str → Option Value} {ar n : Nat} {body : M Fl} {vs : List V} {H : Hp} {Q : VK} {E : XK} (h : FSp mg (mkR ar n body) vs H Q E) : vs.length = ar := by
  obtain ⟨Hi, as, xs, cs, lk, r, w⟩ := h
  unfold mkR at w
  split at w
  · rename_i e
    have := r.len
    simp at this
    omega
  · exact w.elim
theorem fn_endR {mg : Str → Option Value} {N : List Str} {ar : Nat} {t : TS} {body : M Fl} {vs : List V} {H : Hp} {Q : VK} {E : XK} (hs : SS mg (fun cls d _ H => E cls d H) t body) (h : FSp mg (mkR ar N.length body) vs H Q E) (D : Ends) : t D (L2.start N vs) H := by
  have hl := fsp_lenR h
  obtain ⟨Hi, as, xs, cs, lk, r, w⟩ := h
  have hx : xs.length = ar := by have := r.len; simp at this; omega
  unfold mkR at w
  rw [if_pos hx] at w
  have r0 := r.names (N.length - ar)
  have es : L2.start N vs = vs.map some ++ List.replicate (N.length - ar) none := by unfold L2.start; rw [hl]
  rw [es]
  refine hs _ _ H Hi as _ _ r0 ?_
  have hlen : as.length = cs.length := r.lea
  show wpR (body ⟨xs.map some ++ List.replicate (N.length - ar) none, cs⟩) _ _
  have tk : ∀ {σ' : St} {H' Hi' : Hp} {as' : List Addr} {s' : S}, Rep (mg := mg) ⟨H, Hi, aliveA as cs, lk, []⟩ σ' H' Hi' as' s' → as <+: as' → Rep (mg := mg) ⟨H, Hi, aliveA as cs, lk, []⟩ [] H' Hi' as ⟨[], cutC cs.length s'.ce⟩ := fun {σ' H' Hi' as' s'} r' p => by
    have q := r'.takeC (n := cs.length) (by rw [← hlen]; exact p.length_le)
    have e : as'.take cs.length = as := by
      obtain ⟨t, rfl⟩ := p
      rw [← hlen]
      simp
    rw [e] at q
    exact q
  cases eb : body ⟨xs.map some ++ List.replicate (N.length - ar) none, cs⟩ with
  | no => rw [eb] at w; exact w
  | ok fl s' => rw [eb] at w; exact w.elim
  | ex e s' =>
    rw [eb] at w
    intro σ' H' Hi' as' r' e' p' cls d hx
    exact w cls d H' Hi' as (tk r' p') e' (List.prefix_refl _) hx
section
variable {P : Program} {w : World} {K : PySem.W.Frag} {mg : Str → Option Value} {base : Heap}
/-- a def that asks for no repr -/
theorem _root_.L2.Fun.okC {x qual : Str} {st : Stmt} {f : Addr} {fd : FuncData} {N ps : List Str} {k : Nat} {sp : Sp} (F : Fun K x qual st f fd) (S : FnScope N ps (defScope st)) (len : ∀ us G Q E, sp us G Q E → us.length = ps.length)
    (hbody : ∀ (cdv : Value) (A : Around) (out : List Env) (s : Shared) (G : Hp) (vs : List V) (Q : VK) (E : XK), Room k (A.deeper (envOfC qual (defScope st) s.heap.objs.size f cdv)) → sp vs G Q E →
      ∃ t, PSs (cxOf (L2.CX P w) P w K mg base N qual (defScope st) f cdv A out s G E) (defBody st) t ∧ t { nx := fun _ G' => Q .non G', rt := Q } (L2.start N vs) G) : FnOk P w K mg base (L2.CX P w) (k + 1) f fd ps sp := by
  obtain ⟨oc, od, kV, doc, pm, an, cdv, ct, osl, rfl, lk, hcd⟩ := F.ex
  refine ⟨len, fun A out s G args us vs Q E room e0 bnd rel prom => ?_⟩
  exact LamX.run_ofS (CX := L2.CX P w) (E := E) lk hcd S room e0 bnd rel (len _ _ _ _ prom) fun room' => hbody cdv A out s G vs Q E room' prom
theorem _root_.L2.Fun.okRaise {x qual : Str} {st : Stmt} {f : Addr} {fd : FuncData} {N ps : List Str} {k : Nat} {sp : Sp} (F : Fun K x qual st f fd) (S : GScope N ps (defScope st)) (len : ∀ vs H Q E, sp vs H Q E → vs.length = ps.length)
    (hbody : ∀ (cdv : Value) (A : Around) (out : List Env) (s : Shared) (H : Hp) (vs : List V) (E : XK) (pn : List (Addr × Obj)), Room k (A.deeper (envOfC qual (defScope st) s.heap.objs.size f cdv)) → sp vs H (fun _ _ => True) E →
      ∃ t, PSs (gcxOf P w K mg base N qual (defScope st) f cdv A out s H E pn) (defBody st) t ∧ ∀ D : Ends, t D (start N vs) H) : GFn P w K mg base (k + 1) f fd ps (fun vs H _ E => sp vs H (fun _ _ => True) E) := by
  obtain ⟨oc, od, kV, doc, pm, an, cdv, ct, osl, rfl, lk, hcd⟩ := F.ex
  refine gfn_of lk hcd S (fun vs H Q E h => len _ _ _ _ h) (fun A outer s H vs Q E pn hr h => ?_)
  obtain ⟨t, h1, h2⟩ := hbody cdv A outer s H vs E pn hr h
  exact ⟨_, gss_pss h1, h2 _⟩
end
theorem pe_monoE {X : Cx} {e : Expr} {t t' : TE} (h : PE X e t) (m : ∀ σ H Q, t' σ H Q → t σ H Q) : PE X e t' := ⟨fun pins s σ H Q I z => h.run pins s σ H Q I (m σ H Q z)⟩
def tListR (K : PySem.W.Frag) (sp : Sp) (E : XK) (t : TA) : TE := fun σ H _ => t σ H fun vs H1 => sp vs H1 (fun _ _ => True) fun cls d G => E cls d G ∧ PySem.W.subIn K cls (.type "StopIteration") = some false
/-- list(f(e, ..)) -/
theorem pe_listR {X : Cx} {k : Nat} {f : Addr} {fd : FuncData} {ps : List Str} {sp : Sp} {E : XK} {x nm : Str} {p p2 pos pos' : Pos} {e : Expr} {es : List Expr} {t : TA} (tk : Takes X (fun cls o _ G => E cls o G)) (F : GFn X.prog X.w X.K X.mg X.base k f fd ps (fun vs H _ E => sp vs H (fun _ _ => True) E)) (hr : Room (k + 3) X.A)
    (hg : Gl X x) (hm : X.mg x = some (.ref f)) (hk : PySem.W.keepIn X.K (.ref f) = true) (hb : Binds X.K fd ps []) (ha : PA X (e :: es) t) (hgl : Gl X nm) (hml : X.mg nm = none) (hv : bootBuiltins nm = some (.type "list")) (hnm : nm ≠ "__name__" := by decide) (hdbl : (nm == ("__debug__" : Str)) = false := by decide)
    (hdb : (x == ("__debug__" : Str)) = false := by decide) (he : starEach (e :: es) X.env = (false, eval e X.env) :: starEach es X.env := by rfl) (hpl : (backTo pos' (starEach es X.env)).any (·.1) = false := by rfl)
    (hel : starEach [.Call (.Name x p) (e :: es) [] pos'] X.env = (false, eval (.Call (.Name x p) (e :: es) [] pos') X.env) :: starEach [] X.env := by rfl) {K : PySem.W.Frag} (hK : X.K = K := by rfl) :
    PE X (.Call (.Name nm p2) [.Call (.Name x p) (e :: es) [] pos'] [] pos) (tListR K sp E t) := by
  subst hK
  have hrk : Room k X.A := hr.mono (by omega)
  refine pe_monoE (pe_listG (E := fun cls d G => E cls d G ∧ PySem.W.subIn X.K cls (.type "StopIteration") = some false) (pgen_call (E := fun cls d G => E cls d G ∧ PySem.W.subIn X.K cls (.type "StopIteration") = some false) F hrk hg hm hk hb .nil ha hdb he hpl)
    (fun pins σ H s e s' I c => passes_call tk (fun _ _ _ _ z => z.1) pins σ H s e s' I c) (fun _ _ _ z => z.2) hr hgl hml hv hnm hdbl hel) fun σ H Q z => ?_
  unfold tListR at z
  unfold tListG tCallG
  simp only [List.append_nil]
  exact z
/-- what it raises is one of ok -/
def fListR (ok : Str → Bool) (g : FD) (f : M (List Vl)) : M Vl := bnd f fun xs s => match callD g xs s with
  | .ex e s' => if ok e.cls = true then .ex e s' else .no
  | _ => .no
theorem se_listR {mg : Str → Option Value} {K : PySem.W.Frag} {E : XK} {ok : Str → Bool} {g : FD} {t : TA} {f : M (List Vl)} (hok : ∀ nm cls, ok nm = true → mg nm = some cls → PySem.W.subIn K cls (.type "StopIteration") = some false) (h : SA mg (fun cls o _ G => E cls o G) t f) :
    SE mg (fun cls o _ G => E cls o G) (tListR K (FSp mg g) E t) (fListR ok g f) := fun B σ H Hi as s Q rp w => by
  refine h B σ H Hi as s _ rp (wp_mono (wp_bnd w) (fun xs s1 w1 => ?_) fun _ _ z => z)
  intro H1 Hi1 as1 r1 e1 p1 vs hv
  refine call_d (W := fun cls o _ G => E cls o G ∧ PySem.W.subIn K cls (.type "StopIteration") = some false) (σ := σ) r1 hv ?_
  cases hc : callD g xs s1 with
  | no => rw [hc] at w1; exact w1
  | ok x s2 => rw [hc] at w1; exact w1.elim
  | ex e s2 =>
    rw [hc] at w1
    simp only at w1
    split at w1
    case isFalse => exact w1.elim
    case isTrue hk =>
    intro H' Hi' as' r' e' p' cls d hx
    exact ⟨w1 H' Hi' as' r' (e1.trans e') (p1.trans p') cls d hx, hok _ _ hk hx.1⟩
end DL

end DLsec_107

section DLsec_108
set_option maxRecDepth 100000
set_option maxHeartbeats 1000000
/-! a classmethod that refuses at once; a law that returns whether a comprehension is empty -/
namespace DL
open PySem PySem.Spec PyProof.Rows L2
/-- what a def hands back counts not: it is refused -/
def gX (g : FD) : FD := fun xs cs => match g xs cs with
  | .ex e cs' => .ex e cs'
  | _ => .no
theorem fsp_gX {mg : Str → Option Value} {g : FD} {vs : List V} {H : Hp} {Q Q' : VK} {E : XK} (h : FSp mg (gX g) vs H Q E) : FSp mg g vs H Q' E := by
  obtain ⟨Hi, as, xs, cs, lk, r, w⟩ := h
  refine ⟨Hi, as, xs, cs, lk, r, ?_⟩
  unfold gX at w
  cases e : g xs cs with
  | no => rw [e] at w; exact w.elim
  | ok z cs' => rw [e] at w; exact w.elim
  | ex z cs' => rw [e] at w; exact w
/-- .. of a class's own def: the class ahead -/
def spCm (mg : Str → Option Value) (C : Addr) (g : FD) : Sp := fun vs H Q E => match vs with
  | _ :: ws => FSp mg (gX g) ws H Q E
  | [] => False
section
variable {X : Cx} {k : Nat} {C p g : Addr} {mc : Value} {e : Expr} {es : List Expr} {x m : Str} {np pos apos : Pos} {t : TA} {pl : Sem Bool} {E : XK} {gd : FD} {mg : Str → Option Value}
theorem pe_cmK (hg : Gl X x) (hm : X.mg x = some (.ref C)) (hdb : (x == ("__debug__" : Str)) = false) (r : ClX.CRead X.K C mc) (c : ClX.CMet X.K C mc m p g) (tk : Takes X (fun cls o _ G => E cls o G)) (F : FnR X.prog X.w X.K X.mg X.base (L2.CX X.prog X.w) k g (spCm mg C gd)) (hr : Room k X.A) (ha : PA X (e :: es) t) (hmg : X.mg = mg := by rfl)
    (hst : starEach (e :: es) X.env = (false, eval e X.env) :: starEach es X.env := by rfl) (hpl : (backTo pos (starEach es X.env)).any (·.1) = false := by rfl)
    (ht : eval (.Call (.Attribute (.Name x np) m apos) (e :: es) [] pos) X.env = (do
      let ov ← eval (.Name x np) X.env
      standAt apos.atName
      let (f, first) ← holding [ov] (getMethod ov m pl)
      callWith pos f first (backTo pos (starEach (e :: es) X.env)) (backToKw pos (keywordEach [] X.env))) := by rfl) :
    PE X (.Call (.Attribute (.Name x np) m apos) (e :: es) [] pos) (tCallSD (FSp mg (gX gd)) [] (WE fun cls o _ G => E cls o G) t) :=
  ⟨fun pins s σ H Q I h => (ClX.pe_cmeth (sp := spCm mg C gd) (E := E) (pe_glob (v := .ref C) hg hm rfl (hd := hdb)) r c F hr (fun pins σ' H s e s' I c => passAt tk σ' pins H s e s' I c) ha hst hpl ht).run pins s σ H Q I (by
    unfold tCallSD at h
    simp only [List.append_nil] at h
    exact ⟨rfl, h⟩)⟩
end
section
variable {P : Program} {w : World} {K : PySem.W.Frag} {mg : Str → Option Value} {base : Heap}
theorem fnR_cmK {x qual : Str} {st : Stmt} {f : Addr} {fd : FuncData} {N : List Str} {k n : Nat} {C : Addr} {body : M Fl} (F : Fun K x qual st f fd) (S : FnScope N ["cls", "values"] (defScope st)) (hb : Binds K fd ["cls", "values"] []) (hN : 2 ≤ N.length)
    (hbody : ∀ (cdv : Value) (A : Around) (out : List Env) (s : Shared) (G : Hp) (Q : VK) (E : XK), Room k (A.deeper (envOfC qual (defScope st) s.heap.objs.size f cdv)) →
      PSs (cxOf (L2.CX P w) P w K mg base N qual (defScope st) f cdv A out s G E) (defBody st) (fun D σ H => tDrop (tCallSD (FSp mg (mkF 1 n body)) [] (WE fun cls d _ H => E cls d H) (tCons (tVar 1) tNil)) { nx := fun _ _ => False, rt := D.rt } σ H)) :
    FnR P w K mg base (L2.CX P w) (k + 1) f (spCm mg C (mkF 1 n body)) := by
  have ok : FnOk P w K mg base (L2.CX P w) (k + 1) f fd ["cls", "values"] (spCm mg C (mkF 1 n body)) := by
    refine F.okC S (fun us G Q E h => ?_) (fun cdv A out s G vs Q E hr h => ⟨_, hbody cdv A out s G Q E hr, ?_⟩)
    · match us, h with
      | y :: ws, h =>
        have := fsp_len (fsp_gX (Q' := Q) h)
        simp [this]
    · obtain ⟨y, ws, rfl, h⟩ : ∃ y ws, vs = y :: ws ∧ FSp mg (gX (mkF 1 n body)) ws G Q E := by
        match vs, h with
        | y :: ws, h => exact ⟨y, ws, rfl, h⟩
      have hl := fsp_len (fsp_gX (Q' := Q) h)
      obtain ⟨v, rfl⟩ : ∃ v, ws = [v] := by
        match ws, hl with
        | [v], _ => exact ⟨v, rfl⟩
      have h1 : (L2.start N [y, v])[1]? = some (some v) := rfl
      exact ⟨v, h1, fsp_gX (by rw [List.append_nil]; exact h)⟩
  exact FnR.imp (ok.raw hb .nil) fun vs H Q E h => by rw [List.append_nil]; exact h
end
/-- return [cell for cell in script[:k] + [0] if test] == [], with tables -/
theorem law_FT {K : PySem.W.Frag} {mg : Str → Option Value} {E : XK} {N : List Str} {ic : Nat} {k : Int} {tt : TT} {ft : M Bool} {ts : List (Addr × Str)} (hb : ST mg WF tt ft) (hi : ic < N.length) (nd : (ts.map (·.1)).Nodup)
    (step : ∀ c : Int, ∃ s', ft ⟨(List.replicate N.length none).set ic (some (.d (.int c))), tbs ts⟩ = .ok false s' ∧ ∃ tl, s'.ce = tbs ts ++ tl) {vs : List V} {G : Hp} {Q : VK} (h : spLawT K ts vs G Q E) :
    (tRet (tOp (fun x y H Q => rEq x y H Q ∨ rEqD K x y H Q) (tLc (fun σ H R => iList K (tOp rCat (tSl (rSlL K) (tVar 0) tNoPart (tPart (tC (.int k)))) (tLst (tCons (tC (.int 0)) tNil))) σ H R ∨ iTup K (tOp rCat (tSl (rSlL K) (tVar 0) tNoPart (tPart (tC (.int k)))) (tLst (tCons (tC (.int 0)) tNil))) σ H R)
        (gName ic) tt (tVar ic) [ic]) (tLst tNil))) { nx := fun _ G' => Q .non G', rt := Q } (L2.start N vs) G := by
  obtain ⟨⟨a, ns, rfl, hS, hn, q⟩, hT⟩ := h
  have hm0 : (L2.start N [.ref a]).length = N.length := by
    have h1 : 0 < N.length := by omega
    simp [L2.start]; omega
  refine .inl (cells_ofT rfl hS hn hT fun cs r G1 hcl hr hT1 => ⟨r, rfl, ⟨_, .inl (.inl hr)⟩, fun D hDn => ?_⟩)
  have hrD : r ≠ D := ne_of_none hr hDn
  refine lc_list (K := K) (a := r) (xs := cs.map V.int) (fun i H => H r = some (.lst (cs.map V.int)) ∧ H D = some (.lst []) ∧ Tabd H ts) ⟨by rw [upd_ne hrD]; exact hr, upd_same, fun p hp => ⟨#[], by rw [upd_ne (ne_of_none (hT1 p hp) hDn)]; exact hT1 p hp, tabR_nil⟩⟩
    (fun i H _ h => .inl (.inl h.1)) (fun i x H hx ⟨hr', hD', hT'⟩ => ?_) fun H ⟨hr', hD', hT'⟩ => ?_
  · rw [List.getElem?_map] at hx
    cases hc : cs[i]? with
    | none => rw [hc] at hx; cases hx
    | some c =>
      rw [hc] at hx
      cases hx
      refine ⟨?_, ?_⟩
      · show L2.wipe ((L2.wipe (L2.start N [.ref a]) [ic]).set ic (some (.int c))) [ic] = L2.wipe (L2.start N [.ref a]) [ic]
        simp [L2.wipe]
      · obtain ⟨s', e1, tl, e3⟩ := step c
        refine hb _ _ H (codesOf H) (ts.map (·.1)) _ _ (rep_tabs (m := N.length) (i := ic) (c := c) (by rw [List.length_set, L2.wipe_length, hm0]) hi (List.getElem?_set_self (by rw [L2.wipe_length, hm0]; exact hi)) hT' nd) ?_
        rw [e1]
        intro H' Hi' as' r' _ pf
        have keep : ∀ (b : Addr) (xs : List V), H b = some (.lst xs) → H' b = some (.lst xs) := fun b xs hb => hl_nil (r'.fr b _ hb fun z => by
          obtain ⟨p, hp, rfl⟩ := List.mem_map.mp z
          obtain ⟨ps, k1, _⟩ := hT' p hp
          rw [hb] at k1
          cases k1)
        rw [if_neg (by decide)]
        refine ⟨keep r _ hr', keep D _ hD', fun p hp => ?_⟩
        obtain ⟨j, hj⟩ := List.getElem?_of_mem hp
        have hjl := lt_of_get hj
        have ha : as'[j]? = some p.1 := by
          obtain ⟨t, rfl⟩ := pf
          rw [List.getElem?_append_left (by simpa using hjl), List.getElem?_map, hj]
          rfl
        have hce : s'.ce[j]? = some (.tb p.1 p.2) := by
          rw [e3, List.getElem?_append_left (by simpa [tbs] using hjl)]
          unfold tbs
          rw [List.getElem?_map, hj]
          rfl
        obtain ⟨_, ps, k1, k2, _⟩ := r'.cel j p.1 _ ha hce
        exact ⟨ps, k1, r'.tabR k2⟩
  · refine ⟨by show 0 ≤ sizeLine; exact Nat.zero_le _, fun p' hp' => ?_⟩
    have eD : upd H p' (.lst []) D = some (.lst []) := by rw [upd_ne (ne_of_none hD' hp')]; exact hD'
    have r0 : Rep (mg := mg) ⟨upd H p' (.lst []), upd H p' (.lst []), [], [], []⟩ [] (upd H p' (.lst [])) (upd H p' (.lst [])) [] ⟨[], []⟩ :=
      ⟨fun b o e => by unfold HL; rw [if_neg (by simp)]; exact e, fun b hb => (by cases hb), fun b o e _ => by unfold HL; rw [if_neg (by simp)]; exact e, fun b o e => .inl e, fun j a c e1 => (by simp at e1), rfl, fun i x h => (by simp at h), rfl, fun j a c e1 => (by simp at e1), fun i j a c c' e1 => (by simp at e1)⟩
    refine os_eqG _ [] _ _ [] ⟨[], []⟩ (.d (.list [])) (.d (.list [])) (.d (.bool true)) _ _ _ r0 (.d (.lst eD .nil)) (.d (.lst upd_same .nil)) (by simp [oEqG, orO, oEqS, oEq, dat, okE, noD, noDs, PyData.eqv, PyData.eqvAll]; decide +kernel) fun H' Hi' r' e' v hv => ?_
    cases hv with
    | d hv =>
      cases hv
      exact q _
end DL

end DLsec_108

section Rsec
set_option maxRecDepth 100000
set_option maxHeartbeats 4000000
open PySem PySem.Spec PyProof.Rows L2 DL
namespace R
def topS (i : Nat) : Stmt := PySem.Challenge.pw_mergeunits_k75_lists_refused_beyond_merg.main.body.getD i (.Pass ⟨0, 0, 0, 0⟩)
def okS_ : Str → Bool := fun n => decide (n = "InvalidList")
abbrev s_is_whole : Stmt := topS 11
abbrev N_is_whole : List Str := ["thing"]
theorem sc_is_whole : FnScope N_is_whole ["thing"] (defScope s_is_whole) := ⟨rfl, rfl, rfl, by decide +kernel, rfl, by decide +kernel, by decide +kernel⟩
abbrev s_check_list : Stmt := topS 12
abbrev N_check_list : List Str := ["values", "place", "value"]
theorem sc_check_list : FnScope N_check_list ["values"] (defScope s_check_list) := ⟨rfl, rfl, rfl, by decide +kernel, rfl, by decide +kernel, by decide +kernel⟩
abbrev s_units_of : Stmt := topS 14
abbrev N_units_of : List Str := ["values", "told", "value"]
theorem sc_units_of : FnScope N_units_of ["values"] (defScope s_units_of) := ⟨rfl, rfl, rfl, by decide +kernel, rfl, by decide +kernel, by decide +kernel⟩
abbrev s_check_cut : Stmt := topS 19
abbrev N_check_cut : List Str := ["values", "places"]
theorem sc_check_cut : FnScope N_check_cut ["values", "places"] (defScope s_check_cut) := ⟨rfl, rfl, rfl, by decide +kernel, rfl, by decide +kernel, by decide +kernel⟩
abbrev s_cut : Stmt := topS 22
abbrev N_cut : List Str := ["values", "places"]
theorem sc_cut : FnScope N_cut ["values", "places"] (defScope s_cut) := ⟨rfl, rfl, rfl, by decide +kernel, rfl, by decide +kernel, by decide +kernel⟩
abbrev s_boundaries : Stmt := topS 23
abbrev N_boundaries : List Str := ["values", "places"]
theorem sc_boundaries : FnScope N_boundaries ["values", "places"] (defScope s_boundaries) := ⟨rfl, rfl, rfl, by decide +kernel, rfl, by decide +kernel, by decide +kernel⟩
abbrev s_parents : Stmt := topS 26
abbrev N_parents : List Str := ["values"]
theorem sc_parents : FnScope N_parents ["values"] (defScope s_parents) := ⟨rfl, rfl, rfl, by decide +kernel, rfl, by decide +kernel, by decide +kernel⟩
abbrev s_least_places : Stmt := topS 28
abbrev N_least_places : List Str := ["values", "places"]
theorem sc_least_places : FnScope N_least_places ["values", "places"] (defScope s_least_places) := ⟨rfl, rfl, rfl, by decide +kernel, rfl, by decide +kernel, by decide +kernel⟩
abbrev s_found_back : Stmt := topS 29
abbrev N_found_back : List Str := ["values", "goal", "left", "told", "place", "fitting", "unit"]
theorem sc_found_back : FnScope N_found_back ["values", "goal"] (defScope s_found_back) := ⟨rfl, rfl, rfl, by decide +kernel, rfl, by decide +kernel, by decide +kernel⟩
abbrev s_read_back : Stmt := topS 30
abbrev N_read_back : List Str := ["values", "goal", "told"]
theorem sc_read_back : FnScope N_read_back ["values", "goal"] (defScope s_read_back) := ⟨rfl, rfl, rfl, by decide +kernel, rfl, by decide +kernel, by decide +kernel⟩
abbrev s_count_results : Stmt := topS 35
abbrev N_count_results : List Str := ["values"]
theorem sc_count_results : FnScope N_count_results ["values"] (defScope s_count_results) := ⟨rfl, rfl, rfl, by decide +kernel, rfl, by decide +kernel, by decide +kernel⟩
abbrev s_each_result : Stmt := topS 37
abbrev N_each_result : List Str := ["values", "many", "above", "bounds"]
theorem sc_each_result : GScope N_each_result ["values"] (defScope s_each_result) := ⟨rfl, rfl, rfl, by decide +kernel, rfl, by decide +kernel, by decide +kernel⟩
abbrev s_bounds_of : Stmt := topS 38
abbrev N_bounds_of : List Str := ["values", "goal", "told"]
theorem sc_bounds_of : FnScope N_bounds_of ["values", "goal"] (defScope s_bounds_of) := ⟨rfl, rfl, rfl, by decide +kernel, rfl, by decide +kernel, by decide +kernel⟩
abbrev s_both : Stmt := topS 39
abbrev N_both : List Str := ["values", "one", "other", "first", "second", "place"]
theorem sc_both : FnScope N_both ["values", "one", "other"] (defScope s_both) := ⟨rfl, rfl, rfl, by decide +kernel, rfl, by decide +kernel, by decide +kernel⟩
abbrev s_either : Stmt := topS 40
abbrev N_either : List Str := ["values", "one", "other", "first", "second"]
theorem sc_either : FnScope N_either ["values", "one", "other"] (defScope s_either) := ⟨rfl, rfl, rfl, by decide +kernel, rfl, by decide +kernel, by decide +kernel⟩
abbrev s_trees : Stmt := topS 47
abbrev N_trees : List Str := ["values"]
theorem sc_trees : FnScope N_trees ["values"] (defScope s_trees) := ⟨rfl, rfl, rfl, by decide +kernel, rfl, by decide +kernel, by decide +kernel⟩
abbrev s_addresses : Stmt := topS 48
abbrev N_addresses : List Str := ["values"]
theorem sc_addresses : FnScope N_addresses ["values"] (defScope s_addresses) := ⟨rfl, rfl, rfl, by decide +kernel, rfl, by decide +kernel, by decide +kernel⟩
abbrev s_check_two : Stmt := topS 52
abbrev N_check_two : List Str := ["one", "other"]
theorem sc_check_two : FnScope N_check_two ["one", "other"] (defScope s_check_two) := ⟨rfl, rfl, rfl, by decide +kernel, rfl, by decide +kernel, by decide +kernel⟩
abbrev s_union : Stmt := topS 53
abbrev N_union : List Str := ["one", "other"]
theorem sc_union : FnScope N_union ["one", "other"] (defScope s_union) := ⟨rfl, rfl, rfl, by decide +kernel, rfl, by decide +kernel, by decide +kernel⟩
abbrev s_intersection : Stmt := topS 54
abbrev N_intersection : List Str := ["one", "other"]
theorem sc_intersection : FnScope N_intersection ["one", "other"] (defScope s_intersection) := ⟨rfl, rfl, rfl, by decide +kernel, rfl, by decide +kernel, by decide +kernel⟩
abbrev s_difference : Stmt := topS 56
abbrev N_difference : List Str := ["one", "other"]
theorem sc_difference : FnScope N_difference ["one", "other"] (defScope s_difference) := ⟨rfl, rfl, rfl, by decide +kernel, rfl, by decide +kernel, by decide +kernel⟩
abbrev s_includes : Stmt := topS 57
abbrev N_includes : List Str := ["one", "other", "i", "j"]
theorem sc_includes : FnScope N_includes ["one", "other"] (defScope s_includes) := ⟨rfl, rfl, rfl, by decide +kernel, rfl, by decide +kernel, by decide +kernel⟩
abbrev s_missing : Stmt := topS 58
abbrev N_missing : List Str := ["one", "other", "some", "place", "address"]
theorem sc_missing : FnScope N_missing ["one", "other"] (defScope s_missing) := ⟨rfl, rfl, rfl, by decide +kernel, rfl, by decide +kernel, by decide +kernel⟩
abbrev s_matches : Stmt := topS 59
abbrev N_matches : List Str := ["one", "other", "told", "i", "j", "low"]
theorem sc_matches : FnScope N_matches ["one", "other"] (defScope s_matches) := ⟨rfl, rfl, rfl, by decide +kernel, rfl, by decide +kernel, by decide +kernel⟩
abbrev s_MergeList_of : Stmt := inClass (topS 61) 1
abbrev N_MergeList_of : List Str := ["cls", "values"]
theorem sc_MergeList_of : FnScope N_MergeList_of ["cls", "values"] (defScope s_MergeList_of) := ⟨rfl, rfl, rfl, by decide +kernel, rfl, by decide +kernel, by decide +kernel⟩
abbrev s_count_between : Stmt := topS 66
abbrev N_count_between : List Str := ["one", "other", "given", "some", "address"]
theorem sc_count_between : FnScope N_count_between ["one", "other"] (defScope s_count_between) := ⟨rfl, rfl, rfl, by decide +kernel, rfl, by decide +kernel, by decide +kernel⟩
abbrev s_residue : Stmt := topS 67
abbrev N_residue : List Str := ["one", "other", "known", "left", "address", "need"]
theorem sc_residue : FnScope N_residue ["one", "other"] (defScope s_residue) := ⟨rfl, rfl, rfl, by decide +kernel, rfl, by decide +kernel, by decide +kernel⟩
abbrev s_distance : Stmt := topS 68
abbrev N_distance : List Str := ["one", "other", "first", "second", "address"]
theorem sc_distance : FnScope N_distance ["one", "other"] (defScope s_distance) := ⟨rfl, rfl, rfl, by decide +kernel, rfl, by decide +kernel, by decide +kernel⟩
abbrev s_path : Stmt := topS 69
abbrev N_path : List Str := ["one", "other", "here", "goal", "told", "address"]
theorem sc_path : FnScope N_path ["one", "other"] (defScope s_path) := ⟨rfl, rfl, rfl, by decide +kernel, rfl, by decide +kernel, by decide +kernel⟩
abbrev s_median : Stmt := topS 70
abbrev N_median : List Str := ["one", "two", "three"]
theorem sc_median : FnScope N_median ["one", "two", "three"] (defScope s_median) := ⟨rfl, rfl, rfl, by decide +kernel, rfl, by decide +kernel, by decide +kernel⟩
abbrev s_three_way : Stmt := topS 71
abbrev N_three_way : List Str := ["base", "one", "other", "known", "first", "second", "clashes", "kept", "address"]
theorem sc_three_way : FnScope N_three_way ["base", "one", "other"] (defScope s_three_way) := ⟨rfl, rfl, rfl, by decide +kernel, rfl, by decide +kernel, by decide +kernel⟩
abbrev s_count_sources : Stmt := topS 79
abbrev N_count_sources : List Str := ["values"]
theorem sc_count_sources : FnScope N_count_sources ["values"] (defScope s_count_sources) := ⟨rfl, rfl, rfl, by decide +kernel, rfl, by decide +kernel, by decide +kernel⟩
abbrev s_sources_by_places : Stmt := topS 81
abbrev N_sources_by_places : List Str := ["values", "ways", "many", "size"]
theorem sc_sources_by_places : FnScope N_sources_by_places ["values"] (defScope s_sources_by_places) := ⟨rfl, rfl, rfl, by decide +kernel, rfl, by decide +kernel, by decide +kernel⟩
abbrev s_each_source : Stmt := topS 83
abbrev N_each_source : List Str := ["values", "many", "units", "leaders", "words", "leader", "unit"]
theorem sc_each_source : GScope N_each_source ["values"] (defScope s_each_source) := ⟨rfl, rfl, rfl, by decide +kernel, rfl, by decide +kernel, by decide +kernel⟩
abbrev s_format_list : Stmt := topS 85
abbrev N_format_list : List Str := ["values", "unit", "value"]
theorem sc_format_list : FnScope N_format_list ["values"] (defScope s_format_list) := ⟨rfl, rfl, rfl, by decide +kernel, rfl, by decide +kernel, by decide +kernel⟩
abbrev s__law_draws : Stmt := topS 87
abbrev N__law_draws : List Str := ["_law_cell"]
theorem sc__law_draws : FnScope N__law_draws ["_law_cell"] (defScope s__law_draws) := ⟨rfl, rfl, rfl, by decide +kernel, rfl, by decide +kernel, by decide +kernel⟩
abbrev s__law_next : Stmt := topS 88
abbrev N__law_next : List Str := ["_law_draws_here", "_law_k", "_law_number"]
theorem sc__law_next : FnScope N__law_next ["_law_draws_here"] (defScope s__law_next) := ⟨rfl, rfl, rfl, by decide +kernel, rfl, by decide +kernel, by decide +kernel⟩
abbrev s__law_list : Stmt := topS 89
abbrev N__law_list : List Str := ["_law_draws_here", "_law_most", "_law_many", "_law_wide", "_law_told", "_law_k", "_law_value"]
theorem sc__law_list : FnScope N__law_list ["_law_draws_here", "_law_most"] (defScope s__law_list) := ⟨rfl, rfl, rfl, by decide +kernel, rfl, by decide +kernel, by decide +kernel⟩
abbrev s__law_kept : Stmt := topS 90
abbrev N__law_kept : List Str := ["_law_ask", "_law_kept_here", "e", "_law_told"]
theorem sc__law_kept : FnScope N__law_kept ["_law_ask"] (defScope s__law_kept) := ⟨rfl, rfl, rfl, by decide +kernel, rfl, by decide +kernel, by decide +kernel⟩
abbrev s__law_single : Stmt := topS 91
abbrev N__law_single : List Str := ["_law_bad", "_law_told"]
theorem sc__law_single : FnScope N__law_single ["_law_bad"] (defScope s__law_single) := ⟨rfl, rfl, rfl, by decide +kernel, rfl, by decide +kernel, by decide +kernel⟩
abbrev s__law_more : Stmt := topS 92
abbrev N__law_more : List Str := ["_law_one", "_law_other", "_law_third", "_law_told"]
theorem sc__law_more : FnScope N__law_more ["_law_one", "_law_other", "_law_third"] (defScope s__law_more) := ⟨rfl, rfl, rfl, by decide +kernel, rfl, by decide +kernel, by decide +kernel⟩
abbrev s__law_back : Stmt := topS 93
abbrev N__law_back : List Str := ["_law_one", "_law_other", "_law_told"]
theorem sc__law_back : FnScope N__law_back ["_law_one", "_law_other"] (defScope s__law_back) := ⟨rfl, rfl, rfl, by decide +kernel, rfl, by decide +kernel, by decide +kernel⟩
abbrev s__law_right : Stmt := topS 94
abbrev N__law_right : List Str := ["_law_draws_here", "_law_good", "_law_wrong", "_law_thing", "_law_at", "_law_bad", "_law_place", "_law_asks", "_law_ask"]
theorem sc__law_right : FnScope N__law_right ["_law_draws_here"] (defScope s__law_right) := ⟨rfl, rfl, rfl, by decide +kernel, rfl, by decide +kernel, by decide +kernel⟩
abbrev s_law : Stmt := topS 95
abbrev N_law : List Str := ["_law_script", "_law_cell"]
theorem sc_law : FnScope N_law ["_law_script"] (defScope s_law) := ⟨rfl, rfl, rfl, by decide +kernel, rfl, by decide +kernel, by decide +kernel⟩
abbrev s_ClosedSide : Stmt := inClass (topS 9) 0
theorem sc_ClosedSide : FnScope ["self", "side"] ["self", "side"] (defScope s_ClosedSide) := ⟨rfl, rfl, rfl, by decide +kernel, rfl, by decide +kernel, by decide +kernel⟩
abbrev s_InvalidList : Stmt := inClass (topS 2) 0
theorem sc_InvalidList : FnScope ["self", "place"] ["self", "place"] (defScope s_InvalidList) := ⟨rfl, rfl, rfl, by decide +kernel, rfl, by decide +kernel, by decide +kernel⟩
abbrev s_InvalidLists : Stmt := inClass (topS 3) 0
theorem sc_InvalidLists : FnScope ["self", "index"] ["self", "index"] (defScope s_InvalidLists) := ⟨rfl, rfl, rfl, by decide +kernel, rfl, by decide +kernel, by decide +kernel⟩
abbrev s_InvalidNumber : Stmt := inClass (topS 4) 0
theorem sc_InvalidNumber : FnScope ["self", "number"] ["self", "number"] (defScope s_InvalidNumber) := ⟨rfl, rfl, rfl, by decide +kernel, rfl, by decide +kernel, by decide +kernel⟩
abbrev s_InvalidPlaces : Stmt := inClass (topS 5) 0
theorem sc_InvalidPlaces : FnScope ["self", "place"] ["self", "place"] (defScope s_InvalidPlaces) := ⟨rfl, rfl, rfl, by decide +kernel, rfl, by decide +kernel, by decide +kernel⟩
abbrev s_InvalidText : Stmt := inClass (topS 6) 0
theorem sc_InvalidText : FnScope ["self", "place"] ["self", "place"] (defScope s_InvalidText) := ⟨rfl, rfl, rfl, by decide +kernel, rfl, by decide +kernel, by decide +kernel⟩
abbrev s_TooMany : Stmt := inClass (topS 7) 0
theorem sc_TooMany : FnScope ["self", "count"] ["self", "count"] (defScope s_TooMany) := ⟨rfl, rfl, rfl, by decide +kernel, rfl, by decide +kernel, by decide +kernel⟩
abbrev s_UnknownSide : Stmt := inClass (topS 8) 0
theorem sc_UnknownSide : FnScope ["self", "side"] ["self", "side"] (defScope s_UnknownSide) := ⟨rfl, rfl, rfl, by decide +kernel, rfl, by decide +kernel, by decide +kernel⟩
/-! what the defs do -/
abbrev q__law_single : Str := (("_law_single" : Str) ++ (".<locals>." : Str)) ++ ("<lambda>" : Str)
abbrev q__law_more : Str := (("_law_more" : Str) ++ (".<locals>." : Str)) ++ ("<lambda>" : Str)
abbrev q__law_back : Str := (("_law_back" : Str) ++ (".<locals>." : Str)) ++ ("<lambda>" : Str)
def TS_ (th : Str → Addr) : List (Addr × Str) := [(th "_law_single", q__law_single), (th "_law_more", q__law_more), (th "_law_back", q__law_back)]
noncomputable def body_is_whole : M Fl :=
  (fRet (fAndV (fIsi "int" (fVar 0)) (fNotV (fIsi "bool" (fVar 0)))))
noncomputable def g_is_whole : FD := mkF 1 1 body_is_whole
noncomputable abbrev I0_check_list : M (List D) := (fEnum (fCons (fVar 0) fNil))
noncomputable abbrev K0_check_list : Vl → M Unit := (kTup 2 (kCons (kName 1) (kCons (kName 2) kNil)))
noncomputable abbrev B0_check_list : M Fl := (fIf (fNot (fTru (fDef g_is_whole (fCons (fVar 2) fNil)))) (fRaise "InvalidList" "place" (fVar 1)) fNext)
noncomputable def body_check_list : M Fl :=
  (fSeq (fIf (fNot (fTru (fIsi "list" (fVar 0)))) (fRaise "InvalidList" "place" (fC .none)) fNext)
  (fFor I0_check_list K0_check_list B0_check_list))
noncomputable def g_check_list : FD := mkF 1 3 body_check_list
noncomputable def body_check_cut : M Fl :=
  (fStop (fExpr (fDef g_check_list (fCons (fVar 0) fNil))))
noncomputable def g_check_cut : FD := mkF 2 2 body_check_cut
noncomputable def body_cut : M Fl :=
  (fStop (fExpr (fDef g_check_cut (fCons (fVar 0) (fCons (fVar 1) fNil)))))
noncomputable def g_cut : FD := mkF 2 2 body_cut
noncomputable def body_boundaries : M Fl :=
  (fStop (fExpr (fDef g_check_cut (fCons (fVar 0) (fCons (fVar 1) fNil)))))
noncomputable def g_boundaries : FD := mkF 2 2 body_boundaries
noncomputable def body_least_places : M Fl :=
  (fStop (fExpr (fDef g_check_cut (fCons (fVar 0) (fCons (fVar 1) fNil)))))
noncomputable def g_least_places : FD := mkF 2 2 body_least_places
noncomputable def body_parents : M Fl :=
  (fStop (fExpr (fDef g_check_list (fCons (fVar 0) fNil))))
noncomputable def g_parents : FD := mkF 1 1 body_parents
noncomputable def body_count_results : M Fl :=
  (fStop (fExpr (fDef g_check_list (fCons (fVar 0) fNil))))
noncomputable def g_count_results : FD := mkF 1 1 body_count_results
noncomputable def body_count_sources : M Fl :=
  (fStop (fExpr (fDef g_check_list (fCons (fVar 0) fNil))))
noncomputable def g_count_sources : FD := mkF 1 1 body_count_sources
noncomputable def body_sources_by_places : M Fl :=
  (fStop (fExpr (fDef g_check_list (fCons (fVar 0) fNil))))
noncomputable def g_sources_by_places : FD := mkF 1 4 body_sources_by_places
noncomputable def body_format_list : M Fl :=
  (fStop (fExpr (fDef g_check_list (fCons (fVar 0) fNil))))
noncomputable def g_format_list : FD := mkF 1 3 body_format_list
noncomputable def body_trees : M Fl :=
  (fStop (fExpr (fDef g_check_list (fCons (fVar 0) fNil))))
noncomputable def g_trees : FD := mkF 1 1 body_trees
noncomputable def body_addresses : M Fl :=
  (fStop (fExpr (fDef g_check_list (fCons (fVar 0) fNil))))
noncomputable def g_addresses : FD := mkF 1 1 body_addresses
noncomputable def body_each_result : M Fl :=
  (fStop (fExpr (fDef g_check_list (fCons (fVar 0) fNil))))
noncomputable def g_each_result : FD := mkR 1 4 body_each_result
noncomputable def body_each_source : M Fl :=
  (fStop (fExpr (fDef g_check_list (fCons (fVar 0) fNil))))
noncomputable def g_each_source : FD := mkR 1 7 body_each_source
noncomputable abbrev L0__law_single : M Vl := (fDef g_cut (fCons (fVar 0) (fCons (fC .none) fNil)))
noncomputable abbrev L1__law_single : M Vl := (fDef g_boundaries (fCons (fVar 0) (fCons (fC .none) fNil)))
noncomputable abbrev L2__law_single : M Vl := (fDef g_least_places (fCons (fVar 0) (fCons (fC .none) fNil)))
noncomputable abbrev L3__law_single : M Vl := (fDef g_parents (fCons (fVar 0) fNil))
noncomputable abbrev L4__law_single : M Vl := (fDef g_count_results (fCons (fVar 0) fNil))
noncomputable abbrev L5__law_single : M Vl := (fListR okS_ g_each_result (fCons (fVar 0) fNil))
noncomputable abbrev L6__law_single : M Vl := (fDef g_count_sources (fCons (fVar 0) fNil))
noncomputable abbrev L7__law_single : M Vl := (fDef g_sources_by_places (fCons (fVar 0) fNil))
noncomputable abbrev L8__law_single : M Vl := (fListR okS_ g_each_source (fCons (fVar 0) fNil))
noncomputable abbrev L9__law_single : M Vl := (fDef g_format_list (fCons (fVar 0) fNil))
noncomputable abbrev L10__law_single : M Vl := (fDef (gX g_check_list) (fCons (fVar 0) fNil))
noncomputable abbrev L11__law_single : M Vl := (fDef g_trees (fCons (fVar 0) fNil))
noncomputable abbrev L12__law_single : M Vl := (fDef g_addresses (fCons (fVar 0) fNil))
abbrev ld0__law_single : LamD := ⟨("_law_single" : Str) ++ (".<locals>." : Str), N__law_single, (lamAt s__law_single 0).1, (lamAt s__law_single 0).2.1, (lamAt s__law_single 0).2.2⟩
abbrev ld1__law_single : LamD := ⟨("_law_single" : Str) ++ (".<locals>." : Str), N__law_single, (lamAt s__law_single 1).1, (lamAt s__law_single 1).2.1, (lamAt s__law_single 1).2.2⟩
abbrev ld2__law_single : LamD := ⟨("_law_single" : Str) ++ (".<locals>." : Str), N__law_single, (lamAt s__law_single 2).1, (lamAt s__law_single 2).2.1, (lamAt s__law_single 2).2.2⟩
abbrev ld3__law_single : LamD := ⟨("_law_single" : Str) ++ (".<locals>." : Str), N__law_single, (lamAt s__law_single 3).1, (lamAt s__law_single 3).2.1, (lamAt s__law_single 3).2.2⟩
abbrev ld4__law_single : LamD := ⟨("_law_single" : Str) ++ (".<locals>." : Str), N__law_single, (lamAt s__law_single 4).1, (lamAt s__law_single 4).2.1, (lamAt s__law_single 4).2.2⟩
abbrev ld5__law_single : LamD := ⟨("_law_single" : Str) ++ (".<locals>." : Str), N__law_single, (lamAt s__law_single 5).1, (lamAt s__law_single 5).2.1, (lamAt s__law_single 5).2.2⟩
abbrev ld6__law_single : LamD := ⟨("_law_single" : Str) ++ (".<locals>." : Str), N__law_single, (lamAt s__law_single 6).1, (lamAt s__law_single 6).2.1, (lamAt s__law_single 6).2.2⟩
abbrev ld7__law_single : LamD := ⟨("_law_single" : Str) ++ (".<locals>." : Str), N__law_single, (lamAt s__law_single 7).1, (lamAt s__law_single 7).2.1, (lamAt s__law_single 7).2.2⟩
abbrev ld8__law_single : LamD := ⟨("_law_single" : Str) ++ (".<locals>." : Str), N__law_single, (lamAt s__law_single 8).1, (lamAt s__law_single 8).2.1, (lamAt s__law_single 8).2.2⟩
abbrev ld9__law_single : LamD := ⟨("_law_single" : Str) ++ (".<locals>." : Str), N__law_single, (lamAt s__law_single 9).1, (lamAt s__law_single 9).2.1, (lamAt s__law_single 9).2.2⟩
abbrev ld10__law_single : LamD := ⟨("_law_single" : Str) ++ (".<locals>." : Str), N__law_single, (lamAt s__law_single 10).1, (lamAt s__law_single 10).2.1, (lamAt s__law_single 10).2.2⟩
abbrev ld11__law_single : LamD := ⟨("_law_single" : Str) ++ (".<locals>." : Str), N__law_single, (lamAt s__law_single 11).1, (lamAt s__law_single 11).2.1, (lamAt s__law_single 11).2.2⟩
abbrev ld12__law_single : LamD := ⟨("_law_single" : Str) ++ (".<locals>." : Str), N__law_single, (lamAt s__law_single 12).1, (lamAt s__law_single 12).2.1, (lamAt s__law_single 12).2.2⟩
noncomputable def g__law_single (th : Str → Addr) : FD := gMk (th "_law_single") q__law_single N__law_single 1 0 (lamAt s__law_single 0 :: [lamAt s__law_single 1, lamAt s__law_single 2, lamAt s__law_single 3, lamAt s__law_single 4, lamAt s__law_single 5, lamAt s__law_single 6, lamAt s__law_single 7, lamAt s__law_single 8, lamAt s__law_single 9, lamAt s__law_single 10, lamAt s__law_single 11, lamAt s__law_single 12])
noncomputable abbrev I0_units_of : M (List D) := (orI (fItL (fVar 0)) (fItT (fVar 0)))
noncomputable abbrev K0_units_of : Vl → M Unit := (kName 2)
noncomputable abbrev B0_units_of : M Fl := (fIf (fOr (fTest (fOp oEqG (fVar 1) (fDat (fLst fNil)))) (fTest (fOp oGe (fVar 2) (fOp oIx (fOp oIx (fVar 1) (fNeg (fC (.int 1)))) (fC (.int 0)))))) (fAsg (fCell (fOp oCat (fVar 1) (fDat (fLst (fCons (fDat (fLst (fCons (fVar 2) fNil))) fNil))))) (kName 1)) (fAsg (fCell (fOp oCat (fSl oSl (fVar 1) fNoP (fP (fNeg (fC (.int 1))))) (fDat (fLst (fCons (fOp oAdd (fOp oIx (fVar 1) (fNeg (fC (.int 1)))) (fDat (fLst (fCons (fVar 2) fNil)))) fNil))))) (kName 1)))
noncomputable def body_units_of : M Fl :=
  (fSeq (fAsg (fCell (fLst fNil)) (kName 1))
  (fSeq (fFor I0_units_of K0_units_of B0_units_of)
  (fRet (fVar 1))))
noncomputable def g_units_of : FD := mkF 1 3 body_units_of
noncomputable abbrev I0_found_back : M (List D) := (orI (fItL (fFrz (fVar 2))) (fItT (fFrz (fVar 2))))
noncomputable abbrev K0_found_back : Vl → M Unit := (kName 6)
noncomputable abbrev T0_found_back : M Bool := (fTest (fOp oEqG (fOp oIx (fVar 6) (fC (.int 0))) (fOp oIx (fVar 0) (fVar 4))))
noncomputable abbrev E0_found_back : M Vl := (fVar 6)
noncomputable abbrev C1_found_back : M Bool := (fTest (fOp oLt (fVar 4) (fCall oLenG (fCons (fVar 0) fNil))))
noncomputable abbrev B1_found_back : M Fl := (fSeq (fAsg (fDat (fThaw 2 (fLc I0_found_back K0_found_back T0_found_back E0_found_back [6]))) (kName 5))
  (fSeq (fIf (fOr (fTest (fOp oEqG (fVar 5) (fDat (fLst fNil)))) (fTest (fOp oNeG (fSl oSl (fVar 0) (fP (fVar 4)) (fP (fOp oAdd (fVar 4) (fCall oLenG (fCons (fOp oIx (fVar 5) (fC (.int 0))) fNil))))) (fOp oIx (fVar 5) (fC (.int 0)))))) (fRet (fVar 4)) fNext)
  (fSeq (fExpr (fRem (fVar 2) (fOp oIx (fVar 5) (fC (.int 0)))))
  (fSeq (fExpr (fApp (fVar 3) (fVar 4)))
  (fAug 4 oAddI (fCall oLenG (fCons (fOp oIx (fVar 5) (fC (.int 0))) fNil)))))))
noncomputable def body_found_back : M Fl :=
  (fSeq (fAsg (fDef g_units_of (fCons (fVar 1) fNil)) (kName 2))
  (fSeq (fAsg (fCell (fLst fNil)) (kName 3))
  (fSeq (fAsg (fC (.int 0)) (kName 4))
  (fSeq (fWhile C1_found_back B1_found_back)
  (fRet (fIf (fTru (fVar 2)) (fVar 4) (fVar 3)))))))
noncomputable def g_found_back : FD := mkF 2 7 body_found_back
noncomputable def body_bounds_of : M Fl :=
  (fSeq (fExpr (fDef g_check_list (fCons (fVar 1) fNil)))
  (fSeq (fAsg (fDef g_found_back (fCons (fVar 0) (fCons (fVar 1) fNil))) (kName 2))
  (fSeq (fIf (fNot (fTru (fIsi "list" (fVar 2)))) (fRaise "InvalidList" "place" (fC .none)) fNext)
  (fRet (fVar 2)))))
noncomputable def g_bounds_of : FD := mkF 2 3 body_bounds_of
noncomputable def body_both : M Fl :=
  (fSeq (fExpr (fDef g_check_list (fCons (fVar 0) fNil)))
  (fSeq (fAsg (fDef g_bounds_of (fCons (fVar 0) (fCons (fVar 1) fNil))) (kName 3))
  (fStop (fAsg (fDef g_bounds_of (fCons (fVar 0) (fCons (fVar 2) fNil))) (kName 4)))))
noncomputable def g_both : FD := mkF 3 6 body_both
noncomputable def body_either : M Fl :=
  (fSeq (fExpr (fDef g_check_list (fCons (fVar 0) fNil)))
  (fSeq (fAsg (fDef g_bounds_of (fCons (fVar 0) (fCons (fVar 1) fNil))) (kName 3))
  (fStop (fAsg (fDef g_bounds_of (fCons (fVar 0) (fCons (fVar 2) fNil))) (kName 4)))))
noncomputable def g_either : FD := mkF 3 5 body_either
noncomputable def body_check_two : M Fl :=
  (fSeq (fExpr (fDef g_check_list (fCons (fVar 0) fNil)))
  (fExpr (fDef g_check_list (fCons (fVar 1) fNil))))
noncomputable def g_check_two : FD := mkF 2 2 body_check_two
noncomputable def body_median : M Fl :=
  (fSeq (fExpr (fDef g_check_two (fCons (fVar 0) (fCons (fVar 1) fNil))))
  (fStop (fExpr (fDef g_check_list (fCons (fVar 2) fNil)))))
noncomputable def g_median : FD := mkF 3 3 body_median
noncomputable def body_three_way : M Fl :=
  (fSeq (fExpr (fDef g_check_list (fCons (fVar 0) fNil)))
  (fStop (fExpr (fDef g_check_two (fCons (fVar 1) (fCons (fVar 2) fNil))))))
noncomputable def g_three_way : FD := mkF 3 9 body_three_way
noncomputable abbrev L0__law_more : M Vl := (fDef g_both (fCons (fVar 0) (fCons (fVar 1) (fCons (fVar 2) fNil))))
noncomputable abbrev L1__law_more : M Vl := (fDef g_either (fCons (fVar 0) (fCons (fVar 1) (fCons (fVar 2) fNil))))
noncomputable abbrev L2__law_more : M Vl := (fDef g_median (fCons (fVar 0) (fCons (fVar 1) (fCons (fVar 2) fNil))))
noncomputable abbrev L3__law_more : M Vl := (fDef g_three_way (fCons (fVar 0) (fCons (fVar 1) (fCons (fVar 2) fNil))))
abbrev ld0__law_more : LamD := ⟨("_law_more" : Str) ++ (".<locals>." : Str), N__law_more, (lamAt s__law_more 0).1, (lamAt s__law_more 0).2.1, (lamAt s__law_more 0).2.2⟩
abbrev ld1__law_more : LamD := ⟨("_law_more" : Str) ++ (".<locals>." : Str), N__law_more, (lamAt s__law_more 1).1, (lamAt s__law_more 1).2.1, (lamAt s__law_more 1).2.2⟩
abbrev ld2__law_more : LamD := ⟨("_law_more" : Str) ++ (".<locals>." : Str), N__law_more, (lamAt s__law_more 2).1, (lamAt s__law_more 2).2.1, (lamAt s__law_more 2).2.2⟩
abbrev ld3__law_more : LamD := ⟨("_law_more" : Str) ++ (".<locals>." : Str), N__law_more, (lamAt s__law_more 3).1, (lamAt s__law_more 3).2.1, (lamAt s__law_more 3).2.2⟩
noncomputable def g__law_more (th : Str → Addr) : FD := gMk (th "_law_more") q__law_more N__law_more 3 13 (lamAt s__law_more 0 :: [lamAt s__law_more 1, lamAt s__law_more 2, lamAt s__law_more 3])
noncomputable def body_read_back : M Fl :=
  (fSeq (fExpr (fDef g_check_list (fCons (fVar 0) fNil)))
  (fStop (fExpr (fDef g_check_list (fCons (fVar 1) fNil)))))
noncomputable def g_read_back : FD := mkF 2 3 body_read_back
noncomputable def body_union : M Fl :=
  (fStop (fExpr (fDef g_check_two (fCons (fVar 0) (fCons (fVar 1) fNil)))))
noncomputable def g_union : FD := mkF 2 2 body_union
noncomputable def body_intersection : M Fl :=
  (fStop (fExpr (fDef g_check_two (fCons (fVar 0) (fCons (fVar 1) fNil)))))
noncomputable def g_intersection : FD := mkF 2 2 body_intersection
noncomputable def body_difference : M Fl :=
  (fStop (fExpr (fDef g_check_two (fCons (fVar 0) (fCons (fVar 1) fNil)))))
noncomputable def g_difference : FD := mkF 2 2 body_difference
noncomputable def body_includes : M Fl :=
  (fStop (fExpr (fDef g_check_two (fCons (fVar 0) (fCons (fVar 1) fNil)))))
noncomputable def g_includes : FD := mkF 2 4 body_includes
noncomputable def body_missing : M Fl :=
  (fStop (fExpr (fDef g_check_two (fCons (fVar 0) (fCons (fVar 1) fNil)))))
noncomputable def g_missing : FD := mkF 2 5 body_missing
noncomputable def body_matches : M Fl :=
  (fStop (fExpr (fDef g_check_two (fCons (fVar 0) (fCons (fVar 1) fNil)))))
noncomputable def g_matches : FD := mkF 2 6 body_matches
noncomputable def body_count_between : M Fl :=
  (fStop (fExpr (fDef g_check_two (fCons (fVar 0) (fCons (fVar 1) fNil)))))
noncomputable def g_count_between : FD := mkF 2 5 body_count_between
noncomputable def body_residue : M Fl :=
  (fStop (fExpr (fDef g_check_two (fCons (fVar 0) (fCons (fVar 1) fNil)))))
noncomputable def g_residue : FD := mkF 2 6 body_residue
noncomputable def body_distance : M Fl :=
  (fStop (fExpr (fDef g_check_two (fCons (fVar 0) (fCons (fVar 1) fNil)))))
noncomputable def g_distance : FD := mkF 2 5 body_distance
noncomputable def body_path : M Fl :=
  (fStop (fExpr (fDef g_check_two (fCons (fVar 0) (fCons (fVar 1) fNil)))))
noncomputable def g_path : FD := mkF 2 6 body_path
noncomputable abbrev L0__law_back : M Vl := (fDef g_read_back (fCons (fVar 0) (fCons (fVar 1) fNil)))
noncomputable abbrev L1__law_back : M Vl := (fDef g_union (fCons (fVar 0) (fCons (fVar 1) fNil)))
noncomputable abbrev L2__law_back : M Vl := (fDef g_intersection (fCons (fVar 0) (fCons (fVar 1) fNil)))
noncomputable abbrev L3__law_back : M Vl := (fDef g_difference (fCons (fVar 0) (fCons (fVar 1) fNil)))
noncomputable abbrev L4__law_back : M Vl := (fDef g_includes (fCons (fVar 0) (fCons (fVar 1) fNil)))
noncomputable abbrev L5__law_back : M Vl := (fDef g_missing (fCons (fVar 0) (fCons (fVar 1) fNil)))
noncomputable abbrev L6__law_back : M Vl := (fDef g_matches (fCons (fVar 0) (fCons (fVar 1) fNil)))
noncomputable abbrev L7__law_back : M Vl := (fDef g_count_between (fCons (fVar 0) (fCons (fVar 1) fNil)))
noncomputable abbrev L8__law_back : M Vl := (fDef g_residue (fCons (fVar 0) (fCons (fVar 1) fNil)))
noncomputable abbrev L9__law_back : M Vl := (fDef g_distance (fCons (fVar 0) (fCons (fVar 1) fNil)))
noncomputable abbrev L10__law_back : M Vl := (fDef g_path (fCons (fVar 0) (fCons (fVar 1) fNil)))
abbrev ld0__law_back : LamD := ⟨("_law_back" : Str) ++ (".<locals>." : Str), N__law_back, (lamAt s__law_back 0).1, (lamAt s__law_back 0).2.1, (lamAt s__law_back 0).2.2⟩
abbrev ld1__law_back : LamD := ⟨("_law_back" : Str) ++ (".<locals>." : Str), N__law_back, (lamAt s__law_back 1).1, (lamAt s__law_back 1).2.1, (lamAt s__law_back 1).2.2⟩
abbrev ld2__law_back : LamD := ⟨("_law_back" : Str) ++ (".<locals>." : Str), N__law_back, (lamAt s__law_back 2).1, (lamAt s__law_back 2).2.1, (lamAt s__law_back 2).2.2⟩
abbrev ld3__law_back : LamD := ⟨("_law_back" : Str) ++ (".<locals>." : Str), N__law_back, (lamAt s__law_back 3).1, (lamAt s__law_back 3).2.1, (lamAt s__law_back 3).2.2⟩
abbrev ld4__law_back : LamD := ⟨("_law_back" : Str) ++ (".<locals>." : Str), N__law_back, (lamAt s__law_back 4).1, (lamAt s__law_back 4).2.1, (lamAt s__law_back 4).2.2⟩
abbrev ld5__law_back : LamD := ⟨("_law_back" : Str) ++ (".<locals>." : Str), N__law_back, (lamAt s__law_back 5).1, (lamAt s__law_back 5).2.1, (lamAt s__law_back 5).2.2⟩
abbrev ld6__law_back : LamD := ⟨("_law_back" : Str) ++ (".<locals>." : Str), N__law_back, (lamAt s__law_back 6).1, (lamAt s__law_back 6).2.1, (lamAt s__law_back 6).2.2⟩
abbrev ld7__law_back : LamD := ⟨("_law_back" : Str) ++ (".<locals>." : Str), N__law_back, (lamAt s__law_back 7).1, (lamAt s__law_back 7).2.1, (lamAt s__law_back 7).2.2⟩
abbrev ld8__law_back : LamD := ⟨("_law_back" : Str) ++ (".<locals>." : Str), N__law_back, (lamAt s__law_back 8).1, (lamAt s__law_back 8).2.1, (lamAt s__law_back 8).2.2⟩
abbrev ld9__law_back : LamD := ⟨("_law_back" : Str) ++ (".<locals>." : Str), N__law_back, (lamAt s__law_back 9).1, (lamAt s__law_back 9).2.1, (lamAt s__law_back 9).2.2⟩
abbrev ld10__law_back : LamD := ⟨("_law_back" : Str) ++ (".<locals>." : Str), N__law_back, (lamAt s__law_back 10).1, (lamAt s__law_back 10).2.1, (lamAt s__law_back 10).2.2⟩
noncomputable def g__law_back (th : Str → Addr) : FD := gMk (th "_law_back") q__law_back N__law_back 2 17 (lamAt s__law_back 0 :: [lamAt s__law_back 1, lamAt s__law_back 2, lamAt s__law_back 3, lamAt s__law_back 4, lamAt s__law_back 5, lamAt s__law_back 6, lamAt s__law_back 7, lamAt s__law_back 8, lamAt s__law_back 9, lamAt s__law_back 10])
noncomputable def body__law_draws : M Fl :=
  (fRet (fCell (fLst (fCons (fOp oMod (fCall oInt (fCons (fVar 0) fNil)) (fOp oPowW (fOp oPowW (fOp oPowW (fC (.int 10)) (fC (.int 60))) (fC (.int 60))) (fC (.int 4)))) (fCons (fC (.int 0)) (fCons (fOp oGe (fVar 0) (fOp oPowW (fC (.int 10)) (fC (.int 18)))) fNil))))))
noncomputable def g__law_draws : FD := mkF 1 1 body__law_draws
noncomputable def body__law_next : M Fl :=
  (fSeq (fAsg (fOp oAdd (fOp oIx (fVar 0) (fC (.int 1))) (fC (.int 1))) (kSub (fVar 0) (fC (.int 1))))
  (fSeq (fAsg (fOp oIx (fVar 0) (fC (.int 1))) (kName 1))
  (fSeq (fIf (fTru (fOp oIx (fVar 0) (fC (.int 2)))) (fSeq (fAsg (fOp oMod (fCall oInt (fCons (fOp oIx (fVar 0) (fC (.int 0))) fNil)) (fOp oPowW (fC (.int 10)) (fC (.int 6)))) (kName 2))
  (fSeq (fAsg (fOp oDiv (fOp oIx (fVar 0) (fC (.int 0))) (fOp oPowW (fC (.int 10)) (fC (.int 6)))) (kSub (fVar 0) (fC (.int 0))))
  (fRet (fVar 2)))) fNext)
  (fSeq (fAsg (fOp oMod (fCall oInt (fCons (fOp oMulG (fOp oAdd (fOp oAdd (fOp oMod (fCall oInt (fCons (fOp oIx (fVar 0) (fC (.int 0))) fNil)) (fC (.int 1000003))) (fOp oMulG (fOp oMulG (fVar 1) (fVar 1)) (fC (.int 7919)))) (fVar 1)) (fC (.int 48271))) fNil)) (fC (.int 2147483629))) (kName 2))
  (fSeq (fAsg (fOp oMod (fCall oInt (fCons (fOp oMulG (fVar 2) (fVar 2)) fNil)) (fC (.int 2147483587))) (kName 2))
  (fRet (fOp oDiv (fOp oMod (fCall oInt (fCons (fOp oMulG (fVar 2) (fOp oAdd (fVar 2) (fC (.int 2)))) fNil)) (fC (.int 2147483579))) (fC (.int 7)))))))))
noncomputable def g__law_next : FD := mkF 1 3 body__law_next
noncomputable abbrev I0__law_list : M (List D) := (fRng1 (fCons (fVar 2) fNil))
noncomputable abbrev K0__law_list : Vl → M Unit := (kName 5)
noncomputable abbrev T0__law_list : M Bool := fYes
noncomputable abbrev E0__law_list : M Vl := (fOp oSub (fOp oMod (fCall oInt (fCons (fDef g__law_next (fCons (fVar 0) fNil)) fNil)) (fVar 3)) (fOp oDiv (fVar 3) (fC (.int 3))))
noncomputable abbrev I1__law_list : M (List D) := (orI (fItL (fVar 4)) (fItT (fVar 4)))
noncomputable abbrev K1__law_list : Vl → M Unit := (kName 6)
noncomputable abbrev T1__law_list : M Bool := fYes
noncomputable abbrev E1__law_list : M Vl := (fOp oMulG (fVar 6) (fOp oDiv (fOp oPowW (fC (.int 10)) (fC (.int 20))) (fOp oAdd (fVar 3) (fC (.int 1)))))
noncomputable def body__law_list : M Fl :=
  (fSeq (fAsg (fOp oMod (fCall oInt (fCons (fDef g__law_next (fCons (fVar 0) fNil)) fNil)) (fOp oAdd (fVar 1) (fC (.int 1)))) (kName 2))
  (fSeq (fAsg (fOp oIx (fDat (fLst (fCons (fC (.int 2)) (fCons (fC (.int 3)) (fCons (fOp oAdd (fVar 2) (fC (.int 1))) (fCons (fOp oAdd (fOp oMulG (fC (.int 4)) (fVar 2)) (fC (.int 1))) fNil)))))) (fOp oMod (fCall oInt (fCons (fDef g__law_next (fCons (fVar 0) fNil)) fNil)) (fC (.int 4)))) (kName 3))
  (fSeq (fAsg (fDat (fLc I0__law_list K0__law_list T0__law_list E0__law_list [5])) (kName 4))
  (fRet (fIf (fTest (fOp oEqG (fOp oMod (fCall oInt (fCons (fDef g__law_next (fCons (fVar 0) fNil)) fNil)) (fC (.int 8))) (fC (.int 0)))) (fDat (fLc I1__law_list K1__law_list T1__law_list E1__law_list [6])) (fVar 4))))))
noncomputable def g__law_list : FD := mkF 2 7 body__law_list
noncomputable abbrev tabF_ : List (LamD × M Vl) := [(ld0__law_single, L0__law_single), (ld1__law_single, L1__law_single), (ld2__law_single, L2__law_single), (ld3__law_single, L3__law_single), (ld4__law_single, L4__law_single), (ld5__law_single, L5__law_single), (ld6__law_single, L6__law_single), (ld7__law_single, L7__law_single), (ld8__law_single, L8__law_single), (ld9__law_single, L9__law_single), (ld10__law_single, L10__law_single), (ld11__law_single, L11__law_single), (ld12__law_single, L12__law_single), (ld0__law_more, L0__law_more), (ld1__law_more, L1__law_more), (ld2__law_more, L2__law_more), (ld3__law_more, L3__law_more), (ld0__law_back, L0__law_back), (ld1__law_back, L1__law_back), (ld2__law_back, L2__law_back), (ld3__law_back, L3__law_back), (ld4__law_back, L4__law_back), (ld5__law_back, L5__law_back), (ld6__law_back, L6__law_back), (ld7__law_back, L7__law_back), (ld8__law_back, L8__law_back), (ld9__law_back, L9__law_back), (ld10__law_back, L10__law_back)]
noncomputable def body__law_kept : M Fl :=
  (fSeq (fAsg (fC .none) (kName 1))
  (fSeq (fTry (csL [("InvalidList", true)]) 2 1 (fExpr (fAskT 0 tabF_)))
  (fSeq (fAsg (fCell (fLst (fCons (fIsE (ansL [("NoneType", false)] [("InvalidList", false)]) (fVar 1)) (fCons (fIsE (ansL [("NoneType", false)] [("InvalidList", false)]) (fVar 1)) fNil)))) (kName 3))
  (fSeq (fAsg (fCell (fOp oCat (fVar 3) (fDat (fLst (fCons (fIsE (ansL [("NoneType", false)] [("InvalidList", false)]) (fVar 1)) fNil))))) (kName 3))
  (fSeq (fAsg (fCell (fOp oCat (fVar 3) (fDat (fLst (fCons (fIsE (ansL [("NoneType", false)] [("InvalidList", false)]) (fVar 1)) (fCons (fIsE (ansL [("NoneType", false)] [("InvalidList", false)]) (fVar 1)) fNil)))))) (kName 3))
  (fSeq (fAsg (fCell (fOp oCat (fVar 3) (fDat (fLst (fCons (fIsE (ansL [("NoneType", false)] [("InvalidList", false)]) (fVar 1)) fNil))))) (kName 3))
  (fSeq (fExpr (fApp (fVar 3) (fIsE (ansL [("NoneType", false)] [("InvalidList", false)]) (fVar 1))))
  (fSeq (fIf (fOr (fTest (fOp oIn (fC (.bool true)) (fVar 3))) (fOr (fNot (fTru (fIsE (ansL [("NoneType", false)] [("InvalidList", true)]) (fVar 1)))) (fNot (fTru (fIsE (ansL [("NoneType", false)] [("InvalidList", true)]) (fVar 1)))))) (fRet (fC (.str "other"))) fNext)
  (fRet (fCall oRepr (fCons (fAtX "place" ["InvalidList"] (fVar 1)) fNil)))))))))))
noncomputable def g__law_kept : FD := mkA 1 4 body__law_kept
noncomputable abbrev I0__law_right (th : Str → Addr) : M (List D) := (orI (fItL (fDat (fLst (fCons (fC .none) (fCons (fC (.int 5)) (fCons (fC (.str "")) (fCons (fC (.str "12")) (fCons (fCall oTuple (fCons (fVar 1) fNil)) (fCons (fC (.dict [])) (fCons (fC (.bool true)) fNil)))))))))) (fItT (fDat (fLst (fCons (fC .none) (fCons (fC (.int 5)) (fCons (fC (.str "")) (fCons (fC (.str "12")) (fCons (fCall oTuple (fCons (fVar 1) fNil)) (fCons (fC (.dict [])) (fCons (fC (.bool true)) fNil)))))))))))
noncomputable abbrev K0__law_right (th : Str → Addr) : Vl → M Unit := (kName 3)
noncomputable abbrev T0__law_right (th : Str → Addr) : M Bool := fYes
noncomputable abbrev E0__law_right (th : Str → Addr) : M Vl := (fTup (fCons (fVar 3) (fCons (fC .none) fNil)))
noncomputable abbrev I1__law_right (th : Str → Addr) : M (List D) := (orI (fItL (fDat (fLst (fCons (fC .none) (fCons (fC (.bool true)) (fCons (fC (.str "1")) (fCons (fDat (fLst (fCons (fC (.int 1)) fNil))) (fCons (fTup (fCons (fC (.int 2)) fNil)) fNil)))))))) (fItT (fDat (fLst (fCons (fC .none) (fCons (fC (.bool true)) (fCons (fC (.str "1")) (fCons (fDat (fLst (fCons (fC (.int 1)) fNil))) (fCons (fTup (fCons (fC (.int 2)) fNil)) fNil)))))))))
noncomputable abbrev K1__law_right (th : Str → Addr) : Vl → M Unit := (kName 3)
noncomputable abbrev B1__law_right (th : Str → Addr) : M Fl := (fSeq (fAsg (fOp oMod (fCall oInt (fCons (fDef g__law_next (fCons (fVar 0) fNil)) fNil)) (fOp oAdd (fCall oLenG (fCons (fVar 1) fNil)) (fC (.int 1)))) (kName 4))
  (fExpr (fApp (fVar 2) (fTup (fCons (fOp oAdd (fOp oAdd (fOp oAdd (fSl oSl (fVar 1) fNoP (fP (fVar 4))) (fDat (fLst (fCons (fVar 3) fNil)))) (fSl oSl (fVar 1) (fP (fVar 4)) fNoP)) (fDat (fLst (fCons (fC .none) fNil)))) (fCons (fVar 4) fNil))))))
noncomputable abbrev T2__law_right (th : Str → Addr) : M Bool := (fTest (fOp oNeG (fDefA g__law_kept (fCons (fVar 8) fNil)) (fCall oRepr (fCons (fVar 6) fNil))))
noncomputable abbrev I3__law_right (th : Str → Addr) : M (List D) := (orI (fItL (fFrz (fVar 2))) (fItT (fFrz (fVar 2))))
noncomputable abbrev K3__law_right (th : Str → Addr) : Vl → M Unit := (kTup 2 (kCons (kName 5) (kCons (kName 6) kNil)))
noncomputable abbrev B3__law_right (th : Str → Addr) : M Fl := (fSeq (fAsg (fCatT (fCatT (fCatT (fCatT (fDefA (g__law_single th) (fCons (fVar 5) fNil)) (fDefA (g__law_back th) (fCons (fVar 5) (fCons (fC .none) fNil)))) (fDefA (g__law_back th) (fCons (fVar 1) (fCons (fVar 5) fNil)))) (fDefA (g__law_back th) (fCons (fVar 5) (fCons (fVar 5) fNil)))) (fDefA (g__law_back th) (fCons (fVar 5) (fCons (fDat (fLst fNil)) fNil)))) (kName 7))
  (fSeq (fAsg (fCatT (fCatT (fVar 7) (fDefA (g__law_more th) (fCons (fVar 5) (fCons (fDat (fLst fNil)) (fCons (fDat (fLst fNil)) fNil))))) (fDefA (g__law_more th) (fCons (fVar 5) (fCons (fVar 5) (fCons (fVar 5) fNil))))) (kName 7))
  (fSeq (fAsg (fCatT (fCatT (fCatT (fVar 7) (fDefA (g__law_more th) (fCons (fVar 5) (fCons (fC .none) (fCons (fC .none) fNil))))) (fDefA (g__law_more th) (fCons (fVar 1) (fCons (fVar 5) (fCons (fC .none) fNil))))) (fDefA (g__law_more th) (fCons (fVar 1) (fCons (fVar 1) (fCons (fVar 5) fNil))))) (kName 7))
  (fIf (fTest (fOp oNeG (fLcT (fVar 7) 8 (T2__law_right th)) (fDat (fLst fNil)))) (fRet (fC (.bool false))) fNext))))
noncomputable def body__law_right (th : Str → Addr) : M Fl :=
  (fSeq (fAsg (fDef g__law_list (fCons (fVar 0) (fCons (fC (.int 8)) fNil))) (kName 1))
  (fSeq (fAsg (fCell (fLc (I0__law_right th) (K0__law_right th) (T0__law_right th) (E0__law_right th) [3])) (kName 2))
  (fSeq (fFor (I1__law_right th) (K1__law_right th) (B1__law_right th))
  (fSeq (fFor (I3__law_right th) (K3__law_right th) (B3__law_right th))
  (fRet (fC (.bool true)))))))
noncomputable def g__law_right (th : Str → Addr) : FD := mkF 1 9 (body__law_right th)
/-! what the top has left -/
structure Top (K : PySem.W.Frag) (mg : Str → Option Value) where
  f_is_whole : Addr
  fd_is_whole : FuncData
  F_is_whole : Fun K "is_whole" "is_whole" s_is_whole f_is_whole fd_is_whole
  m_is_whole : mg "is_whole" = some (.ref f_is_whole)
  f_check_list : Addr
  fd_check_list : FuncData
  F_check_list : Fun K "check_list" "check_list" s_check_list f_check_list fd_check_list
  m_check_list : mg "check_list" = some (.ref f_check_list)
  f_units_of : Addr
  fd_units_of : FuncData
  F_units_of : Fun K "units_of" "units_of" s_units_of f_units_of fd_units_of
  m_units_of : mg "units_of" = some (.ref f_units_of)
  f_check_cut : Addr
  fd_check_cut : FuncData
  F_check_cut : Fun K "check_cut" "check_cut" s_check_cut f_check_cut fd_check_cut
  m_check_cut : mg "check_cut" = some (.ref f_check_cut)
  f_cut : Addr
  fd_cut : FuncData
  F_cut : Fun K "cut" "cut" s_cut f_cut fd_cut
  m_cut : mg "cut" = some (.ref f_cut)
  f_boundaries : Addr
  fd_boundaries : FuncData
  F_boundaries : Fun K "boundaries" "boundaries" s_boundaries f_boundaries fd_boundaries
  m_boundaries : mg "boundaries" = some (.ref f_boundaries)
  f_parents : Addr
  fd_parents : FuncData
  F_parents : Fun K "parents" "parents" s_parents f_parents fd_parents
  m_parents : mg "parents" = some (.ref f_parents)
  f_least_places : Addr
  fd_least_places : FuncData
  F_least_places : Fun K "least_places" "least_places" s_least_places f_least_places fd_least_places
  m_least_places : mg "least_places" = some (.ref f_least_places)
  f_found_back : Addr
  fd_found_back : FuncData
  F_found_back : Fun K "found_back" "found_back" s_found_back f_found_back fd_found_back
  m_found_back : mg "found_back" = some (.ref f_found_back)
  f_read_back : Addr
  fd_read_back : FuncData
  F_read_back : Fun K "read_back" "read_back" s_read_back f_read_back fd_read_back
  m_read_back : mg "read_back" = some (.ref f_read_back)
  f_count_results : Addr
  fd_count_results : FuncData
  F_count_results : Fun K "count_results" "count_results" s_count_results f_count_results fd_count_results
  m_count_results : mg "count_results" = some (.ref f_count_results)
  f_each_result : Addr
  fd_each_result : FuncData
  F_each_result : Fun K "each_result" "each_result" s_each_result f_each_result fd_each_result
  m_each_result : mg "each_result" = some (.ref f_each_result)
  f_bounds_of : Addr
  fd_bounds_of : FuncData
  F_bounds_of : Fun K "bounds_of" "bounds_of" s_bounds_of f_bounds_of fd_bounds_of
  m_bounds_of : mg "bounds_of" = some (.ref f_bounds_of)
  f_both : Addr
  fd_both : FuncData
  F_both : Fun K "both" "both" s_both f_both fd_both
  m_both : mg "both" = some (.ref f_both)
  f_either : Addr
  fd_either : FuncData
  F_either : Fun K "either" "either" s_either f_either fd_either
  m_either : mg "either" = some (.ref f_either)
  f_trees : Addr
  fd_trees : FuncData
  F_trees : Fun K "trees" "trees" s_trees f_trees fd_trees
  m_trees : mg "trees" = some (.ref f_trees)
  f_addresses : Addr
  fd_addresses : FuncData
  F_addresses : Fun K "addresses" "addresses" s_addresses f_addresses fd_addresses
  m_addresses : mg "addresses" = some (.ref f_addresses)
  f_check_two : Addr
  fd_check_two : FuncData
  F_check_two : Fun K "check_two" "check_two" s_check_two f_check_two fd_check_two
  m_check_two : mg "check_two" = some (.ref f_check_two)
  f_union : Addr
  fd_union : FuncData
  F_union : Fun K "union" "union" s_union f_union fd_union
  m_union : mg "union" = some (.ref f_union)
  f_intersection : Addr
  fd_intersection : FuncData
  F_intersection : Fun K "intersection" "intersection" s_intersection f_intersection fd_intersection
  m_intersection : mg "intersection" = some (.ref f_intersection)
  f_difference : Addr
  fd_difference : FuncData
  F_difference : Fun K "difference" "difference" s_difference f_difference fd_difference
  m_difference : mg "difference" = some (.ref f_difference)
  f_includes : Addr
  fd_includes : FuncData
  F_includes : Fun K "includes" "includes" s_includes f_includes fd_includes
  m_includes : mg "includes" = some (.ref f_includes)
  f_missing : Addr
  fd_missing : FuncData
  F_missing : Fun K "missing" "missing" s_missing f_missing fd_missing
  m_missing : mg "missing" = some (.ref f_missing)
  f_matches : Addr
  fd_matches : FuncData
  F_matches : Fun K "matches" "matches" s_matches f_matches fd_matches
  m_matches : mg "matches" = some (.ref f_matches)
  f_MergeList_of : Addr
  fd_MergeList_of : FuncData
  F_MergeList_of : Fun K "of" "MergeList.of" s_MergeList_of f_MergeList_of fd_MergeList_of
  C_MergeList : Addr
  mc_MergeList : mg "MergeList" = some (.ref C_MergeList)
  cr_MergeList : ClX.CRead K C_MergeList (.type "type")
  p_MergeList_of : Addr
  cm_MergeList_of : ClX.CMet K C_MergeList (.type "type") "of" p_MergeList_of f_MergeList_of
  f_count_between : Addr
  fd_count_between : FuncData
  F_count_between : Fun K "count_between" "count_between" s_count_between f_count_between fd_count_between
  m_count_between : mg "count_between" = some (.ref f_count_between)
  f_residue : Addr
  fd_residue : FuncData
  F_residue : Fun K "residue" "residue" s_residue f_residue fd_residue
  m_residue : mg "residue" = some (.ref f_residue)
  f_distance : Addr
  fd_distance : FuncData
  F_distance : Fun K "distance" "distance" s_distance f_distance fd_distance
  m_distance : mg "distance" = some (.ref f_distance)
  f_path : Addr
  fd_path : FuncData
  F_path : Fun K "path" "path" s_path f_path fd_path
  m_path : mg "path" = some (.ref f_path)
  f_median : Addr
  fd_median : FuncData
  F_median : Fun K "median" "median" s_median f_median fd_median
  m_median : mg "median" = some (.ref f_median)
  f_three_way : Addr
  fd_three_way : FuncData
  F_three_way : Fun K "three_way" "three_way" s_three_way f_three_way fd_three_way
  m_three_way : mg "three_way" = some (.ref f_three_way)
  f_count_sources : Addr
  fd_count_sources : FuncData
  F_count_sources : Fun K "count_sources" "count_sources" s_count_sources f_count_sources fd_count_sources
  m_count_sources : mg "count_sources" = some (.ref f_count_sources)
  f_sources_by_places : Addr
  fd_sources_by_places : FuncData
  F_sources_by_places : Fun K "sources_by_places" "sources_by_places" s_sources_by_places f_sources_by_places fd_sources_by_places
  m_sources_by_places : mg "sources_by_places" = some (.ref f_sources_by_places)
  f_each_source : Addr
  fd_each_source : FuncData
  F_each_source : Fun K "each_source" "each_source" s_each_source f_each_source fd_each_source
  m_each_source : mg "each_source" = some (.ref f_each_source)
  f_format_list : Addr
  fd_format_list : FuncData
  F_format_list : Fun K "format_list" "format_list" s_format_list f_format_list fd_format_list
  m_format_list : mg "format_list" = some (.ref f_format_list)
  f__law_draws : Addr
  fd__law_draws : FuncData
  F__law_draws : Fun K "_law_draws" "_law_draws" s__law_draws f__law_draws fd__law_draws
  m__law_draws : mg "_law_draws" = some (.ref f__law_draws)
  f__law_next : Addr
  fd__law_next : FuncData
  F__law_next : Fun K "_law_next" "_law_next" s__law_next f__law_next fd__law_next
  m__law_next : mg "_law_next" = some (.ref f__law_next)
  f__law_list : Addr
  fd__law_list : FuncData
  F__law_list : Fun K "_law_list" "_law_list" s__law_list f__law_list fd__law_list
  m__law_list : mg "_law_list" = some (.ref f__law_list)
  f__law_kept : Addr
  fd__law_kept : FuncData
  F__law_kept : Fun K "_law_kept" "_law_kept" s__law_kept f__law_kept fd__law_kept
  m__law_kept : mg "_law_kept" = some (.ref f__law_kept)
  f__law_single : Addr
  fd__law_single : FuncData
  F__law_single : Fun K "_law_single" "_law_single" s__law_single f__law_single fd__law_single
  m__law_single : mg "_law_single" = some (.ref f__law_single)
  f__law_more : Addr
  fd__law_more : FuncData
  F__law_more : Fun K "_law_more" "_law_more" s__law_more f__law_more fd__law_more
  m__law_more : mg "_law_more" = some (.ref f__law_more)
  f__law_back : Addr
  fd__law_back : FuncData
  F__law_back : Fun K "_law_back" "_law_back" s__law_back f__law_back fd__law_back
  m__law_back : mg "_law_back" = some (.ref f__law_back)
  f__law_right : Addr
  fd__law_right : FuncData
  F__law_right : Fun K "_law_right" "_law_right" s__law_right f__law_right fd__law_right
  m__law_right : mg "_law_right" = some (.ref f__law_right)
  f_law : Addr
  fd_law : FuncData
  F_law : Fun K "law" "law" s_law f_law fd_law
  m_law : mg "law" = some (.ref f_law)
  th : Str → Addr
  c__law_single : Addr
  o__law_single : fd__law_single.code = .ref c__law_single
  c__law_more : Addr
  o__law_more : fd__law_more.code = .ref c__law_more
  c__law_back : Addr
  o__law_back : fd__law_back.code = .ref c__law_back
  m_ValueError : mg "ValueError" = none
  m_bool : mg "bool" = none
  m_enumerate : mg "enumerate" = none
  m_int : mg "int" = none
  m_isinstance : mg "isinstance" = none
  m_len : mg "len" = none
  m_list : mg "list" = none
  m_range : mg "range" = none
  m_repr : mg "repr" = none
  m_tuple : mg "tuple" = none
  X_ClosedSide : OwnEx K mg "ClosedSide" "side" "ClosedSide.__init__" s_ClosedSide
  X_InvalidList : OwnEx K mg "InvalidList" "place" "InvalidList.__init__" s_InvalidList
  X_InvalidLists : OwnEx K mg "InvalidLists" "index" "InvalidLists.__init__" s_InvalidLists
  X_InvalidNumber : OwnEx K mg "InvalidNumber" "number" "InvalidNumber.__init__" s_InvalidNumber
  X_InvalidPlaces : OwnEx K mg "InvalidPlaces" "place" "InvalidPlaces.__init__" s_InvalidPlaces
  X_InvalidText : OwnEx K mg "InvalidText" "place" "InvalidText.__init__" s_InvalidText
  X_TooMany : OwnEx K mg "TooMany" "count" "TooMany.__init__" s_TooMany
  X_UnknownSide : OwnEx K mg "UnknownSide" "side" "UnknownSide.__init__" s_UnknownSide
  ns_InvalidList : PySem.W.subIn K (.ref X_InvalidList.C) (.type "StopIteration") = some false
  x_InvalidList_ClosedSide : PySem.W.exmOne K (.ref X_InvalidList.C) (.ref X_ClosedSide.C) = some false
  x_InvalidList_InvalidList : PySem.W.exmOne K (.ref X_InvalidList.C) (.ref X_InvalidList.C) = some true
  x_InvalidList_InvalidLists : PySem.W.exmOne K (.ref X_InvalidList.C) (.ref X_InvalidLists.C) = some false
  x_InvalidList_InvalidNumber : PySem.W.exmOne K (.ref X_InvalidList.C) (.ref X_InvalidNumber.C) = some false
  x_InvalidList_InvalidPlaces : PySem.W.exmOne K (.ref X_InvalidList.C) (.ref X_InvalidPlaces.C) = some false
  x_InvalidList_InvalidText : PySem.W.exmOne K (.ref X_InvalidList.C) (.ref X_InvalidText.C) = some false
  k_InvalidList_ClosedSide : PySem.W.kitOne K (.ref X_InvalidList.C) (.ref X_ClosedSide.C) = some false
  k_InvalidList_InvalidList : PySem.W.kitOne K (.ref X_InvalidList.C) (.ref X_InvalidList.C) = some true
  k_InvalidList_InvalidLists : PySem.W.kitOne K (.ref X_InvalidList.C) (.ref X_InvalidLists.C) = some false
  k_InvalidList_InvalidNumber : PySem.W.kitOne K (.ref X_InvalidList.C) (.ref X_InvalidNumber.C) = some false
  k_InvalidList_InvalidPlaces : PySem.W.kitOne K (.ref X_InvalidList.C) (.ref X_InvalidPlaces.C) = some false
  k_InvalidList_InvalidText : PySem.W.kitOne K (.ref X_InvalidList.C) (.ref X_InvalidText.C) = some false
  k_InvalidList_TooMany : PySem.W.kitOne K (.ref X_InvalidList.C) (.ref X_TooMany.C) = some false
  k_InvalidList_UnknownSide : PySem.W.kitOne K (.ref X_InvalidList.C) (.ref X_UnknownSide.C) = some false
  k_InvalidList_ValueError : PySem.W.kitOne K (.ref X_InvalidList.C) (.type "ValueError") = some true
  k_NoneType_ClosedSide : PySem.W.kitOne K (.type "NoneType") (.ref X_ClosedSide.C) = some false
  k_NoneType_InvalidList : PySem.W.kitOne K (.type "NoneType") (.ref X_InvalidList.C) = some false
  k_NoneType_InvalidLists : PySem.W.kitOne K (.type "NoneType") (.ref X_InvalidLists.C) = some false
  k_NoneType_InvalidNumber : PySem.W.kitOne K (.type "NoneType") (.ref X_InvalidNumber.C) = some false
  k_NoneType_InvalidPlaces : PySem.W.kitOne K (.type "NoneType") (.ref X_InvalidPlaces.C) = some false
  k_NoneType_InvalidText : PySem.W.kitOne K (.type "NoneType") (.ref X_InvalidText.C) = some false
  k_NoneType_TooMany : PySem.W.kitOne K (.type "NoneType") (.ref X_TooMany.C) = some false
  k_NoneType_UnknownSide : PySem.W.kitOne K (.type "NoneType") (.ref X_UnknownSide.C) = some false
  k_NoneType_ValueError : PySem.W.kitOne K (.type "NoneType") (.type "ValueError") = some false
structure TBs {K : PySem.W.Frag} {mg : Str → Option Value} (T : Top K mg) (base : Heap) : Prop where
  b__law_single : LamX.TabB base mg T.c__law_single (T.th "_law_single")
  b__law_more : LamX.TabB base mg T.c__law_more (T.th "_law_more")
  b__law_back : LamX.TabB base mg T.c__law_back (T.th "_law_back")
theorem okS_h {K : PySem.W.Frag} {mg : Str → Option Value} (T : Top K mg) : ∀ nm cls, okS_ nm = true → mg nm = some cls → PySem.W.subIn K cls (.type "StopIteration") = some false := fun nm cls h1 h2 => by
  have h1 := of_decide_eq_true h1
  subst h1
  rw [T.X_InvalidList.m] at h2
  cases h2
  exact T.ns_InvalidList
section
variable {P : Program} {w : World} {K : PySem.W.Frag} {mg : Str → Option Value} {base : Heap}
theorem b_is_whole (T : Top K mg) : Binds K T.fd_is_whole ["thing"] [] := T.F_is_whole.binds fun _ _ _ _ _ _ us hl => match us, hl with | [_], _ => rfl
theorem b_check_list (T : Top K mg) : Binds K T.fd_check_list ["values"] [] := T.F_check_list.binds fun _ _ _ _ _ _ us hl => match us, hl with | [_], _ => rfl
theorem b_units_of (T : Top K mg) : Binds K T.fd_units_of ["values"] [] := T.F_units_of.binds fun _ _ _ _ _ _ us hl => match us, hl with | [_], _ => rfl
theorem b_check_cut (T : Top K mg) : Binds K T.fd_check_cut ["values", "places"] [] := T.F_check_cut.binds fun _ _ _ _ _ _ us hl => match us, hl with | [_, _], _ => rfl
theorem b_cut (T : Top K mg) : Binds K T.fd_cut ["values", "places"] [] := T.F_cut.binds fun _ _ _ _ _ _ us hl => match us, hl with | [_, _], _ => rfl
theorem b_boundaries (T : Top K mg) : Binds K T.fd_boundaries ["values", "places"] [] := T.F_boundaries.binds fun _ _ _ _ _ _ us hl => match us, hl with | [_, _], _ => rfl
theorem b_parents (T : Top K mg) : Binds K T.fd_parents ["values"] [] := T.F_parents.binds fun _ _ _ _ _ _ us hl => match us, hl with | [_], _ => rfl
theorem b_least_places (T : Top K mg) : Binds K T.fd_least_places ["values", "places"] [] := T.F_least_places.binds fun _ _ _ _ _ _ us hl => match us, hl with | [_, _], _ => rfl
theorem b_found_back (T : Top K mg) : Binds K T.fd_found_back ["values", "goal"] [] := T.F_found_back.binds fun _ _ _ _ _ _ us hl => match us, hl with | [_, _], _ => rfl
theorem b_read_back (T : Top K mg) : Binds K T.fd_read_back ["values", "goal"] [] := T.F_read_back.binds fun _ _ _ _ _ _ us hl => match us, hl with | [_, _], _ => rfl
theorem b_count_results (T : Top K mg) : Binds K T.fd_count_results ["values"] [] := T.F_count_results.binds fun _ _ _ _ _ _ us hl => match us, hl with | [_], _ => rfl
theorem b_each_result (T : Top K mg) : Binds K T.fd_each_result ["values"] [] := T.F_each_result.binds fun _ _ _ _ _ _ us hl => match us, hl with | [_], _ => rfl
theorem b_bounds_of (T : Top K mg) : Binds K T.fd_bounds_of ["values", "goal"] [] := T.F_bounds_of.binds fun _ _ _ _ _ _ us hl => match us, hl with | [_, _], _ => rfl
theorem b_both (T : Top K mg) : Binds K T.fd_both ["values", "one", "other"] [] := T.F_both.binds fun _ _ _ _ _ _ us hl => match us, hl with | [_, _, _], _ => rfl
theorem b_either (T : Top K mg) : Binds K T.fd_either ["values", "one", "other"] [] := T.F_either.binds fun _ _ _ _ _ _ us hl => match us, hl with | [_, _, _], _ => rfl
theorem b_trees (T : Top K mg) : Binds K T.fd_trees ["values"] [] := T.F_trees.binds fun _ _ _ _ _ _ us hl => match us, hl with | [_], _ => rfl
theorem b_addresses (T : Top K mg) : Binds K T.fd_addresses ["values"] [] := T.F_addresses.binds fun _ _ _ _ _ _ us hl => match us, hl with | [_], _ => rfl
theorem b_check_two (T : Top K mg) : Binds K T.fd_check_two ["one", "other"] [] := T.F_check_two.binds fun _ _ _ _ _ _ us hl => match us, hl with | [_, _], _ => rfl
theorem b_union (T : Top K mg) : Binds K T.fd_union ["one", "other"] [] := T.F_union.binds fun _ _ _ _ _ _ us hl => match us, hl with | [_, _], _ => rfl
theorem b_intersection (T : Top K mg) : Binds K T.fd_intersection ["one", "other"] [] := T.F_intersection.binds fun _ _ _ _ _ _ us hl => match us, hl with | [_, _], _ => rfl
theorem b_difference (T : Top K mg) : Binds K T.fd_difference ["one", "other"] [] := T.F_difference.binds fun _ _ _ _ _ _ us hl => match us, hl with | [_, _], _ => rfl
theorem b_includes (T : Top K mg) : Binds K T.fd_includes ["one", "other"] [] := T.F_includes.binds fun _ _ _ _ _ _ us hl => match us, hl with | [_, _], _ => rfl
theorem b_missing (T : Top K mg) : Binds K T.fd_missing ["one", "other"] [] := T.F_missing.binds fun _ _ _ _ _ _ us hl => match us, hl with | [_, _], _ => rfl
theorem b_matches (T : Top K mg) : Binds K T.fd_matches ["one", "other"] [] := T.F_matches.binds fun _ _ _ _ _ _ us hl => match us, hl with | [_, _], _ => rfl
theorem b_MergeList_of (T : Top K mg) : Binds K T.fd_MergeList_of ["cls", "values"] [] := T.F_MergeList_of.binds fun _ _ _ _ _ _ us hl => match us, hl with | [_, _], _ => rfl
theorem b_count_between (T : Top K mg) : Binds K T.fd_count_between ["one", "other"] [] := T.F_count_between.binds fun _ _ _ _ _ _ us hl => match us, hl with | [_, _], _ => rfl
theorem b_residue (T : Top K mg) : Binds K T.fd_residue ["one", "other"] [] := T.F_residue.binds fun _ _ _ _ _ _ us hl => match us, hl with | [_, _], _ => rfl
theorem b_distance (T : Top K mg) : Binds K T.fd_distance ["one", "other"] [] := T.F_distance.binds fun _ _ _ _ _ _ us hl => match us, hl with | [_, _], _ => rfl
theorem b_path (T : Top K mg) : Binds K T.fd_path ["one", "other"] [] := T.F_path.binds fun _ _ _ _ _ _ us hl => match us, hl with | [_, _], _ => rfl
theorem b_median (T : Top K mg) : Binds K T.fd_median ["one", "two", "three"] [] := T.F_median.binds fun _ _ _ _ _ _ us hl => match us, hl with | [_, _, _], _ => rfl
theorem b_three_way (T : Top K mg) : Binds K T.fd_three_way ["base", "one", "other"] [] := T.F_three_way.binds fun _ _ _ _ _ _ us hl => match us, hl with | [_, _, _], _ => rfl
theorem b_count_sources (T : Top K mg) : Binds K T.fd_count_sources ["values"] [] := T.F_count_sources.binds fun _ _ _ _ _ _ us hl => match us, hl with | [_], _ => rfl
theorem b_sources_by_places (T : Top K mg) : Binds K T.fd_sources_by_places ["values"] [] := T.F_sources_by_places.binds fun _ _ _ _ _ _ us hl => match us, hl with | [_], _ => rfl
theorem b_each_source (T : Top K mg) : Binds K T.fd_each_source ["values"] [] := T.F_each_source.binds fun _ _ _ _ _ _ us hl => match us, hl with | [_], _ => rfl
theorem b_format_list (T : Top K mg) : Binds K T.fd_format_list ["values"] [] := T.F_format_list.binds fun _ _ _ _ _ _ us hl => match us, hl with | [_], _ => rfl
theorem b__law_draws (T : Top K mg) : Binds K T.fd__law_draws ["_law_cell"] [] := T.F__law_draws.binds fun _ _ _ _ _ _ us hl => match us, hl with | [_], _ => rfl
theorem b__law_next (T : Top K mg) : Binds K T.fd__law_next ["_law_draws_here"] [] := T.F__law_next.binds fun _ _ _ _ _ _ us hl => match us, hl with | [_], _ => rfl
theorem b__law_list (T : Top K mg) : Binds K T.fd__law_list ["_law_draws_here", "_law_most"] [] := T.F__law_list.binds fun _ _ _ _ _ _ us hl => match us, hl with | [_, _], _ => rfl
theorem b__law_kept (T : Top K mg) : Binds K T.fd__law_kept ["_law_ask"] [] := T.F__law_kept.binds fun _ _ _ _ _ _ us hl => match us, hl with | [_], _ => rfl
theorem b__law_single (T : Top K mg) : Binds K T.fd__law_single ["_law_bad"] [] := T.F__law_single.binds fun _ _ _ _ _ _ us hl => match us, hl with | [_], _ => rfl
theorem b__law_more (T : Top K mg) : Binds K T.fd__law_more ["_law_one", "_law_other", "_law_third"] [] := T.F__law_more.binds fun _ _ _ _ _ _ us hl => match us, hl with | [_, _, _], _ => rfl
theorem b__law_back (T : Top K mg) : Binds K T.fd__law_back ["_law_one", "_law_other"] [] := T.F__law_back.binds fun _ _ _ _ _ _ us hl => match us, hl with | [_, _], _ => rfl
theorem b__law_right (T : Top K mg) : Binds K T.fd__law_right ["_law_draws_here"] [] := T.F__law_right.binds fun _ _ _ _ _ _ us hl => match us, hl with | [_], _ => rfl
theorem b_law (T : Top K mg) : Binds K T.fd_law ["_law_script"] [] := T.F_law.binds fun _ _ _ _ _ _ us hl => match us, hl with | [_], _ => rfl
theorem bi_ClosedSide (T : Top K mg) : Binds K T.X_ClosedSide.fd ["self", "side"] [] := T.X_ClosedSide.F.binds fun _ _ _ _ _ _ us hl => match us, hl with | [_, _], _ => rfl
theorem oki_ClosedSide (T : Top K mg) : FnOk P w K mg base CX0 1 T.X_ClosedSide.fI T.X_ClosedSide.fd ["self", "side"] (spI K "side") := T.X_ClosedSide.F.ok (k := 0) sc_ClosedSide (fun _ _ _ _ h => spI_len h) (fun cdv A out s H vs Q E hr h => ⟨_, pss_one (ps_ost (pv 0) (pv 1)), init_rd h⟩)
theorem bi_InvalidList (T : Top K mg) : Binds K T.X_InvalidList.fd ["self", "place"] [] := T.X_InvalidList.F.binds fun _ _ _ _ _ _ us hl => match us, hl with | [_, _], _ => rfl
theorem oki_InvalidList (T : Top K mg) : FnOk P w K mg base CX0 1 T.X_InvalidList.fI T.X_InvalidList.fd ["self", "place"] (spI K "place") := T.X_InvalidList.F.ok (k := 0) sc_InvalidList (fun _ _ _ _ h => spI_len h) (fun cdv A out s H vs Q E hr h => ⟨_, pss_one (ps_ost (pv 0) (pv 1)), init_rd h⟩)
theorem bi_InvalidLists (T : Top K mg) : Binds K T.X_InvalidLists.fd ["self", "index"] [] := T.X_InvalidLists.F.binds fun _ _ _ _ _ _ us hl => match us, hl with | [_, _], _ => rfl
theorem oki_InvalidLists (T : Top K mg) : FnOk P w K mg base CX0 1 T.X_InvalidLists.fI T.X_InvalidLists.fd ["self", "index"] (spI K "index") := T.X_InvalidLists.F.ok (k := 0) sc_InvalidLists (fun _ _ _ _ h => spI_len h) (fun cdv A out s H vs Q E hr h => ⟨_, pss_one (ps_ost (pv 0) (pv 1)), init_rd h⟩)
theorem bi_InvalidNumber (T : Top K mg) : Binds K T.X_InvalidNumber.fd ["self", "number"] [] := T.X_InvalidNumber.F.binds fun _ _ _ _ _ _ us hl => match us, hl with | [_, _], _ => rfl
theorem oki_InvalidNumber (T : Top K mg) : FnOk P w K mg base CX0 1 T.X_InvalidNumber.fI T.X_InvalidNumber.fd ["self", "number"] (spI K "number") := T.X_InvalidNumber.F.ok (k := 0) sc_InvalidNumber (fun _ _ _ _ h => spI_len h) (fun cdv A out s H vs Q E hr h => ⟨_, pss_one (ps_ost (pv 0) (pv 1)), init_rd h⟩)
theorem bi_InvalidPlaces (T : Top K mg) : Binds K T.X_InvalidPlaces.fd ["self", "place"] [] := T.X_InvalidPlaces.F.binds fun _ _ _ _ _ _ us hl => match us, hl with | [_, _], _ => rfl
theorem oki_InvalidPlaces (T : Top K mg) : FnOk P w K mg base CX0 1 T.X_InvalidPlaces.fI T.X_InvalidPlaces.fd ["self", "place"] (spI K "place") := T.X_InvalidPlaces.F.ok (k := 0) sc_InvalidPlaces (fun _ _ _ _ h => spI_len h) (fun cdv A out s H vs Q E hr h => ⟨_, pss_one (ps_ost (pv 0) (pv 1)), init_rd h⟩)
theorem bi_InvalidText (T : Top K mg) : Binds K T.X_InvalidText.fd ["self", "place"] [] := T.X_InvalidText.F.binds fun _ _ _ _ _ _ us hl => match us, hl with | [_, _], _ => rfl
theorem oki_InvalidText (T : Top K mg) : FnOk P w K mg base CX0 1 T.X_InvalidText.fI T.X_InvalidText.fd ["self", "place"] (spI K "place") := T.X_InvalidText.F.ok (k := 0) sc_InvalidText (fun _ _ _ _ h => spI_len h) (fun cdv A out s H vs Q E hr h => ⟨_, pss_one (ps_ost (pv 0) (pv 1)), init_rd h⟩)
theorem bi_TooMany (T : Top K mg) : Binds K T.X_TooMany.fd ["self", "count"] [] := T.X_TooMany.F.binds fun _ _ _ _ _ _ us hl => match us, hl with | [_, _], _ => rfl
theorem oki_TooMany (T : Top K mg) : FnOk P w K mg base CX0 1 T.X_TooMany.fI T.X_TooMany.fd ["self", "count"] (spI K "count") := T.X_TooMany.F.ok (k := 0) sc_TooMany (fun _ _ _ _ h => spI_len h) (fun cdv A out s H vs Q E hr h => ⟨_, pss_one (ps_ost (pv 0) (pv 1)), init_rd h⟩)
theorem bi_UnknownSide (T : Top K mg) : Binds K T.X_UnknownSide.fd ["self", "side"] [] := T.X_UnknownSide.F.binds fun _ _ _ _ _ _ us hl => match us, hl with | [_, _], _ => rfl
theorem oki_UnknownSide (T : Top K mg) : FnOk P w K mg base CX0 1 T.X_UnknownSide.fI T.X_UnknownSide.fd ["self", "side"] (spI K "side") := T.X_UnknownSide.F.ok (k := 0) sc_UnknownSide (fun _ _ _ _ h => spI_len h) (fun cdv A out s H vs Q E hr h => ⟨_, pss_one (ps_ost (pv 0) (pv 1)), init_rd h⟩)
theorem ok_is_whole (T : Top K mg) : FnG P w K mg base 1 T.f_is_whole T.fd_is_whole ["thing"] (FSp mg g_is_whole) := by
  refine T.F_is_whole.okG (k := 0) sc_is_whole (fun _ _ _ _ h => fsp_len h) (fun cdv A out s G vs Q E hr hgd h => ?_)
  have tk : Takes (cxOf (L2.CX P w) P w K mg base N_is_whole "is_whole" (defScope s_is_whole) T.f_is_whole cdv A out s G E) (fun cls d _ H => E cls d H) := takes_of rfl rfl rfl rfl
  refine ⟨_, (pss_one (ps_ret (pe_and (pe_callB (isiK (K := K)) (by rfl) T.m_isinstance (by decide +kernel) (pa_cons (pv 0) (pa_cons (pe_bltn (v := .ty "int") (by rfl) T.m_int (by decide +kernel) rfl) pa_nil))) (pe_one (pe_not (pe_callB (isiK (K := K)) (by rfl) T.m_isinstance (by decide +kernel) (pa_cons (pv 0) (pa_cons (pe_bltn (v := .ty "bool") (by rfl) T.m_bool (by decide +kernel) rfl) pa_nil)))))))), ?_⟩
  exact fn_end (N := N_is_whole) (ar := 1) (body := body_is_whole) (ss_ret (se_andV (se_isi (se_var 0)) (se_notV (se_isi (se_var 0))))) h
theorem okk_is_whole (T : Top K mg) : FnOk P w K mg base (L2.CX P w) 1 T.f_is_whole T.fd_is_whole ["thing"] (FSp mg g_is_whole) := by
  refine T.F_is_whole.okC (k := 0) sc_is_whole (fun _ _ _ _ h => fsp_len h) (fun cdv A out s G vs Q E hr h => ?_)
  have tk : Takes (cxOf (L2.CX P w) P w K mg base N_is_whole "is_whole" (defScope s_is_whole) T.f_is_whole cdv A out s G E) (fun cls d _ H => E cls d H) := takes_of rfl rfl rfl rfl
  refine ⟨_, (pss_one (ps_ret (pe_and (pe_callB (isiK (K := K)) (by rfl) T.m_isinstance (by decide +kernel) (pa_cons (pv 0) (pa_cons (pe_bltn (v := .ty "int") (by rfl) T.m_int (by decide +kernel) rfl) pa_nil))) (pe_one (pe_not (pe_callB (isiK (K := K)) (by rfl) T.m_isinstance (by decide +kernel) (pa_cons (pv 0) (pa_cons (pe_bltn (v := .ty "bool") (by rfl) T.m_bool (by decide +kernel) rfl) pa_nil)))))))), ?_⟩
  exact fn_end (N := N_is_whole) (ar := 1) (body := body_is_whole) (ss_ret (se_andV (se_isi (se_var 0)) (se_notV (se_isi (se_var 0))))) h
theorem ok_check_list (T : Top K mg) : FnG P w K mg base 3 T.f_check_list T.fd_check_list ["values"] (FSp mg g_check_list) := by
  refine T.F_check_list.okG (k := 2) sc_check_list (fun _ _ _ _ h => fsp_len h) (fun cdv A out s G vs Q E hr hgd h => ?_)
  have tk : Takes (cxOf (L2.CX P w) P w K mg base N_check_list "check_list" (defScope s_check_list) T.f_check_list cdv A out s G E) (fun cls d _ H => E cls d H) := takes_of rfl rfl rfl rfl
  refine ⟨_, (pss_cons (ps_if (pt_not (ptK (K := K) (pe_callB (isiK (K := K)) (by rfl) T.m_isinstance (by decide +kernel) (pa_cons (pv 0) (pa_cons (pe_bltn (v := .ty "list") (by rfl) T.m_list (by decide +kernel) rfl) pa_nil))) (by intro _; rfl))) (pss_one (ps_raise rfl tk (pmk_oex T.X_InvalidList.oc T.X_InvalidList.iC T.X_InvalidList.tI (oki_InvalidList T) (hr.mono (by decide)) (bi_InvalidList T) .nil pass0 (by rfl) T.X_InvalidList.m (pa_cons pe_non pa_nil)))) pss_nil)
  (pss_one (ps_for (passes_of rfl) rfl (piEK (K := K) (by rfl) T.m_enumerate (pa_cons (pv 0) pa_nil)) (pgTK (K := K) (n := 2) rfl (pgs_cons (pg_name (i := 1) sc_check_list.nd rfl (.inl rfl)) (pgs_cons (pg_name (i := 2) sc_check_list.nd rfl (.inl rfl)) pgs_nil))) (pss_one (ps_if (pt_not (ptK (K := K) (pe_callG (ok_is_whole T) (hr.mono (by decide)) hgd (by rfl) T.m_is_whole T.F_is_whole.kp (b_is_whole T) tk (pa_cons (pv 2) pa_nil)) (by intro _; rfl))) (pss_one (ps_raise rfl tk (pmk_oex T.X_InvalidList.oc T.X_InvalidList.iC T.X_InvalidList.tI (oki_InvalidList T) (hr.mono (by decide)) (bi_InvalidList T) .nil pass0 (by rfl) T.X_InvalidList.m (pa_cons (pv 1) pa_nil)))) pss_nil))))), ?_⟩
  exact fn_end (N := N_check_list) (ar := 1) (body := body_check_list) (ss_cons (ss_if (st_not (st_tru (se_isi (se_var 0)))) (ss_raise T.X_InvalidList.m T.X_InvalidList.oc T.X_InvalidList.nf se_non) ss_nil)
  (ss_for (si_enum (sa_cons (se_var 0) sa_nil)) (sg_tup (sgs_cons sg_name (sgs_cons sg_name sgs_nil))) (ss_if (st_not (st_tru (se_def (sa_cons (se_var 2) sa_nil)))) (ss_raise T.X_InvalidList.m T.X_InvalidList.oc T.X_InvalidList.nf (se_var 1)) ss_nil))) h
theorem okk_check_list (T : Top K mg) : FnOk P w K mg base (L2.CX P w) 3 T.f_check_list T.fd_check_list ["values"] (FSp mg g_check_list) := by
  refine T.F_check_list.okC (k := 2) sc_check_list (fun _ _ _ _ h => fsp_len h) (fun cdv A out s G vs Q E hr h => ?_)
  have tk : Takes (cxOf (L2.CX P w) P w K mg base N_check_list "check_list" (defScope s_check_list) T.f_check_list cdv A out s G E) (fun cls d _ H => E cls d H) := takes_of rfl rfl rfl rfl
  refine ⟨_, (pss_cons (ps_if (pt_not (ptK (K := K) (pe_callB (isiK (K := K)) (by rfl) T.m_isinstance (by decide +kernel) (pa_cons (pv 0) (pa_cons (pe_bltn (v := .ty "list") (by rfl) T.m_list (by decide +kernel) rfl) pa_nil))) (by intro _; rfl))) (pss_one (ps_raise rfl tk (pmk_oex T.X_InvalidList.oc T.X_InvalidList.iC T.X_InvalidList.tI (oki_InvalidList T) (hr.mono (by decide)) (bi_InvalidList T) .nil pass0 (by rfl) T.X_InvalidList.m (pa_cons pe_non pa_nil)))) pss_nil)
  (pss_one (ps_for (passes_of rfl) rfl (piEK (K := K) (by rfl) T.m_enumerate (pa_cons (pv 0) pa_nil)) (pgTK (K := K) (n := 2) rfl (pgs_cons (pg_name (i := 1) sc_check_list.nd rfl (.inl rfl)) (pgs_cons (pg_name (i := 2) sc_check_list.nd rfl (.inl rfl)) pgs_nil))) (pss_one (ps_if (pt_not (ptK (K := K) (pe_callSD (okk_is_whole T) (hr.mono (by decide)) (by rfl) T.m_is_whole T.F_is_whole.kp (b_is_whole T) .nil (fun σ => passAt tk σ) (pa_cons (pv 2) pa_nil)) (by intro _; rfl))) (pss_one (ps_raise rfl tk (pmk_oex T.X_InvalidList.oc T.X_InvalidList.iC T.X_InvalidList.tI (oki_InvalidList T) (hr.mono (by decide)) (bi_InvalidList T) .nil pass0 (by rfl) T.X_InvalidList.m (pa_cons (pv 1) pa_nil)))) pss_nil))))), ?_⟩
  exact fn_end (N := N_check_list) (ar := 1) (body := body_check_list) (ss_cons (ss_if (st_not (st_tru (se_isi (se_var 0)))) (ss_raise T.X_InvalidList.m T.X_InvalidList.oc T.X_InvalidList.nf se_non) ss_nil)
  (ss_for (si_enum (sa_cons (se_var 0) sa_nil)) (sg_tup (sgs_cons sg_name (sgs_cons sg_name sgs_nil))) (ss_if (st_not (st_tru (se_def (sa_cons (se_var 2) sa_nil)))) (ss_raise T.X_InvalidList.m T.X_InvalidList.oc T.X_InvalidList.nf (se_var 1)) ss_nil))) h
theorem ok_check_cut (T : Top K mg) : FnG P w K mg base 4 T.f_check_cut T.fd_check_cut ["values", "places"] (FSp mg g_check_cut) := by
  refine T.F_check_cut.okG (k := 3) sc_check_cut (fun _ _ _ _ h => fsp_len h) (fun cdv A out s G vs Q E hr hgd h => ?_)
  have tk : Takes (cxOf (L2.CX P w) P w K mg base N_check_cut "check_cut" (defScope s_check_cut) T.f_check_cut cdv A out s G E) (fun cls d _ H => E cls d H) := takes_of rfl rfl rfl rfl
  refine ⟨_, (pss_stop (ps_expr (pe_callG (ok_check_list T) (hr.mono (by decide)) hgd (by rfl) T.m_check_list T.F_check_list.kp (b_check_list T) tk (pa_cons (pv 0) pa_nil)))), ?_⟩
  exact fn_end (N := N_check_cut) (ar := 2) (body := body_check_cut) (ss_stop (ss_expr (se_def (sa_cons (se_var 0) sa_nil)))) h
theorem ok_cut (T : Top K mg) : FnG P w K mg base 5 T.f_cut T.fd_cut ["values", "places"] (FSp mg g_cut) := by
  refine T.F_cut.okG (k := 4) sc_cut (fun _ _ _ _ h => fsp_len h) (fun cdv A out s G vs Q E hr hgd h => ?_)
  have tk : Takes (cxOf (L2.CX P w) P w K mg base N_cut "cut" (defScope s_cut) T.f_cut cdv A out s G E) (fun cls d _ H => E cls d H) := takes_of rfl rfl rfl rfl
  refine ⟨_, (pss_stop (ps_expr (pe_callG (ok_check_cut T) (hr.mono (by decide)) hgd (by rfl) T.m_check_cut T.F_check_cut.kp (b_check_cut T) tk (pa_cons (pv 0) (pa_cons (pv 1) pa_nil))))), ?_⟩
  exact fn_end (N := N_cut) (ar := 2) (body := body_cut) (ss_stop (ss_expr (se_def (sa_cons (se_var 0) (sa_cons (se_var 1) sa_nil))))) h
theorem ok_boundaries (T : Top K mg) : FnG P w K mg base 5 T.f_boundaries T.fd_boundaries ["values", "places"] (FSp mg g_boundaries) := by
  refine T.F_boundaries.okG (k := 4) sc_boundaries (fun _ _ _ _ h => fsp_len h) (fun cdv A out s G vs Q E hr hgd h => ?_)
  have tk : Takes (cxOf (L2.CX P w) P w K mg base N_boundaries "boundaries" (defScope s_boundaries) T.f_boundaries cdv A out s G E) (fun cls d _ H => E cls d H) := takes_of rfl rfl rfl rfl
  refine ⟨_, (pss_stop (ps_expr (pe_callG (ok_check_cut T) (hr.mono (by decide)) hgd (by rfl) T.m_check_cut T.F_check_cut.kp (b_check_cut T) tk (pa_cons (pv 0) (pa_cons (pv 1) pa_nil))))), ?_⟩
  exact fn_end (N := N_boundaries) (ar := 2) (body := body_boundaries) (ss_stop (ss_expr (se_def (sa_cons (se_var 0) (sa_cons (se_var 1) sa_nil))))) h
theorem ok_least_places (T : Top K mg) : FnG P w K mg base 5 T.f_least_places T.fd_least_places ["values", "places"] (FSp mg g_least_places) := by
  refine T.F_least_places.okG (k := 4) sc_least_places (fun _ _ _ _ h => fsp_len h) (fun cdv A out s G vs Q E hr hgd h => ?_)
  have tk : Takes (cxOf (L2.CX P w) P w K mg base N_least_places "least_places" (defScope s_least_places) T.f_least_places cdv A out s G E) (fun cls d _ H => E cls d H) := takes_of rfl rfl rfl rfl
  refine ⟨_, (pss_stop (ps_expr (pe_callG (ok_check_cut T) (hr.mono (by decide)) hgd (by rfl) T.m_check_cut T.F_check_cut.kp (b_check_cut T) tk (pa_cons (pv 0) (pa_cons (pv 1) pa_nil))))), ?_⟩
  exact fn_end (N := N_least_places) (ar := 2) (body := body_least_places) (ss_stop (ss_expr (se_def (sa_cons (se_var 0) (sa_cons (se_var 1) sa_nil))))) h
theorem ok_parents (T : Top K mg) : FnG P w K mg base 4 T.f_parents T.fd_parents ["values"] (FSp mg g_parents) := by
  refine T.F_parents.okG (k := 3) sc_parents (fun _ _ _ _ h => fsp_len h) (fun cdv A out s G vs Q E hr hgd h => ?_)
  have tk : Takes (cxOf (L2.CX P w) P w K mg base N_parents "parents" (defScope s_parents) T.f_parents cdv A out s G E) (fun cls d _ H => E cls d H) := takes_of rfl rfl rfl rfl
  refine ⟨_, (pss_stop (ps_expr (pe_callG (ok_check_list T) (hr.mono (by decide)) hgd (by rfl) T.m_check_list T.F_check_list.kp (b_check_list T) tk (pa_cons (pv 0) pa_nil)))), ?_⟩
  exact fn_end (N := N_parents) (ar := 1) (body := body_parents) (ss_stop (ss_expr (se_def (sa_cons (se_var 0) sa_nil)))) h
theorem ok_count_results (T : Top K mg) : FnG P w K mg base 4 T.f_count_results T.fd_count_results ["values"] (FSp mg g_count_results) := by
  refine T.F_count_results.okG (k := 3) sc_count_results (fun _ _ _ _ h => fsp_len h) (fun cdv A out s G vs Q E hr hgd h => ?_)
  have tk : Takes (cxOf (L2.CX P w) P w K mg base N_count_results "count_results" (defScope s_count_results) T.f_count_results cdv A out s G E) (fun cls d _ H => E cls d H) := takes_of rfl rfl rfl rfl
  refine ⟨_, (pss_stop (ps_expr (pe_callG (ok_check_list T) (hr.mono (by decide)) hgd (by rfl) T.m_check_list T.F_check_list.kp (b_check_list T) tk (pa_cons (pv 0) pa_nil)))), ?_⟩
  exact fn_end (N := N_count_results) (ar := 1) (body := body_count_results) (ss_stop (ss_expr (se_def (sa_cons (se_var 0) sa_nil)))) h
theorem ok_count_sources (T : Top K mg) : FnG P w K mg base 4 T.f_count_sources T.fd_count_sources ["values"] (FSp mg g_count_sources) := by
  refine T.F_count_sources.okG (k := 3) sc_count_sources (fun _ _ _ _ h => fsp_len h) (fun cdv A out s G vs Q E hr hgd h => ?_)
  have tk : Takes (cxOf (L2.CX P w) P w K mg base N_count_sources "count_sources" (defScope s_count_sources) T.f_count_sources cdv A out s G E) (fun cls d _ H => E cls d H) := takes_of rfl rfl rfl rfl
  refine ⟨_, (pss_stop (ps_expr (pe_callG (ok_check_list T) (hr.mono (by decide)) hgd (by rfl) T.m_check_list T.F_check_list.kp (b_check_list T) tk (pa_cons (pv 0) pa_nil)))), ?_⟩
  exact fn_end (N := N_count_sources) (ar := 1) (body := body_count_sources) (ss_stop (ss_expr (se_def (sa_cons (se_var 0) sa_nil)))) h
theorem ok_sources_by_places (T : Top K mg) : FnG P w K mg base 4 T.f_sources_by_places T.fd_sources_by_places ["values"] (FSp mg g_sources_by_places) := by
  refine T.F_sources_by_places.okG (k := 3) sc_sources_by_places (fun _ _ _ _ h => fsp_len h) (fun cdv A out s G vs Q E hr hgd h => ?_)
  have tk : Takes (cxOf (L2.CX P w) P w K mg base N_sources_by_places "sources_by_places" (defScope s_sources_by_places) T.f_sources_by_places cdv A out s G E) (fun cls d _ H => E cls d H) := takes_of rfl rfl rfl rfl
  refine ⟨_, (pss_stop (ps_expr (pe_callG (ok_check_list T) (hr.mono (by decide)) hgd (by rfl) T.m_check_list T.F_check_list.kp (b_check_list T) tk (pa_cons (pv 0) pa_nil)))), ?_⟩
  exact fn_end (N := N_sources_by_places) (ar := 1) (body := body_sources_by_places) (ss_stop (ss_expr (se_def (sa_cons (se_var 0) sa_nil)))) h
theorem ok_format_list (T : Top K mg) : FnG P w K mg base 4 T.f_format_list T.fd_format_list ["values"] (FSp mg g_format_list) := by
  refine T.F_format_list.okG (k := 3) sc_format_list (fun _ _ _ _ h => fsp_len h) (fun cdv A out s G vs Q E hr hgd h => ?_)
  have tk : Takes (cxOf (L2.CX P w) P w K mg base N_format_list "format_list" (defScope s_format_list) T.f_format_list cdv A out s G E) (fun cls d _ H => E cls d H) := takes_of rfl rfl rfl rfl
  refine ⟨_, (pss_stop (ps_expr (pe_callG (ok_check_list T) (hr.mono (by decide)) hgd (by rfl) T.m_check_list T.F_check_list.kp (b_check_list T) tk (pa_cons (pv 0) pa_nil)))), ?_⟩
  exact fn_end (N := N_format_list) (ar := 1) (body := body_format_list) (ss_stop (ss_expr (se_def (sa_cons (se_var 0) sa_nil)))) h
theorem ok_MergeList_of (T : Top K mg) : FnR P w K mg base (L2.CX P w) 4 T.f_MergeList_of (spCm mg T.C_MergeList g_check_list) :=
  fnR_cmK (k := 3) (N := N_MergeList_of) T.F_MergeList_of sc_MergeList_of (b_MergeList_of T) (by decide) (fun cdv A out s G Q E hr => by
    have tk : Takes (cxOf (L2.CX P w) P w K mg base N_MergeList_of "MergeList.of" (defScope s_MergeList_of) T.f_MergeList_of cdv A out s G E) (fun cls d _ H => E cls d H) := takes_of rfl rfl rfl rfl
    exact (pss_stop (ps_expr (pe_callSD (okk_check_list T) (hr.mono (by decide)) (by rfl) T.m_check_list T.F_check_list.kp (b_check_list T) .nil (fun σ => passAt tk σ) (pa_cons (pv 1) pa_nil)))))
theorem ok_trees (T : Top K mg) : FnG P w K mg base 4 T.f_trees T.fd_trees ["values"] (FSp mg g_trees) := by
  refine T.F_trees.okG (k := 3) sc_trees (fun _ _ _ _ h => fsp_len h) (fun cdv A out s G vs Q E hr hgd h => ?_)
  have tk : Takes (cxOf (L2.CX P w) P w K mg base N_trees "trees" (defScope s_trees) T.f_trees cdv A out s G E) (fun cls d _ H => E cls d H) := takes_of rfl rfl rfl rfl
  refine ⟨_, (pss_stop (ps_expr (pe_callG (ok_check_list T) (hr.mono (by decide)) hgd (by rfl) T.m_check_list T.F_check_list.kp (b_check_list T) tk (pa_cons (pv 0) pa_nil)))), ?_⟩
  exact fn_end (N := N_trees) (ar := 1) (body := body_trees) (ss_stop (ss_expr (se_def (sa_cons (se_var 0) sa_nil)))) h
theorem ok_addresses (T : Top K mg) : FnG P w K mg base 4 T.f_addresses T.fd_addresses ["values"] (FSp mg g_addresses) := by
  refine T.F_addresses.okG (k := 3) sc_addresses (fun _ _ _ _ h => fsp_len h) (fun cdv A out s G vs Q E hr hgd h => ?_)
  have tk : Takes (cxOf (L2.CX P w) P w K mg base N_addresses "addresses" (defScope s_addresses) T.f_addresses cdv A out s G E) (fun cls d _ H => E cls d H) := takes_of rfl rfl rfl rfl
  refine ⟨_, (pss_stop (ps_expr (pe_callG (ok_check_list T) (hr.mono (by decide)) hgd (by rfl) T.m_check_list T.F_check_list.kp (b_check_list T) tk (pa_cons (pv 0) pa_nil)))), ?_⟩
  exact fn_end (N := N_addresses) (ar := 1) (body := body_addresses) (ss_stop (ss_expr (se_def (sa_cons (se_var 0) sa_nil)))) h
theorem ok_each_result (T : Top K mg) : GFn P w K mg base 4 T.f_each_result T.fd_each_result ["values"] (fun vs H _ E => FSp mg g_each_result vs H (fun _ _ => True) E) := by
  refine T.F_each_result.okRaise (k := 3) (sp := FSp mg g_each_result) sc_each_result (fun _ _ _ _ h => fsp_lenR h) (fun cdv A out s H vs E pn hr h => ?_)
  have tk : Takes (gcxOf P w K mg base N_each_result "each_result" (defScope s_each_result) T.f_each_result cdv A out s H E pn) (fun cls d _ H => E cls d H) := takes_gcx
  exact ⟨_, (pss_stop (ps_expr (pe_callSD (okk_check_list T) (hr.mono (by decide)) (by rfl) T.m_check_list T.F_check_list.kp (b_check_list T) .nil (fun σ => passAt tk σ) (pa_cons (pv 0) pa_nil)))), fun D => fn_endR (N := N_each_result) (ar := 1) (body := body_each_result) (ss_stop (ss_expr (se_def (sa_cons (se_var 0) sa_nil)))) h D⟩
theorem ok_each_source (T : Top K mg) : GFn P w K mg base 4 T.f_each_source T.fd_each_source ["values"] (fun vs H _ E => FSp mg g_each_source vs H (fun _ _ => True) E) := by
  refine T.F_each_source.okRaise (k := 3) (sp := FSp mg g_each_source) sc_each_source (fun _ _ _ _ h => fsp_lenR h) (fun cdv A out s H vs E pn hr h => ?_)
  have tk : Takes (gcxOf P w K mg base N_each_source "each_source" (defScope s_each_source) T.f_each_source cdv A out s H E pn) (fun cls d _ H => E cls d H) := takes_gcx
  exact ⟨_, (pss_stop (ps_expr (pe_callSD (okk_check_list T) (hr.mono (by decide)) (by rfl) T.m_check_list T.F_check_list.kp (b_check_list T) .nil (fun σ => passAt tk σ) (pa_cons (pv 0) pa_nil)))), fun D => fn_endR (N := N_each_source) (ar := 1) (body := body_each_source) (ss_stop (ss_expr (se_def (sa_cons (se_var 0) sa_nil)))) h D⟩
theorem ok__law_single (T : Top K mg) (tbs_ : TBs T base) : FnG P w K mg base 10 T.f__law_single T.fd__law_single ["_law_bad"] (FSp mg (g__law_single T.th)) := by
  refine T.F__law_single.okMk (k := 9) (CN := ["_law_bad"]) sc__law_single T.o__law_single (fun _ _ _ _ h => gMk_len h) (by decide) (by decide +kernel) (fun A out s G vs Q E hr hgd h => ?_)
  have tk : Takes (cxOf (L2.CX P w) P w K mg base N__law_single "_law_single" (defScope s__law_single) T.f__law_single (.ref T.c__law_single) A out s G E) (fun cls d _ H => E cls d H) := takes_of rfl rfl rfl rfl
  refine ⟨_, (pmk_cons (ps_set (i := 1) sc__law_single.nd rfl (.inl rfl) (pe_lst (pa_cons (pe_lamVt cx_qual tbs_.b__law_single rfl (LamX.lamS_by (by kernel_rfl)) rfl) pa_nil)))
  (pmk_cons (ps_expr (pe_bm PySem.F.plainAttrs_list PySem.F.slot_list_append PySem.F.type_list_append mt_append (pv 1) (pa_cons (pe_lamVt cx_qual tbs_.b__law_single rfl (LamX.lamS_by (by kernel_rfl)) rfl) pa_nil)))
  (pmk_cons (ps_expr (pe_bm PySem.F.plainAttrs_list PySem.F.slot_list_append PySem.F.type_list_append mt_append (pv 1) (pa_cons (pe_lamVt cx_qual tbs_.b__law_single rfl (LamX.lamS_by (by kernel_rfl)) rfl) pa_nil)))
  (pmk_cons (ps_expr (pe_bm PySem.F.plainAttrs_list PySem.F.slot_list_append PySem.F.type_list_append mt_append (pv 1) (pa_cons (pe_lamVt cx_qual tbs_.b__law_single rfl (LamX.lamS_by (by kernel_rfl)) rfl) pa_nil)))
  (pmk_cons (ps_expr (pe_bm PySem.F.plainAttrs_list PySem.F.slot_list_append PySem.F.type_list_append mt_append (pv 1) (pa_cons (pe_lamVt cx_qual tbs_.b__law_single rfl (LamX.lamS_by (by kernel_rfl)) rfl) pa_nil)))
  (pmk_cons (ps_expr (pe_bm PySem.F.plainAttrs_list PySem.F.slot_list_append PySem.F.type_list_append mt_append (pv 1) (pa_cons (pe_lamVt cx_qual tbs_.b__law_single rfl (LamX.lamS_by (by kernel_rfl)) rfl) pa_nil)))
  (pmk_cons (ps_expr (pe_bm PySem.F.plainAttrs_list PySem.F.slot_list_append PySem.F.type_list_append mt_append (pv 1) (pa_cons (pe_lamVt cx_qual tbs_.b__law_single rfl (LamX.lamS_by (by kernel_rfl)) rfl) pa_nil)))
  (pmk_cons (ps_expr (pe_bm PySem.F.plainAttrs_list PySem.F.slot_list_append PySem.F.type_list_append mt_append (pv 1) (pa_cons (pe_lamVt cx_qual tbs_.b__law_single rfl (LamX.lamS_by (by kernel_rfl)) rfl) pa_nil)))
  (pmk_cons (ps_expr (pe_bm PySem.F.plainAttrs_list PySem.F.slot_list_append PySem.F.type_list_append mt_append (pv 1) (pa_cons (pe_lamVt cx_qual tbs_.b__law_single rfl (LamX.lamS_by (by kernel_rfl)) rfl) pa_nil)))
  (pmk_cons (ps_expr (pe_bm PySem.F.plainAttrs_list PySem.F.slot_list_append PySem.F.type_list_append mt_append (pv 1) (pa_cons (pe_lamVt cx_qual tbs_.b__law_single rfl (LamX.lamS_by (by kernel_rfl)) rfl) pa_nil)))
  (pmk_cons (ps_expr (pe_bm PySem.F.plainAttrs_list PySem.F.slot_list_append PySem.F.type_list_append mt_append (pv 1) (pa_cons (pe_lamVt cx_qual tbs_.b__law_single rfl (LamX.lamS_by (by kernel_rfl)) rfl) pa_nil)))
  (pmk_cons (ps_expr (pe_bm PySem.F.plainAttrs_list PySem.F.slot_list_append PySem.F.type_list_append mt_append (pv 1) (pa_cons (pe_lamVt cx_qual tbs_.b__law_single rfl (LamX.lamS_by (by kernel_rfl)) rfl) pa_nil)))
  (pmk_cons (ps_expr (pe_bm PySem.F.plainAttrs_list PySem.F.slot_list_append PySem.F.type_list_append mt_append (pv 1) (pa_cons (pe_lamVt cx_qual tbs_.b__law_single rfl (LamX.lamS_by (by kernel_rfl)) rfl) pa_nil)))
  (pmk_ret (pv 1))))))))))))))), ?_⟩
  exact fn_endMk (K := K) (N := N__law_single) (CN := ["_law_bad"]) (ar := 1) (k0 := 0) (it := 1) (l0 := lamAt s__law_single 0) (ls := [lamAt s__law_single 1, lamAt s__law_single 2, lamAt s__law_single 3, lamAt s__law_single 4, lamAt s__law_single 5, lamAt s__law_single 6, lamAt s__law_single 7, lamAt s__law_single 8, lamAt s__law_single 9, lamAt s__law_single 10, lamAt s__law_single 11, lamAt s__law_single 12]) (by decide) (by decide) (by decide) (by intro z hz; simp only [List.mem_cons, List.not_mem_nil, or_false] at hz; rcases hz with rfl; exact ⟨0, by decide, rfl⟩) (by decide) (by decide +kernel) h
theorem ok_units_of (T : Top K mg) : FnG P w K mg base 1 T.f_units_of T.fd_units_of ["values"] (FSp mg g_units_of) := by
  refine T.F_units_of.okG (k := 0) sc_units_of (fun _ _ _ _ h => fsp_len h) (fun cdv A out s G vs Q E hr hgd h => ?_)
  have tk : Takes (cxOf (L2.CX P w) P w K mg base N_units_of "units_of" (defScope s_units_of) T.f_units_of cdv A out s G E) (fun cls d _ H => E cls d H) := takes_of rfl rfl rfl rfl
  refine ⟨_, (pss_cons (ps_set (i := 1) sc_units_of.nd rfl (.inl rfl) (pe_lst pa_nil))
  (pss_cons (ps_for (passes_of rfl) rfl (pi_or (piLK (K := K) (pv 0)) (piTK (K := K) (pv 0))) (pg_name (i := 2) sc_units_of.nd rfl (.inl rfl)) (pss_one (ps_if (PW.pt (pw_or (pt_cmpR (eqK (K := K) hr.units) (pv 1) (pe_lst pa_nil) (nomark _)) (pw_or1 (pt_cmpR op_ge (pv 2) (pe_ix (ixK (K := K)) (pe_ix (ixK (K := K)) (pv 1) (pe_un un_neg pe_int) (fun _ _ => rfl)) pe_int (fun _ _ => rfl)) (nomark _))))) (pss_one (ps_set (i := 1) sc_units_of.nd rfl (.inl rfl) (pe_op op_cat (pv 1) (pe_lst (pa_cons (pe_lst (pa_cons (pv 2) pa_nil)) pa_nil))))) (pss_one (ps_set (i := 1) sc_units_of.nd rfl (.inl rfl) (pe_op op_cat (pe_slice (slK (K := K)) (pv 1) po_none (po_some (pe_un un_neg pe_int))) (pe_lst (pa_cons (pe_op op_addG (pe_ix (ixK (K := K)) (pv 1) (pe_un un_neg pe_int) (fun _ _ => rfl)) (pe_lst (pa_cons (pv 2) pa_nil))) pa_nil))))))))
  (pss_one (ps_ret (pv 1))))), ?_⟩
  exact fn_end (N := N_units_of) (ar := 1) (body := body_units_of) (ss_cons (ss_asg (se_cell (sf_lst sa_nil)) sg_name)
  (ss_cons (ss_for (si_or (si_list (se_var 0)) (si_tup (se_var 0))) sg_name (ss_if (st_or (st_test (se_op os_eqG (se_var 1) (se_dat (sf_lst sa_nil)))) (st_test (se_op os_ge (se_var 2) (se_op os_ix (se_op os_ix (se_var 1) (se_neg (se_int 1))) (se_int 0))))) (ss_asg (se_cell (sf_op of_cat (se_var 1) (se_dat (sf_lst (sa_cons (se_dat (sf_lst (sa_cons (se_var 2) sa_nil))) sa_nil))))) sg_name) (ss_asg (se_cell (sf_op of_cat (se_sl ss_G (se_var 1) so_none (so_some (se_neg (se_int 1)))) (se_dat (sf_lst (sa_cons (se_op os_addG (se_op os_ix (se_var 1) (se_neg (se_int 1))) (se_dat (sf_lst (sa_cons (se_var 2) sa_nil)))) sa_nil))))) sg_name)))
  (ss_ret (se_var 1)))) h
theorem ok_found_back (T : Top K mg) : FnG P w K mg base 2 T.f_found_back T.fd_found_back ["values", "goal"] (FSp mg g_found_back) := by
  refine T.F_found_back.okG (k := 1) sc_found_back (fun _ _ _ _ h => fsp_len h) (fun cdv A out s G vs Q E hr hgd h => ?_)
  have tk : Takes (cxOf (L2.CX P w) P w K mg base N_found_back "found_back" (defScope s_found_back) T.f_found_back cdv A out s G E) (fun cls d _ H => E cls d H) := takes_of rfl rfl rfl rfl
  refine ⟨_, (pss_cons (ps_set (i := 2) sc_found_back.nd rfl (.inl rfl) (pe_callG (ok_units_of T) (hr.mono (by decide)) hgd (by rfl) T.m_units_of T.F_units_of.kp (b_units_of T) tk (pa_cons (pv 1) pa_nil)))
  (pss_cons (ps_set (i := 3) sc_found_back.nd rfl (.inl rfl) (pe_lst pa_nil))
  (pss_cons (ps_set (i := 4) sc_found_back.nd rfl (.inr rfl) pe_int)
  (pss_cons (ps_while (passes_of rfl) (pt_cmpR op_lt (pv 4) (pe_callB (lenK (K := K)) (by rfl) T.m_len (by decide +kernel) (pa_cons (pv 0) pa_nil)) (nomark _)) (pss_cons (ps_setLc (i := 5) (own := [("unit", 6)]) rfl sc_found_back.nd rfl rfl (sw_true rfl rfl rfl (by decide +kernel)) (pi_or (piLK (K := K) (pv 2)) (piTK (K := K) (pv 2))) (blkOk_by (by kernel_rfl)) (fun _ _ _ _ _ => (pg_name (i := 6) sc_found_back.nd rfl (.inl rfl))) (fun _ _ _ _ _ => (pts_one (pt_cmpR (eqK (K := K) hr.units) (pe_ix (ixK (K := K)) (pv 6) pe_int (fun _ _ => rfl)) (pe_ix (ixK (K := K)) (pv 0) (pv 4) (fun _ _ => rfl)) (nomark _)))) (fun _ _ _ _ _ => (pv 6)))
  (pss_cons (ps_if (PW.pt (pw_or (pt_cmpR (eqK (K := K) hr.units) (pv 5) (pe_lst pa_nil) (nomark _)) (pw_or1 (pt_cmpR (neK (K := K) hr.units) (pe_slice (slK (K := K)) (pv 0) (po_some (pv 4)) (po_some (pe_op op_addG (pv 4) (pe_callB (lenK (K := K)) (by rfl) T.m_len (by decide +kernel) (pa_cons (pe_ix (ixK (K := K)) (pv 5) pe_int (fun _ _ => rfl)) pa_nil))))) (pe_ix (ixK (K := K)) (pv 5) pe_int (fun _ _ => rfl)) (nomark _))))) (pss_one (ps_ret (pv 4))) pss_nil)
  (pss_cons (ps_expr (bmK (K := K) PySem.F.plainAttrs_list PySem.F.slot_list_remove PySem.F.type_list_remove (removeDK (K := K) hr.units65) (pv 2) (pa_cons (pe_ix (ixK (K := K)) (pv 5) pe_int (fun _ _ => rfl)) pa_nil)))
  (pss_cons (ps_expr (pe_bm PySem.F.plainAttrs_list PySem.F.slot_list_append PySem.F.type_list_append mt_append (pv 3) (pa_cons (pv 4) pa_nil)))
  (pss_one (ps_aug (i := 4) sc_found_back.nd rfl (.inr rfl) (pe_callB (lenK (K := K)) (by rfl) T.m_len (by decide +kernel) (pa_cons (pe_ix (ixK (K := K)) (pv 5) pe_int (fun _ _ => rfl)) pa_nil)) ip_add)))))))
  (pss_one (ps_ret (pe_ifExp (ptK (K := K) (pv 2) (by intro _; rfl)) (pv 4) (pv 3)))))))), ?_⟩
  exact fn_end (N := N_found_back) (ar := 2) (body := body_found_back) (ss_cons (ss_asg (se_def (sa_cons (se_var 1) sa_nil)) sg_name)
  (ss_cons (ss_asg (se_cell (sf_lst sa_nil)) sg_name)
  (ss_cons (ss_asg (se_int 0) sg_name)
  (ss_cons (ss_while (st_test (se_op os_lt (se_var 4) (se_call ca_lenG (sa_cons (se_var 0) sa_nil)))) (ss_cons (ss_asg (se_dat (sf_thaw 2 (sf_lc (vs := [6]) (si_or (si_list (se_frz (se_var 2))) (si_tup (se_frz (se_var 2)))) sg_name (kg_name (by decide)) (st_test (se_op os_eqG (se_op os_ix (se_var 6) (se_int 0)) (se_op os_ix (se_var 0) (se_var 4)))) (se_var 6)))) sg_name)
  (ss_cons (ss_if (st_or (st_test (se_op os_eqG (se_var 5) (se_dat (sf_lst sa_nil)))) (st_test (se_op os_neG (se_sl ss_G (se_var 0) (so_some (se_var 4)) (so_some (se_op os_addG (se_var 4) (se_call ca_lenG (sa_cons (se_op os_ix (se_var 5) (se_int 0)) sa_nil))))) (se_op os_ix (se_var 5) (se_int 0))))) (ss_ret (se_var 4)) ss_nil)
  (ss_cons (ss_expr (se_remove (se_var 2) (se_op os_ix (se_var 5) (se_int 0))))
  (ss_cons (ss_expr (se_append (se_var 3) (se_var 4)))
  (ss_aug os_addI (se_call ca_lenG (sa_cons (se_op os_ix (se_var 5) (se_int 0)) sa_nil))))))))
  (ss_ret (se_if (st_tru (se_var 2)) (se_var 4) (se_var 3))))))) h
theorem ok_bounds_of (T : Top K mg) : FnG P w K mg base 4 T.f_bounds_of T.fd_bounds_of ["values", "goal"] (FSp mg g_bounds_of) := by
  refine T.F_bounds_of.okG (k := 3) sc_bounds_of (fun _ _ _ _ h => fsp_len h) (fun cdv A out s G vs Q E hr hgd h => ?_)
  have tk : Takes (cxOf (L2.CX P w) P w K mg base N_bounds_of "bounds_of" (defScope s_bounds_of) T.f_bounds_of cdv A out s G E) (fun cls d _ H => E cls d H) := takes_of rfl rfl rfl rfl
  refine ⟨_, (pss_cons (ps_expr (pe_callG (ok_check_list T) (hr.mono (by decide)) hgd (by rfl) T.m_check_list T.F_check_list.kp (b_check_list T) tk (pa_cons (pv 1) pa_nil)))
  (pss_cons (ps_set (i := 2) sc_bounds_of.nd rfl (.inl rfl) (pe_callG (ok_found_back T) (hr.mono (by decide)) hgd (by rfl) T.m_found_back T.F_found_back.kp (b_found_back T) tk (pa_cons (pv 0) (pa_cons (pv 1) pa_nil))))
  (pss_cons (ps_if (pt_not (ptK (K := K) (pe_callB (isiK (K := K)) (by rfl) T.m_isinstance (by decide +kernel) (pa_cons (pv 2) (pa_cons (pe_bltn (v := .ty "list") (by rfl) T.m_list (by decide +kernel) rfl) pa_nil))) (by intro _; rfl))) (pss_one (ps_raise rfl tk (pmk_oex T.X_InvalidList.oc T.X_InvalidList.iC T.X_InvalidList.tI (oki_InvalidList T) (hr.mono (by decide)) (bi_InvalidList T) .nil pass0 (by rfl) T.X_InvalidList.m (pa_cons pe_non pa_nil)))) pss_nil)
  (pss_one (ps_ret (pv 2)))))), ?_⟩
  exact fn_end (N := N_bounds_of) (ar := 2) (body := body_bounds_of) (ss_cons (ss_expr (se_def (sa_cons (se_var 1) sa_nil)))
  (ss_cons (ss_asg (se_def (sa_cons (se_var 0) (sa_cons (se_var 1) sa_nil))) sg_name)
  (ss_cons (ss_if (st_not (st_tru (se_isi (se_var 2)))) (ss_raise T.X_InvalidList.m T.X_InvalidList.oc T.X_InvalidList.nf se_non) ss_nil)
  (ss_ret (se_var 2))))) h
theorem ok_both (T : Top K mg) : FnG P w K mg base 5 T.f_both T.fd_both ["values", "one", "other"] (FSp mg g_both) := by
  refine T.F_both.okG (k := 4) sc_both (fun _ _ _ _ h => fsp_len h) (fun cdv A out s G vs Q E hr hgd h => ?_)
  have tk : Takes (cxOf (L2.CX P w) P w K mg base N_both "both" (defScope s_both) T.f_both cdv A out s G E) (fun cls d _ H => E cls d H) := takes_of rfl rfl rfl rfl
  refine ⟨_, (pss_cons (ps_expr (pe_callG (ok_check_list T) (hr.mono (by decide)) hgd (by rfl) T.m_check_list T.F_check_list.kp (b_check_list T) tk (pa_cons (pv 0) pa_nil)))
  (pss_cons (ps_set (i := 3) sc_both.nd rfl (.inl rfl) (pe_callG (ok_bounds_of T) (hr.mono (by decide)) hgd (by rfl) T.m_bounds_of T.F_bounds_of.kp (b_bounds_of T) tk (pa_cons (pv 0) (pa_cons (pv 1) pa_nil))))
  (pss_stop (ps_set (i := 4) sc_both.nd rfl (.inr rfl) (pe_callG (ok_bounds_of T) (hr.mono (by decide)) hgd (by rfl) T.m_bounds_of T.F_bounds_of.kp (b_bounds_of T) tk (pa_cons (pv 0) (pa_cons (pv 2) pa_nil))))))), ?_⟩
  exact fn_end (N := N_both) (ar := 3) (body := body_both) (ss_cons (ss_expr (se_def (sa_cons (se_var 0) sa_nil)))
  (ss_cons (ss_asg (se_def (sa_cons (se_var 0) (sa_cons (se_var 1) sa_nil))) sg_name)
  (ss_stop (ss_asg (se_def (sa_cons (se_var 0) (sa_cons (se_var 2) sa_nil))) sg_name)))) h
theorem ok_either (T : Top K mg) : FnG P w K mg base 5 T.f_either T.fd_either ["values", "one", "other"] (FSp mg g_either) := by
  refine T.F_either.okG (k := 4) sc_either (fun _ _ _ _ h => fsp_len h) (fun cdv A out s G vs Q E hr hgd h => ?_)
  have tk : Takes (cxOf (L2.CX P w) P w K mg base N_either "either" (defScope s_either) T.f_either cdv A out s G E) (fun cls d _ H => E cls d H) := takes_of rfl rfl rfl rfl
  refine ⟨_, (pss_cons (ps_expr (pe_callG (ok_check_list T) (hr.mono (by decide)) hgd (by rfl) T.m_check_list T.F_check_list.kp (b_check_list T) tk (pa_cons (pv 0) pa_nil)))
  (pss_cons (ps_set (i := 3) sc_either.nd rfl (.inl rfl) (pe_callG (ok_bounds_of T) (hr.mono (by decide)) hgd (by rfl) T.m_bounds_of T.F_bounds_of.kp (b_bounds_of T) tk (pa_cons (pv 0) (pa_cons (pv 1) pa_nil))))
  (pss_stop (ps_set (i := 4) sc_either.nd rfl (.inl rfl) (pe_callG (ok_bounds_of T) (hr.mono (by decide)) hgd (by rfl) T.m_bounds_of T.F_bounds_of.kp (b_bounds_of T) tk (pa_cons (pv 0) (pa_cons (pv 2) pa_nil))))))), ?_⟩
  exact fn_end (N := N_either) (ar := 3) (body := body_either) (ss_cons (ss_expr (se_def (sa_cons (se_var 0) sa_nil)))
  (ss_cons (ss_asg (se_def (sa_cons (se_var 0) (sa_cons (se_var 1) sa_nil))) sg_name)
  (ss_stop (ss_asg (se_def (sa_cons (se_var 0) (sa_cons (se_var 2) sa_nil))) sg_name)))) h
theorem ok_check_two (T : Top K mg) : FnG P w K mg base 4 T.f_check_two T.fd_check_two ["one", "other"] (FSp mg g_check_two) := by
  refine T.F_check_two.okG (k := 3) sc_check_two (fun _ _ _ _ h => fsp_len h) (fun cdv A out s G vs Q E hr hgd h => ?_)
  have tk : Takes (cxOf (L2.CX P w) P w K mg base N_check_two "check_two" (defScope s_check_two) T.f_check_two cdv A out s G E) (fun cls d _ H => E cls d H) := takes_of rfl rfl rfl rfl
  refine ⟨_, (pss_cons (ps_expr (pe_callG (ok_check_list T) (hr.mono (by decide)) hgd (by rfl) T.m_check_list T.F_check_list.kp (b_check_list T) tk (pa_cons (pv 0) pa_nil)))
  (pss_one (ps_expr (pe_callG (ok_check_list T) (hr.mono (by decide)) hgd (by rfl) T.m_check_list T.F_check_list.kp (b_check_list T) tk (pa_cons (pv 1) pa_nil))))), ?_⟩
  exact fn_end (N := N_check_two) (ar := 2) (body := body_check_two) (ss_cons (ss_expr (se_def (sa_cons (se_var 0) sa_nil)))
  (ss_expr (se_def (sa_cons (se_var 1) sa_nil)))) h
theorem ok_median (T : Top K mg) : FnG P w K mg base 5 T.f_median T.fd_median ["one", "two", "three"] (FSp mg g_median) := by
  refine T.F_median.okG (k := 4) sc_median (fun _ _ _ _ h => fsp_len h) (fun cdv A out s G vs Q E hr hgd h => ?_)
  have tk : Takes (cxOf (L2.CX P w) P w K mg base N_median "median" (defScope s_median) T.f_median cdv A out s G E) (fun cls d _ H => E cls d H) := takes_of rfl rfl rfl rfl
  refine ⟨_, (pss_cons (ps_expr (pe_callG (ok_check_two T) (hr.mono (by decide)) hgd (by rfl) T.m_check_two T.F_check_two.kp (b_check_two T) tk (pa_cons (pv 0) (pa_cons (pv 1) pa_nil))))
  (pss_stop (ps_expr (pe_callG (ok_check_list T) (hr.mono (by decide)) hgd (by rfl) T.m_check_list T.F_check_list.kp (b_check_list T) tk (pa_cons (pv 2) pa_nil))))), ?_⟩
  exact fn_end (N := N_median) (ar := 3) (body := body_median) (ss_cons (ss_expr (se_def (sa_cons (se_var 0) (sa_cons (se_var 1) sa_nil))))
  (ss_stop (ss_expr (se_def (sa_cons (se_var 2) sa_nil))))) h
theorem ok_three_way (T : Top K mg) : FnG P w K mg base 5 T.f_three_way T.fd_three_way ["base", "one", "other"] (FSp mg g_three_way) := by
  refine T.F_three_way.okG (k := 4) sc_three_way (fun _ _ _ _ h => fsp_len h) (fun cdv A out s G vs Q E hr hgd h => ?_)
  have tk : Takes (cxOf (L2.CX P w) P w K mg base N_three_way "three_way" (defScope s_three_way) T.f_three_way cdv A out s G E) (fun cls d _ H => E cls d H) := takes_of rfl rfl rfl rfl
  refine ⟨_, (pss_cons (ps_expr (pe_callG (ok_check_list T) (hr.mono (by decide)) hgd (by rfl) T.m_check_list T.F_check_list.kp (b_check_list T) tk (pa_cons (pv 0) pa_nil)))
  (pss_stop (ps_expr (pe_callG (ok_check_two T) (hr.mono (by decide)) hgd (by rfl) T.m_check_two T.F_check_two.kp (b_check_two T) tk (pa_cons (pv 1) (pa_cons (pv 2) pa_nil)))))), ?_⟩
  exact fn_end (N := N_three_way) (ar := 3) (body := body_three_way) (ss_cons (ss_expr (se_def (sa_cons (se_var 0) sa_nil)))
  (ss_stop (ss_expr (se_def (sa_cons (se_var 1) (sa_cons (se_var 2) sa_nil)))))) h
theorem ok__law_more (T : Top K mg) (tbs_ : TBs T base) : FnG P w K mg base 8 T.f__law_more T.fd__law_more ["_law_one", "_law_other", "_law_third"] (FSp mg (g__law_more T.th)) := by
  refine T.F__law_more.okMk (k := 7) (CN := ["_law_one", "_law_other", "_law_third"]) sc__law_more T.o__law_more (fun _ _ _ _ h => gMk_len h) (by decide) (by decide +kernel) (fun A out s G vs Q E hr hgd h => ?_)
  have tk : Takes (cxOf (L2.CX P w) P w K mg base N__law_more "_law_more" (defScope s__law_more) T.f__law_more (.ref T.c__law_more) A out s G E) (fun cls d _ H => E cls d H) := takes_of rfl rfl rfl rfl
  refine ⟨_, (pmk_cons (ps_set (i := 3) sc__law_more.nd rfl (.inl rfl) (pe_lst (pa_cons (pe_lamVt cx_qual tbs_.b__law_more rfl (LamX.lamS_by (by kernel_rfl)) rfl) pa_nil)))
  (pmk_cons (ps_expr (pe_bm PySem.F.plainAttrs_list PySem.F.slot_list_append PySem.F.type_list_append mt_append (pv 3) (pa_cons (pe_lamVt cx_qual tbs_.b__law_more rfl (LamX.lamS_by (by kernel_rfl)) rfl) pa_nil)))
  (pmk_cons (ps_expr (pe_bm PySem.F.plainAttrs_list PySem.F.slot_list_append PySem.F.type_list_append mt_append (pv 3) (pa_cons (pe_lamVt cx_qual tbs_.b__law_more rfl (LamX.lamS_by (by kernel_rfl)) rfl) pa_nil)))
  (pmk_cons (ps_expr (pe_bm PySem.F.plainAttrs_list PySem.F.slot_list_append PySem.F.type_list_append mt_append (pv 3) (pa_cons (pe_lamVt cx_qual tbs_.b__law_more rfl (LamX.lamS_by (by kernel_rfl)) rfl) pa_nil)))
  (pmk_ret (pv 3)))))), ?_⟩
  exact fn_endMk (K := K) (N := N__law_more) (CN := ["_law_one", "_law_other", "_law_third"]) (ar := 3) (k0 := 13) (it := 3) (l0 := lamAt s__law_more 0) (ls := [lamAt s__law_more 1, lamAt s__law_more 2, lamAt s__law_more 3]) (by decide) (by decide) (by decide) (by intro z hz; simp only [List.mem_cons, List.not_mem_nil, or_false] at hz; rcases hz with rfl | rfl | rfl; exact ⟨0, by decide, rfl⟩; exact ⟨1, by decide, rfl⟩; exact ⟨2, by decide, rfl⟩) (by decide) (by decide +kernel) h
theorem ok_read_back (T : Top K mg) : FnG P w K mg base 4 T.f_read_back T.fd_read_back ["values", "goal"] (FSp mg g_read_back) := by
  refine T.F_read_back.okG (k := 3) sc_read_back (fun _ _ _ _ h => fsp_len h) (fun cdv A out s G vs Q E hr hgd h => ?_)
  have tk : Takes (cxOf (L2.CX P w) P w K mg base N_read_back "read_back" (defScope s_read_back) T.f_read_back cdv A out s G E) (fun cls d _ H => E cls d H) := takes_of rfl rfl rfl rfl
  refine ⟨_, (pss_cons (ps_expr (pe_callG (ok_check_list T) (hr.mono (by decide)) hgd (by rfl) T.m_check_list T.F_check_list.kp (b_check_list T) tk (pa_cons (pv 0) pa_nil)))
  (pss_stop (ps_expr (pe_callG (ok_check_list T) (hr.mono (by decide)) hgd (by rfl) T.m_check_list T.F_check_list.kp (b_check_list T) tk (pa_cons (pv 1) pa_nil))))), ?_⟩
  exact fn_end (N := N_read_back) (ar := 2) (body := body_read_back) (ss_cons (ss_expr (se_def (sa_cons (se_var 0) sa_nil)))
  (ss_stop (ss_expr (se_def (sa_cons (se_var 1) sa_nil))))) h
theorem ok_union (T : Top K mg) : FnG P w K mg base 5 T.f_union T.fd_union ["one", "other"] (FSp mg g_union) := by
  refine T.F_union.okG (k := 4) sc_union (fun _ _ _ _ h => fsp_len h) (fun cdv A out s G vs Q E hr hgd h => ?_)
  have tk : Takes (cxOf (L2.CX P w) P w K mg base N_union "union" (defScope s_union) T.f_union cdv A out s G E) (fun cls d _ H => E cls d H) := takes_of rfl rfl rfl rfl
  refine ⟨_, (pss_stop (ps_expr (pe_callG (ok_check_two T) (hr.mono (by decide)) hgd (by rfl) T.m_check_two T.F_check_two.kp (b_check_two T) tk (pa_cons (pv 0) (pa_cons (pv 1) pa_nil))))), ?_⟩
  exact fn_end (N := N_union) (ar := 2) (body := body_union) (ss_stop (ss_expr (se_def (sa_cons (se_var 0) (sa_cons (se_var 1) sa_nil))))) h
theorem ok_intersection (T : Top K mg) : FnG P w K mg base 5 T.f_intersection T.fd_intersection ["one", "other"] (FSp mg g_intersection) := by
  refine T.F_intersection.okG (k := 4) sc_intersection (fun _ _ _ _ h => fsp_len h) (fun cdv A out s G vs Q E hr hgd h => ?_)
  have tk : Takes (cxOf (L2.CX P w) P w K mg base N_intersection "intersection" (defScope s_intersection) T.f_intersection cdv A out s G E) (fun cls d _ H => E cls d H) := takes_of rfl rfl rfl rfl
  refine ⟨_, (pss_stop (ps_expr (pe_callG (ok_check_two T) (hr.mono (by decide)) hgd (by rfl) T.m_check_two T.F_check_two.kp (b_check_two T) tk (pa_cons (pv 0) (pa_cons (pv 1) pa_nil))))), ?_⟩
  exact fn_end (N := N_intersection) (ar := 2) (body := body_intersection) (ss_stop (ss_expr (se_def (sa_cons (se_var 0) (sa_cons (se_var 1) sa_nil))))) h
theorem ok_difference (T : Top K mg) : FnG P w K mg base 5 T.f_difference T.fd_difference ["one", "other"] (FSp mg g_difference) := by
  refine T.F_difference.okG (k := 4) sc_difference (fun _ _ _ _ h => fsp_len h) (fun cdv A out s G vs Q E hr hgd h => ?_)
  have tk : Takes (cxOf (L2.CX P w) P w K mg base N_difference "difference" (defScope s_difference) T.f_difference cdv A out s G E) (fun cls d _ H => E cls d H) := takes_of rfl rfl rfl rfl
  refine ⟨_, (pss_stop (ps_expr (pe_callG (ok_check_two T) (hr.mono (by decide)) hgd (by rfl) T.m_check_two T.F_check_two.kp (b_check_two T) tk (pa_cons (pv 0) (pa_cons (pv 1) pa_nil))))), ?_⟩
  exact fn_end (N := N_difference) (ar := 2) (body := body_difference) (ss_stop (ss_expr (se_def (sa_cons (se_var 0) (sa_cons (se_var 1) sa_nil))))) h
theorem ok_includes (T : Top K mg) : FnG P w K mg base 5 T.f_includes T.fd_includes ["one", "other"] (FSp mg g_includes) := by
  refine T.F_includes.okG (k := 4) sc_includes (fun _ _ _ _ h => fsp_len h) (fun cdv A out s G vs Q E hr hgd h => ?_)
  have tk : Takes (cxOf (L2.CX P w) P w K mg base N_includes "includes" (defScope s_includes) T.f_includes cdv A out s G E) (fun cls d _ H => E cls d H) := takes_of rfl rfl rfl rfl
  refine ⟨_, (pss_stop (ps_expr (pe_callG (ok_check_two T) (hr.mono (by decide)) hgd (by rfl) T.m_check_two T.F_check_two.kp (b_check_two T) tk (pa_cons (pv 0) (pa_cons (pv 1) pa_nil))))), ?_⟩
  exact fn_end (N := N_includes) (ar := 2) (body := body_includes) (ss_stop (ss_expr (se_def (sa_cons (se_var 0) (sa_cons (se_var 1) sa_nil))))) h
theorem ok_missing (T : Top K mg) : FnG P w K mg base 5 T.f_missing T.fd_missing ["one", "other"] (FSp mg g_missing) := by
  refine T.F_missing.okG (k := 4) sc_missing (fun _ _ _ _ h => fsp_len h) (fun cdv A out s G vs Q E hr hgd h => ?_)
  have tk : Takes (cxOf (L2.CX P w) P w K mg base N_missing "missing" (defScope s_missing) T.f_missing cdv A out s G E) (fun cls d _ H => E cls d H) := takes_of rfl rfl rfl rfl
  refine ⟨_, (pss_stop (ps_expr (pe_callG (ok_check_two T) (hr.mono (by decide)) hgd (by rfl) T.m_check_two T.F_check_two.kp (b_check_two T) tk (pa_cons (pv 0) (pa_cons (pv 1) pa_nil))))), ?_⟩
  exact fn_end (N := N_missing) (ar := 2) (body := body_missing) (ss_stop (ss_expr (se_def (sa_cons (se_var 0) (sa_cons (se_var 1) sa_nil))))) h
theorem ok_matches (T : Top K mg) : FnG P w K mg base 5 T.f_matches T.fd_matches ["one", "other"] (FSp mg g_matches) := by
  refine T.F_matches.okG (k := 4) sc_matches (fun _ _ _ _ h => fsp_len h) (fun cdv A out s G vs Q E hr hgd h => ?_)
  have tk : Takes (cxOf (L2.CX P w) P w K mg base N_matches "matches" (defScope s_matches) T.f_matches cdv A out s G E) (fun cls d _ H => E cls d H) := takes_of rfl rfl rfl rfl
  refine ⟨_, (pss_stop (ps_expr (pe_callG (ok_check_two T) (hr.mono (by decide)) hgd (by rfl) T.m_check_two T.F_check_two.kp (b_check_two T) tk (pa_cons (pv 0) (pa_cons (pv 1) pa_nil))))), ?_⟩
  exact fn_end (N := N_matches) (ar := 2) (body := body_matches) (ss_stop (ss_expr (se_def (sa_cons (se_var 0) (sa_cons (se_var 1) sa_nil))))) h
theorem ok_count_between (T : Top K mg) : FnG P w K mg base 5 T.f_count_between T.fd_count_between ["one", "other"] (FSp mg g_count_between) := by
  refine T.F_count_between.okG (k := 4) sc_count_between (fun _ _ _ _ h => fsp_len h) (fun cdv A out s G vs Q E hr hgd h => ?_)
  have tk : Takes (cxOf (L2.CX P w) P w K mg base N_count_between "count_between" (defScope s_count_between) T.f_count_between cdv A out s G E) (fun cls d _ H => E cls d H) := takes_of rfl rfl rfl rfl
  refine ⟨_, (pss_stop (ps_expr (pe_callG (ok_check_two T) (hr.mono (by decide)) hgd (by rfl) T.m_check_two T.F_check_two.kp (b_check_two T) tk (pa_cons (pv 0) (pa_cons (pv 1) pa_nil))))), ?_⟩
  exact fn_end (N := N_count_between) (ar := 2) (body := body_count_between) (ss_stop (ss_expr (se_def (sa_cons (se_var 0) (sa_cons (se_var 1) sa_nil))))) h
theorem ok_residue (T : Top K mg) : FnG P w K mg base 5 T.f_residue T.fd_residue ["one", "other"] (FSp mg g_residue) := by
  refine T.F_residue.okG (k := 4) sc_residue (fun _ _ _ _ h => fsp_len h) (fun cdv A out s G vs Q E hr hgd h => ?_)
  have tk : Takes (cxOf (L2.CX P w) P w K mg base N_residue "residue" (defScope s_residue) T.f_residue cdv A out s G E) (fun cls d _ H => E cls d H) := takes_of rfl rfl rfl rfl
  refine ⟨_, (pss_stop (ps_expr (pe_callG (ok_check_two T) (hr.mono (by decide)) hgd (by rfl) T.m_check_two T.F_check_two.kp (b_check_two T) tk (pa_cons (pv 0) (pa_cons (pv 1) pa_nil))))), ?_⟩
  exact fn_end (N := N_residue) (ar := 2) (body := body_residue) (ss_stop (ss_expr (se_def (sa_cons (se_var 0) (sa_cons (se_var 1) sa_nil))))) h
theorem ok_distance (T : Top K mg) : FnG P w K mg base 5 T.f_distance T.fd_distance ["one", "other"] (FSp mg g_distance) := by
  refine T.F_distance.okG (k := 4) sc_distance (fun _ _ _ _ h => fsp_len h) (fun cdv A out s G vs Q E hr hgd h => ?_)
  have tk : Takes (cxOf (L2.CX P w) P w K mg base N_distance "distance" (defScope s_distance) T.f_distance cdv A out s G E) (fun cls d _ H => E cls d H) := takes_of rfl rfl rfl rfl
  refine ⟨_, (pss_stop (ps_expr (pe_callG (ok_check_two T) (hr.mono (by decide)) hgd (by rfl) T.m_check_two T.F_check_two.kp (b_check_two T) tk (pa_cons (pv 0) (pa_cons (pv 1) pa_nil))))), ?_⟩
  exact fn_end (N := N_distance) (ar := 2) (body := body_distance) (ss_stop (ss_expr (se_def (sa_cons (se_var 0) (sa_cons (se_var 1) sa_nil))))) h
theorem ok_path (T : Top K mg) : FnG P w K mg base 5 T.f_path T.fd_path ["one", "other"] (FSp mg g_path) := by
  refine T.F_path.okG (k := 4) sc_path (fun _ _ _ _ h => fsp_len h) (fun cdv A out s G vs Q E hr hgd h => ?_)
  have tk : Takes (cxOf (L2.CX P w) P w K mg base N_path "path" (defScope s_path) T.f_path cdv A out s G E) (fun cls d _ H => E cls d H) := takes_of rfl rfl rfl rfl
  refine ⟨_, (pss_stop (ps_expr (pe_callG (ok_check_two T) (hr.mono (by decide)) hgd (by rfl) T.m_check_two T.F_check_two.kp (b_check_two T) tk (pa_cons (pv 0) (pa_cons (pv 1) pa_nil))))), ?_⟩
  exact fn_end (N := N_path) (ar := 2) (body := body_path) (ss_stop (ss_expr (se_def (sa_cons (se_var 0) (sa_cons (se_var 1) sa_nil))))) h
theorem ok__law_back (T : Top K mg) (tbs_ : TBs T base) : FnG P w K mg base 8 T.f__law_back T.fd__law_back ["_law_one", "_law_other"] (FSp mg (g__law_back T.th)) := by
  refine T.F__law_back.okMk (k := 7) (CN := ["_law_one", "_law_other"]) sc__law_back T.o__law_back (fun _ _ _ _ h => gMk_len h) (by decide) (by decide +kernel) (fun A out s G vs Q E hr hgd h => ?_)
  have tk : Takes (cxOf (L2.CX P w) P w K mg base N__law_back "_law_back" (defScope s__law_back) T.f__law_back (.ref T.c__law_back) A out s G E) (fun cls d _ H => E cls d H) := takes_of rfl rfl rfl rfl
  refine ⟨_, (pmk_cons (ps_set (i := 2) sc__law_back.nd rfl (.inl rfl) (pe_lst (pa_cons (pe_lamVt cx_qual tbs_.b__law_back rfl (LamX.lamS_by (by kernel_rfl)) rfl) pa_nil)))
  (pmk_cons (ps_expr (pe_bm PySem.F.plainAttrs_list PySem.F.slot_list_append PySem.F.type_list_append mt_append (pv 2) (pa_cons (pe_lamVt cx_qual tbs_.b__law_back rfl (LamX.lamS_by (by kernel_rfl)) rfl) pa_nil)))
  (pmk_cons (ps_expr (pe_bm PySem.F.plainAttrs_list PySem.F.slot_list_append PySem.F.type_list_append mt_append (pv 2) (pa_cons (pe_lamVt cx_qual tbs_.b__law_back rfl (LamX.lamS_by (by kernel_rfl)) rfl) pa_nil)))
  (pmk_cons (ps_expr (pe_bm PySem.F.plainAttrs_list PySem.F.slot_list_append PySem.F.type_list_append mt_append (pv 2) (pa_cons (pe_lamVt cx_qual tbs_.b__law_back rfl (LamX.lamS_by (by kernel_rfl)) rfl) pa_nil)))
  (pmk_cons (ps_expr (pe_bm PySem.F.plainAttrs_list PySem.F.slot_list_append PySem.F.type_list_append mt_append (pv 2) (pa_cons (pe_lamVt cx_qual tbs_.b__law_back rfl (LamX.lamS_by (by kernel_rfl)) rfl) pa_nil)))
  (pmk_cons (ps_expr (pe_bm PySem.F.plainAttrs_list PySem.F.slot_list_append PySem.F.type_list_append mt_append (pv 2) (pa_cons (pe_lamVt cx_qual tbs_.b__law_back rfl (LamX.lamS_by (by kernel_rfl)) rfl) pa_nil)))
  (pmk_cons (ps_expr (pe_bm PySem.F.plainAttrs_list PySem.F.slot_list_append PySem.F.type_list_append mt_append (pv 2) (pa_cons (pe_lamVt cx_qual tbs_.b__law_back rfl (LamX.lamS_by (by kernel_rfl)) rfl) pa_nil)))
  (pmk_cons (ps_expr (pe_bm PySem.F.plainAttrs_list PySem.F.slot_list_append PySem.F.type_list_append mt_append (pv 2) (pa_cons (pe_lamVt cx_qual tbs_.b__law_back rfl (LamX.lamS_by (by kernel_rfl)) rfl) pa_nil)))
  (pmk_cons (ps_expr (pe_bm PySem.F.plainAttrs_list PySem.F.slot_list_append PySem.F.type_list_append mt_append (pv 2) (pa_cons (pe_lamVt cx_qual tbs_.b__law_back rfl (LamX.lamS_by (by kernel_rfl)) rfl) pa_nil)))
  (pmk_cons (ps_expr (pe_bm PySem.F.plainAttrs_list PySem.F.slot_list_append PySem.F.type_list_append mt_append (pv 2) (pa_cons (pe_lamVt cx_qual tbs_.b__law_back rfl (LamX.lamS_by (by kernel_rfl)) rfl) pa_nil)))
  (pmk_cons (ps_expr (pe_bm PySem.F.plainAttrs_list PySem.F.slot_list_append PySem.F.type_list_append mt_append (pv 2) (pa_cons (pe_lamVt cx_qual tbs_.b__law_back rfl (LamX.lamS_by (by kernel_rfl)) rfl) pa_nil)))
  (pmk_ret (pv 2))))))))))))), ?_⟩
  exact fn_endMk (K := K) (N := N__law_back) (CN := ["_law_one", "_law_other"]) (ar := 2) (k0 := 17) (it := 2) (l0 := lamAt s__law_back 0) (ls := [lamAt s__law_back 1, lamAt s__law_back 2, lamAt s__law_back 3, lamAt s__law_back 4, lamAt s__law_back 5, lamAt s__law_back 6, lamAt s__law_back 7, lamAt s__law_back 8, lamAt s__law_back 9, lamAt s__law_back 10]) (by decide) (by decide) (by decide) (by intro z hz; simp only [List.mem_cons, List.not_mem_nil, or_false] at hz; rcases hz with rfl | rfl; exact ⟨0, by decide, rfl⟩; exact ⟨1, by decide, rfl⟩) (by decide) (by decide +kernel) h
theorem ok__law_draws (T : Top K mg) : FnG P w K mg base 1 T.f__law_draws T.fd__law_draws ["_law_cell"] (FSp mg g__law_draws) := by
  refine T.F__law_draws.okG (k := 0) sc__law_draws (fun _ _ _ _ h => fsp_len h) (fun cdv A out s G vs Q E hr hgd h => ?_)
  have tk : Takes (cxOf (L2.CX P w) P w K mg base N__law_draws "_law_draws" (defScope s__law_draws) T.f__law_draws cdv A out s G E) (fun cls d _ H => E cls d H) := takes_of rfl rfl rfl rfl
  refine ⟨_, (pss_one (ps_ret (pe_lst (pa_cons (pe_op op_mod (pe_callTy call_int1 (by rfl) T.m_int (by decide +kernel) (pa_cons (pv 0) pa_nil)) (pe_op op_powW (pe_op op_powW (pe_op op_powW pe_int pe_int) pe_int) pe_int)) (pa_cons pe_int (pa_cons (pe_cmpR op_ge (pv 0) (pe_op op_powW pe_int pe_int) (nomark _)) pa_nil)))))), ?_⟩
  exact fn_end (N := N__law_draws) (ar := 1) (body := body__law_draws) (ss_ret (se_cell (sf_lst (sa_cons (se_op os_mod (se_call ca_int (sa_cons (se_var 0) sa_nil)) (se_op os_powW (se_op os_powW (se_op os_powW (se_int 10) (se_int 60)) (se_int 60)) (se_int 4))) (sa_cons (se_int 0) (sa_cons (se_op os_ge (se_var 0) (se_op os_powW (se_int 10) (se_int 18))) sa_nil)))))) h
theorem ok__law_next (T : Top K mg) : FnG P w K mg base 1 T.f__law_next T.fd__law_next ["_law_draws_here"] (FSp mg g__law_next) := by
  refine T.F__law_next.okG (k := 0) sc__law_next (fun _ _ _ _ h => fsp_len h) (fun cdv A out s G vs Q E hr hgd h => ?_)
  have tk : Takes (cxOf (L2.CX P w) P w K mg base N__law_next "_law_next" (defScope s__law_next) T.f__law_next cdv A out s G E) (fun cls d _ H => E cls d H) := takes_of rfl rfl rfl rfl
  refine ⟨_, (pss_cons (ps_asg (pe_op op_addG (pe_ix (ixK (K := K)) (pv 0) pe_int (fun _ _ => rfl)) pe_int) (pg_sub (pv 0) pe_int set_list))
  (pss_cons (ps_set (i := 1) sc__law_next.nd rfl (.inl rfl) (pe_ix (ixK (K := K)) (pv 0) pe_int (fun _ _ => rfl)))
  (pss_cons (ps_if (ptK (K := K) (pe_ix (ixK (K := K)) (pv 0) pe_int (fun _ _ => rfl)) (by intro _; rfl)) (pss_cons (ps_set (i := 2) sc__law_next.nd rfl (.inl rfl) (pe_op op_mod (pe_callTy call_int1 (by rfl) T.m_int (by decide +kernel) (pa_cons (pe_ix (ixK (K := K)) (pv 0) pe_int (fun _ _ => rfl)) pa_nil)) (pe_op op_powW pe_int pe_int)))
  (pss_cons (ps_asg (pe_op op_fdiv (pe_ix (ixK (K := K)) (pv 0) pe_int (fun _ _ => rfl)) (pe_op op_powW pe_int pe_int)) (pg_sub (pv 0) pe_int set_list))
  (pss_one (ps_ret (pv 2))))) pss_nil)
  (pss_cons (ps_set (i := 2) sc__law_next.nd rfl (.inl rfl) (pe_op op_mod (pe_callTy call_int1 (by rfl) T.m_int (by decide +kernel) (pa_cons (pe_op op_mulG (pe_op op_addG (pe_op op_addG (pe_op op_mod (pe_callTy call_int1 (by rfl) T.m_int (by decide +kernel) (pa_cons (pe_ix (ixK (K := K)) (pv 0) pe_int (fun _ _ => rfl)) pa_nil)) pe_int) (pe_op op_mulG (pe_op op_mulG (pv 1) (pv 1)) pe_int)) (pv 1)) pe_int) pa_nil)) pe_int))
  (pss_cons (ps_set (i := 2) sc__law_next.nd rfl (.inl rfl) (pe_op op_mod (pe_callTy call_int1 (by rfl) T.m_int (by decide +kernel) (pa_cons (pe_op op_mulG (pv 2) (pv 2)) pa_nil)) pe_int))
  (pss_one (ps_ret (pe_op op_fdiv (pe_op op_mod (pe_callTy call_int1 (by rfl) T.m_int (by decide +kernel) (pa_cons (pe_op op_mulG (pv 2) (pe_op op_addG (pv 2) pe_int)) pa_nil)) pe_int) pe_int)))))))), ?_⟩
  exact fn_end (N := N__law_next) (ar := 1) (body := body__law_next) (ss_cons (ss_asg (se_op os_addG (se_op os_ix (se_var 0) (se_int 1)) (se_int 1)) (sg_sub (se_var 0) (se_int 1)))
  (ss_cons (ss_asg (se_op os_ix (se_var 0) (se_int 1)) sg_name)
  (ss_cons (ss_if (st_tru (se_op os_ix (se_var 0) (se_int 2))) (ss_cons (ss_asg (se_op os_mod (se_call ca_int (sa_cons (se_op os_ix (se_var 0) (se_int 0)) sa_nil)) (se_op os_powW (se_int 10) (se_int 6))) sg_name)
  (ss_cons (ss_asg (se_op os_div (se_op os_ix (se_var 0) (se_int 0)) (se_op os_powW (se_int 10) (se_int 6))) (sg_sub (se_var 0) (se_int 0)))
  (ss_ret (se_var 2)))) ss_nil)
  (ss_cons (ss_asg (se_op os_mod (se_call ca_int (sa_cons (se_op os_mulG (se_op os_addG (se_op os_addG (se_op os_mod (se_call ca_int (sa_cons (se_op os_ix (se_var 0) (se_int 0)) sa_nil)) (se_int 1000003)) (se_op os_mulG (se_op os_mulG (se_var 1) (se_var 1)) (se_int 7919))) (se_var 1)) (se_int 48271)) sa_nil)) (se_int 2147483629)) sg_name)
  (ss_cons (ss_asg (se_op os_mod (se_call ca_int (sa_cons (se_op os_mulG (se_var 2) (se_var 2)) sa_nil)) (se_int 2147483587)) sg_name)
  (ss_ret (se_op os_div (se_op os_mod (se_call ca_int (sa_cons (se_op os_mulG (se_var 2) (se_op os_addG (se_var 2) (se_int 2))) sa_nil)) (se_int 2147483579)) (se_int 7)))))))) h
theorem ok__law_list (T : Top K mg) : FnG P w K mg base 2 T.f__law_list T.fd__law_list ["_law_draws_here", "_law_most"] (FSp mg g__law_list) := by
  refine T.F__law_list.okG (k := 1) sc__law_list (fun _ _ _ _ h => fsp_len h) (fun cdv A out s G vs Q E hr hgd h => ?_)
  have tk : Takes (cxOf (L2.CX P w) P w K mg base N__law_list "_law_list" (defScope s__law_list) T.f__law_list cdv A out s G E) (fun cls d _ H => E cls d H) := takes_of rfl rfl rfl rfl
  refine ⟨_, (pss_cons (ps_set (i := 2) sc__law_list.nd rfl (.inl rfl) (pe_op op_mod (pe_callTy call_int1 (by rfl) T.m_int (by decide +kernel) (pa_cons (pe_callG (ok__law_next T) (hr.mono (by decide)) hgd (by rfl) T.m__law_next T.F__law_next.kp (b__law_next T) tk (pa_cons (pv 0) pa_nil)) pa_nil)) (pe_op op_addG (pv 1) pe_int)))
  (pss_cons (ps_set (i := 3) sc__law_list.nd rfl (.inr rfl) (pe_ix (ixK (K := K)) (pe_lst (pa_cons pe_int (pa_cons pe_int (pa_cons (pe_op op_addG (pv 2) pe_int) (pa_cons (pe_op op_addG (pe_op op_mulG pe_int (pv 2)) pe_int) pa_nil))))) (pe_op op_mod (pe_callTy call_int1 (by rfl) T.m_int (by decide +kernel) (pa_cons (pe_callG (ok__law_next T) (hr.mono (by decide)) hgd (by rfl) T.m__law_next T.F__law_next.kp (b__law_next T) tk (pa_cons (pv 0) pa_nil)) pa_nil)) pe_int) (fun _ _ => rfl)))
  (pss_cons (ps_setLc (i := 4) (own := [("_law_k", 5)]) rfl sc__law_list.nd rfl rfl (sw_true rfl rfl rfl (by decide +kernel)) (pi_range1 (by rfl) T.m_range (pa_cons (pv 2) pa_nil)) (blkOk_by (by kernel_rfl)) (fun _ _ _ _ _ => (pg_name (i := 5) sc__law_list.nd rfl (.inl rfl))) (fun _ _ _ _ _ => pts_nil) (fun _ _ _ _ _ => (pe_op op_sub (pe_op op_mod (pe_callTy call_int1 (by rfl) T.m_int (by decide +kernel) (pa_cons (pe_callG (ok__law_next T) (hr.mono (by decide)) hgd (by rfl) T.m__law_next T.F__law_next.kp (b__law_next T) tkF (pa_cons (pv 0) pa_nil)) pa_nil)) (pv 3)) (pe_op op_fdiv (pv 3) pe_int))))
  (pss_one (ps_ret (pe_ifExp (pt_cmpR (eqK (K := K) hr.units) (pe_op op_mod (pe_callTy call_int1 (by rfl) T.m_int (by decide +kernel) (pa_cons (pe_callG (ok__law_next T) (hr.mono (by decide)) hgd (by rfl) T.m__law_next T.F__law_next.kp (b__law_next T) tk (pa_cons (pv 0) pa_nil)) pa_nil)) pe_int) pe_int (nomark _)) (pe_lc (own := [("_law_value", 6)]) rfl sc__law_list.nd (pi_or (piLK (K := K) (pv 4)) (piTK (K := K) (pv 4))) (blkOk_by (by kernel_rfl)) (fun _ _ _ _ _ => (pg_name (i := 6) sc__law_list.nd rfl (.inl rfl))) (fun _ _ _ _ _ => pts_nil) (fun _ _ _ _ _ => (pe_op op_mulG (pv 6) (pe_op op_fdiv (pe_op op_powW pe_int pe_int) (pe_op op_addG (pv 3) pe_int))))) (pv 4))))))), ?_⟩
  exact fn_end (N := N__law_list) (ar := 2) (body := body__law_list) (ss_cons (ss_asg (se_op os_mod (se_call ca_int (sa_cons (se_def (sa_cons (se_var 0) sa_nil)) sa_nil)) (se_op os_addG (se_var 1) (se_int 1))) sg_name)
  (ss_cons (ss_asg (se_op os_ix (se_dat (sf_lst (sa_cons (se_int 2) (sa_cons (se_int 3) (sa_cons (se_op os_addG (se_var 2) (se_int 1)) (sa_cons (se_op os_addG (se_op os_mulG (se_int 4) (se_var 2)) (se_int 1)) sa_nil)))))) (se_op os_mod (se_call ca_int (sa_cons (se_def (sa_cons (se_var 0) sa_nil)) sa_nil)) (se_int 4))) sg_name)
  (ss_cons (ss_asg (se_dat (sf_lc (vs := [5]) (si_rng1 (sa_cons (se_var 2) sa_nil)) sg_name (kg_name (by decide)) st_yes (se_op os_sub (se_op os_mod (se_call ca_int (sa_cons (se_def (sa_cons (se_var 0) sa_nil)) sa_nil)) (se_var 3)) (se_op os_div (se_var 3) (se_int 3))))) sg_name)
  (ss_ret (se_if (st_test (se_op os_eqG (se_op os_mod (se_call ca_int (sa_cons (se_def (sa_cons (se_var 0) sa_nil)) sa_nil)) (se_int 8)) (se_int 0))) (se_dat (sf_lc (vs := [6]) (si_or (si_list (se_var 4)) (si_tup (se_var 4))) sg_name (kg_name (by decide)) st_yes (se_op os_mulG (se_var 6) (se_op os_div (se_op os_powW (se_int 10) (se_int 20)) (se_op os_addG (se_var 3) (se_int 1)))))) (se_var 4)))))) h
theorem ok__law_kept (T : Top K mg) : FnG P w K mg base 11 T.f__law_kept T.fd__law_kept ["_law_ask"] (FSp mg g__law_kept) := by
  refine T.F__law_kept.okG (k := 10) sc__law_kept (fun _ _ _ _ h => fsp_lenA h) (fun cdv A out s G vs Q E hr hgd h => ?_)
  have tk : Takes (cxOf (L2.CX P w) P w K mg base N__law_kept "_law_kept" (defScope s__law_kept) T.f__law_kept cdv A out s G E) (fun cls d _ H => E cls d H) := takes_of rfl rfl rfl rfl
  refine ⟨_, (pss_cons (ps_set (i := 1) sc__law_kept.nd rfl (.inl rfl) pe_non)
  (pss_cons (ps_tryR (i := 2) (j := 1) exm6_no rfl rfl rfl sc__law_kept.nd rfl rfl (test_tup6 (c1 := .ref T.X_ClosedSide.C) (c2 := .ref T.X_InvalidList.C) (c3 := .ref T.X_InvalidLists.C) (c4 := .ref T.X_InvalidNumber.C) (c5 := .ref T.X_InvalidPlaces.C) (c6 := .ref T.X_InvalidText.C) ⟨by rfl, by decide, .inl T.X_ClosedSide.m⟩ ⟨by rfl, by decide, .inl T.X_InvalidList.m⟩ ⟨by rfl, by decide, .inl T.X_InvalidLists.m⟩ ⟨by rfl, by decide, .inl T.X_InvalidNumber.m⟩ ⟨by rfl, by decide, .inl T.X_InvalidPlaces.m⟩ ⟨by rfl, by decide, .inl T.X_InvalidText.m⟩) tk (fun _ _ _ tkT pas => (pss_one (ps_expr (pe_askTs (k := 9) (i := 0) tkT (hr.mono (by decide)) hgd rfl (.inl rfl) (.cons (lamGood_by (p := ld0__law_single) (by kernel_rfl) (fun _ _ _ _ _ => rfl) (fun C A out z G E f d hgd hr => (pe_callG (ok_cut T) (hr.mono (by decide)) hgd (by rfl) T.m_cut T.F_cut.kp (b_cut T) (takes_of rfl rfl rfl rfl : Takes (LamX.lamCx _ A out z G E _ f d) (fun cls o _ G => E cls o G)) (pa_cons (pv 0) (pa_cons pe_non pa_nil)))))
    (.cons (lamGood_by (p := ld1__law_single) (by kernel_rfl) (fun _ _ _ _ _ => rfl) (fun C A out z G E f d hgd hr => (pe_callG (ok_boundaries T) (hr.mono (by decide)) hgd (by rfl) T.m_boundaries T.F_boundaries.kp (b_boundaries T) (takes_of rfl rfl rfl rfl : Takes (LamX.lamCx _ A out z G E _ f d) (fun cls o _ G => E cls o G)) (pa_cons (pv 0) (pa_cons pe_non pa_nil)))))
    (.cons (lamGood_by (p := ld2__law_single) (by kernel_rfl) (fun _ _ _ _ _ => rfl) (fun C A out z G E f d hgd hr => (pe_callG (ok_least_places T) (hr.mono (by decide)) hgd (by rfl) T.m_least_places T.F_least_places.kp (b_least_places T) (takes_of rfl rfl rfl rfl : Takes (LamX.lamCx _ A out z G E _ f d) (fun cls o _ G => E cls o G)) (pa_cons (pv 0) (pa_cons pe_non pa_nil)))))
    (.cons (lamGood_by (p := ld3__law_single) (by kernel_rfl) (fun _ _ _ _ _ => rfl) (fun C A out z G E f d hgd hr => (pe_callG (ok_parents T) (hr.mono (by decide)) hgd (by rfl) T.m_parents T.F_parents.kp (b_parents T) (takes_of rfl rfl rfl rfl : Takes (LamX.lamCx _ A out z G E _ f d) (fun cls o _ G => E cls o G)) (pa_cons (pv 0) pa_nil))))
    (.cons (lamGood_by (p := ld4__law_single) (by kernel_rfl) (fun _ _ _ _ _ => rfl) (fun C A out z G E f d hgd hr => (pe_callG (ok_count_results T) (hr.mono (by decide)) hgd (by rfl) T.m_count_results T.F_count_results.kp (b_count_results T) (takes_of rfl rfl rfl rfl : Takes (LamX.lamCx _ A out z G E _ f d) (fun cls o _ G => E cls o G)) (pa_cons (pv 0) pa_nil))))
    (.cons (lamGood_by (p := ld5__law_single) (by kernel_rfl) (fun _ _ _ _ _ => rfl) (fun C A out z G E f d hgd hr => (pe_listR (K := K) (k := 4) (takes_of rfl rfl rfl rfl : Takes (LamX.lamCx _ A out z G E _ f d) (fun cls o _ G => E cls o G)) (ok_each_result T) (hr.mono (by decide)) (by rfl) T.m_each_result T.F_each_result.kp (b_each_result T) (pa_cons (pv 0) pa_nil) (by rfl) T.m_list (by decide +kernel))))
    (.cons (lamGood_by (p := ld6__law_single) (by kernel_rfl) (fun _ _ _ _ _ => rfl) (fun C A out z G E f d hgd hr => (pe_callG (ok_count_sources T) (hr.mono (by decide)) hgd (by rfl) T.m_count_sources T.F_count_sources.kp (b_count_sources T) (takes_of rfl rfl rfl rfl : Takes (LamX.lamCx _ A out z G E _ f d) (fun cls o _ G => E cls o G)) (pa_cons (pv 0) pa_nil))))
    (.cons (lamGood_by (p := ld7__law_single) (by kernel_rfl) (fun _ _ _ _ _ => rfl) (fun C A out z G E f d hgd hr => (pe_callG (ok_sources_by_places T) (hr.mono (by decide)) hgd (by rfl) T.m_sources_by_places T.F_sources_by_places.kp (b_sources_by_places T) (takes_of rfl rfl rfl rfl : Takes (LamX.lamCx _ A out z G E _ f d) (fun cls o _ G => E cls o G)) (pa_cons (pv 0) pa_nil))))
    (.cons (lamGood_by (p := ld8__law_single) (by kernel_rfl) (fun _ _ _ _ _ => rfl) (fun C A out z G E f d hgd hr => (pe_listR (K := K) (k := 4) (takes_of rfl rfl rfl rfl : Takes (LamX.lamCx _ A out z G E _ f d) (fun cls o _ G => E cls o G)) (ok_each_source T) (hr.mono (by decide)) (by rfl) T.m_each_source T.F_each_source.kp (b_each_source T) (pa_cons (pv 0) pa_nil) (by rfl) T.m_list (by decide +kernel))))
    (.cons (lamGood_by (p := ld9__law_single) (by kernel_rfl) (fun _ _ _ _ _ => rfl) (fun C A out z G E f d hgd hr => (pe_callG (ok_format_list T) (hr.mono (by decide)) hgd (by rfl) T.m_format_list T.F_format_list.kp (b_format_list T) (takes_of rfl rfl rfl rfl : Takes (LamX.lamCx _ A out z G E _ f d) (fun cls o _ G => E cls o G)) (pa_cons (pv 0) pa_nil))))
    (.cons (lamGood_by (p := ld10__law_single) (by kernel_rfl) (fun _ _ _ _ _ => rfl) (fun C A out z G E f d hgd hr => (pe_cmK (by rfl) T.mc_MergeList (by decide) T.cr_MergeList T.cm_MergeList_of (takes_of rfl rfl rfl rfl : Takes (LamX.lamCx _ A out z G E _ f d) (fun cls o _ G => E cls o G)) (ok_MergeList_of T) (hr.mono (by decide)) (pa_cons (pv 0) pa_nil))))
    (.cons (lamGood_by (p := ld11__law_single) (by kernel_rfl) (fun _ _ _ _ _ => rfl) (fun C A out z G E f d hgd hr => (pe_callG (ok_trees T) (hr.mono (by decide)) hgd (by rfl) T.m_trees T.F_trees.kp (b_trees T) (takes_of rfl rfl rfl rfl : Takes (LamX.lamCx _ A out z G E _ f d) (fun cls o _ G => E cls o G)) (pa_cons (pv 0) pa_nil))))
    (.cons (lamGood_by (p := ld12__law_single) (by kernel_rfl) (fun _ _ _ _ _ => rfl) (fun C A out z G E f d hgd hr => (pe_callG (ok_addresses T) (hr.mono (by decide)) hgd (by rfl) T.m_addresses T.F_addresses.kp (b_addresses T) (takes_of rfl rfl rfl rfl : Takes (LamX.lamCx _ A out z G E _ f d) (fun cls o _ G => E cls o G)) (pa_cons (pv 0) pa_nil))))
    (.cons (lamGood_by (p := ld0__law_more) (by kernel_rfl) (fun _ _ _ _ _ => rfl) (fun C A out z G E f d hgd hr => (pe_callG (ok_both T) (hr.mono (by decide)) hgd (by rfl) T.m_both T.F_both.kp (b_both T) (takes_of rfl rfl rfl rfl : Takes (LamX.lamCx _ A out z G E _ f d) (fun cls o _ G => E cls o G)) (pa_cons (pv 0) (pa_cons (pv 1) (pa_cons (pv 2) pa_nil))))))
    (.cons (lamGood_by (p := ld1__law_more) (by kernel_rfl) (fun _ _ _ _ _ => rfl) (fun C A out z G E f d hgd hr => (pe_callG (ok_either T) (hr.mono (by decide)) hgd (by rfl) T.m_either T.F_either.kp (b_either T) (takes_of rfl rfl rfl rfl : Takes (LamX.lamCx _ A out z G E _ f d) (fun cls o _ G => E cls o G)) (pa_cons (pv 0) (pa_cons (pv 1) (pa_cons (pv 2) pa_nil))))))
    (.cons (lamGood_by (p := ld2__law_more) (by kernel_rfl) (fun _ _ _ _ _ => rfl) (fun C A out z G E f d hgd hr => (pe_callG (ok_median T) (hr.mono (by decide)) hgd (by rfl) T.m_median T.F_median.kp (b_median T) (takes_of rfl rfl rfl rfl : Takes (LamX.lamCx _ A out z G E _ f d) (fun cls o _ G => E cls o G)) (pa_cons (pv 0) (pa_cons (pv 1) (pa_cons (pv 2) pa_nil))))))
    (.cons (lamGood_by (p := ld3__law_more) (by kernel_rfl) (fun _ _ _ _ _ => rfl) (fun C A out z G E f d hgd hr => (pe_callG (ok_three_way T) (hr.mono (by decide)) hgd (by rfl) T.m_three_way T.F_three_way.kp (b_three_way T) (takes_of rfl rfl rfl rfl : Takes (LamX.lamCx _ A out z G E _ f d) (fun cls o _ G => E cls o G)) (pa_cons (pv 0) (pa_cons (pv 1) (pa_cons (pv 2) pa_nil))))))
    (.cons (lamGood_by (p := ld0__law_back) (by kernel_rfl) (fun _ _ _ _ _ => rfl) (fun C A out z G E f d hgd hr => (pe_callG (ok_read_back T) (hr.mono (by decide)) hgd (by rfl) T.m_read_back T.F_read_back.kp (b_read_back T) (takes_of rfl rfl rfl rfl : Takes (LamX.lamCx _ A out z G E _ f d) (fun cls o _ G => E cls o G)) (pa_cons (pv 0) (pa_cons (pv 1) pa_nil)))))
    (.cons (lamGood_by (p := ld1__law_back) (by kernel_rfl) (fun _ _ _ _ _ => rfl) (fun C A out z G E f d hgd hr => (pe_callG (ok_union T) (hr.mono (by decide)) hgd (by rfl) T.m_union T.F_union.kp (b_union T) (takes_of rfl rfl rfl rfl : Takes (LamX.lamCx _ A out z G E _ f d) (fun cls o _ G => E cls o G)) (pa_cons (pv 0) (pa_cons (pv 1) pa_nil)))))
    (.cons (lamGood_by (p := ld2__law_back) (by kernel_rfl) (fun _ _ _ _ _ => rfl) (fun C A out z G E f d hgd hr => (pe_callG (ok_intersection T) (hr.mono (by decide)) hgd (by rfl) T.m_intersection T.F_intersection.kp (b_intersection T) (takes_of rfl rfl rfl rfl : Takes (LamX.lamCx _ A out z G E _ f d) (fun cls o _ G => E cls o G)) (pa_cons (pv 0) (pa_cons (pv 1) pa_nil)))))
    (.cons (lamGood_by (p := ld3__law_back) (by kernel_rfl) (fun _ _ _ _ _ => rfl) (fun C A out z G E f d hgd hr => (pe_callG (ok_difference T) (hr.mono (by decide)) hgd (by rfl) T.m_difference T.F_difference.kp (b_difference T) (takes_of rfl rfl rfl rfl : Takes (LamX.lamCx _ A out z G E _ f d) (fun cls o _ G => E cls o G)) (pa_cons (pv 0) (pa_cons (pv 1) pa_nil)))))
    (.cons (lamGood_by (p := ld4__law_back) (by kernel_rfl) (fun _ _ _ _ _ => rfl) (fun C A out z G E f d hgd hr => (pe_callG (ok_includes T) (hr.mono (by decide)) hgd (by rfl) T.m_includes T.F_includes.kp (b_includes T) (takes_of rfl rfl rfl rfl : Takes (LamX.lamCx _ A out z G E _ f d) (fun cls o _ G => E cls o G)) (pa_cons (pv 0) (pa_cons (pv 1) pa_nil)))))
    (.cons (lamGood_by (p := ld5__law_back) (by kernel_rfl) (fun _ _ _ _ _ => rfl) (fun C A out z G E f d hgd hr => (pe_callG (ok_missing T) (hr.mono (by decide)) hgd (by rfl) T.m_missing T.F_missing.kp (b_missing T) (takes_of rfl rfl rfl rfl : Takes (LamX.lamCx _ A out z G E _ f d) (fun cls o _ G => E cls o G)) (pa_cons (pv 0) (pa_cons (pv 1) pa_nil)))))
    (.cons (lamGood_by (p := ld6__law_back) (by kernel_rfl) (fun _ _ _ _ _ => rfl) (fun C A out z G E f d hgd hr => (pe_callG (ok_matches T) (hr.mono (by decide)) hgd (by rfl) T.m_matches T.F_matches.kp (b_matches T) (takes_of rfl rfl rfl rfl : Takes (LamX.lamCx _ A out z G E _ f d) (fun cls o _ G => E cls o G)) (pa_cons (pv 0) (pa_cons (pv 1) pa_nil)))))
    (.cons (lamGood_by (p := ld7__law_back) (by kernel_rfl) (fun _ _ _ _ _ => rfl) (fun C A out z G E f d hgd hr => (pe_callG (ok_count_between T) (hr.mono (by decide)) hgd (by rfl) T.m_count_between T.F_count_between.kp (b_count_between T) (takes_of rfl rfl rfl rfl : Takes (LamX.lamCx _ A out z G E _ f d) (fun cls o _ G => E cls o G)) (pa_cons (pv 0) (pa_cons (pv 1) pa_nil)))))
    (.cons (lamGood_by (p := ld8__law_back) (by kernel_rfl) (fun _ _ _ _ _ => rfl) (fun C A out z G E f d hgd hr => (pe_callG (ok_residue T) (hr.mono (by decide)) hgd (by rfl) T.m_residue T.F_residue.kp (b_residue T) (takes_of rfl rfl rfl rfl : Takes (LamX.lamCx _ A out z G E _ f d) (fun cls o _ G => E cls o G)) (pa_cons (pv 0) (pa_cons (pv 1) pa_nil)))))
    (.cons (lamGood_by (p := ld9__law_back) (by kernel_rfl) (fun _ _ _ _ _ => rfl) (fun C A out z G E f d hgd hr => (pe_callG (ok_distance T) (hr.mono (by decide)) hgd (by rfl) T.m_distance T.F_distance.kp (b_distance T) (takes_of rfl rfl rfl rfl : Takes (LamX.lamCx _ A out z G E _ f d) (fun cls o _ G => E cls o G)) (pa_cons (pv 0) (pa_cons (pv 1) pa_nil)))))
    (.cons (lamGood_by (p := ld10__law_back) (by kernel_rfl) (fun _ _ _ _ _ => rfl) (fun C A out z G E f d hgd hr => (pe_callG (ok_path T) (hr.mono (by decide)) hgd (by rfl) T.m_path T.F_path.kp (b_path T) (takes_of rfl rfl rfl rfl : Takes (LamX.lamCx _ A out z G E _ f d) (fun cls o _ G => E cls o G)) (pa_cons (pv 0) (pa_cons (pv 1) pa_nil)))))
    .nil)))))))))))))))))))))))))))))))) (fun _ _ _ => (pss_one (ps_set (i := 1) sc__law_kept.nd rfl (.inl rfl) (pv 2)))) (by decide))
  (pss_cons (ps_set (i := 3) sc__law_kept.nd rfl (.inl rfl) (pe_lst (pa_cons (pe_callB (isE2K (K := K)) (by rfl) T.m_isinstance (by decide +kernel) (pa_cons (pv 1) (pa_cons (pe_glob (v := .ref T.X_ClosedSide.C) (by rfl) T.X_ClosedSide.m rfl) pa_nil))) (pa_cons (pe_callB (isE2K (K := K)) (by rfl) T.m_isinstance (by decide +kernel) (pa_cons (pv 1) (pa_cons (pe_glob (v := .ref T.X_InvalidLists.C) (by rfl) T.X_InvalidLists.m rfl) pa_nil))) pa_nil))))
  (pss_cons (ps_set (i := 3) sc__law_kept.nd rfl (.inl rfl) (pe_op op_cat (pv 3) (pe_lst (pa_cons (pe_callB (isE2K (K := K)) (by rfl) T.m_isinstance (by decide +kernel) (pa_cons (pv 1) (pa_cons (pe_glob (v := .ref T.X_InvalidNumber.C) (by rfl) T.X_InvalidNumber.m rfl) pa_nil))) pa_nil))))
  (pss_cons (ps_set (i := 3) sc__law_kept.nd rfl (.inl rfl) (pe_op op_cat (pv 3) (pe_lst (pa_cons (pe_callB (isE2K (K := K)) (by rfl) T.m_isinstance (by decide +kernel) (pa_cons (pv 1) (pa_cons (pe_glob (v := .ref T.X_InvalidPlaces.C) (by rfl) T.X_InvalidPlaces.m rfl) pa_nil))) (pa_cons (pe_callB (isE2K (K := K)) (by rfl) T.m_isinstance (by decide +kernel) (pa_cons (pv 1) (pa_cons (pe_glob (v := .ref T.X_InvalidText.C) (by rfl) T.X_InvalidText.m rfl) pa_nil))) pa_nil)))))
  (pss_cons (ps_set (i := 3) sc__law_kept.nd rfl (.inl rfl) (pe_op op_cat (pv 3) (pe_lst (pa_cons (pe_callB (isE2K (K := K)) (by rfl) T.m_isinstance (by decide +kernel) (pa_cons (pv 1) (pa_cons (pe_glob (v := .ref T.X_TooMany.C) (by rfl) T.X_TooMany.m rfl) pa_nil))) pa_nil))))
  (pss_cons (ps_expr (pe_bm PySem.F.plainAttrs_list PySem.F.slot_list_append PySem.F.type_list_append mt_append (pv 3) (pa_cons (pe_callB (isE2K (K := K)) (by rfl) T.m_isinstance (by decide +kernel) (pa_cons (pv 1) (pa_cons (pe_glob (v := .ref T.X_UnknownSide.C) (by rfl) T.X_UnknownSide.m rfl) pa_nil))) pa_nil)))
  (pss_cons (ps_if (PW.pt (pw_or (pt_cmpR (inK (K := K) hr.units65) pe_bl (pv 3) (by rfl)) (pw_or (pt_not (ptK (K := K) (pe_callB (isE2K (K := K)) (by rfl) T.m_isinstance (by decide +kernel) (pa_cons (pv 1) (pa_cons (pe_glob (v := .ref T.X_InvalidList.C) (by rfl) T.X_InvalidList.m rfl) pa_nil))) (by intro _; rfl))) (pw_or1 (pt_not (ptK (K := K) (pe_callB (isE2K (K := K)) (by rfl) T.m_isinstance (by decide +kernel) (pa_cons (pv 1) (pa_cons (pe_bltn (v := .ty "ValueError") (by rfl) T.m_ValueError (by decide +kernel) rfl) pa_nil))) (by intro _; rfl))))))) (pss_one (ps_ret pe_str)) pss_nil)
  (pss_one (ps_ret (pe_callB (reprK (K := K) hr hgd) (by rfl) T.m_repr (by decide +kernel) (pa_cons (atXK (K := K) (pv 1)) pa_nil)))))))))))), ?_⟩
  exact fn_endA (N := N__law_kept) (ar := 1) (body := body__law_kept) (ss_cons (ss_asg se_non sg_name)
  (ss_cons (ss_try (K := K) (f := exm6 K (.ref T.X_ClosedSide.C) (.ref T.X_InvalidList.C) (.ref T.X_InvalidLists.C) (.ref T.X_InvalidNumber.C) (.ref T.X_InvalidPlaces.C) (.ref T.X_InvalidText.C)) (cs := csL [("InvalidList", true)]) (cs_cons T.X_InvalidList.m (exm6_yes T.x_InvalidList_ClosedSide T.x_InvalidList_InvalidList T.x_InvalidList_InvalidLists T.x_InvalidList_InvalidNumber T.x_InvalidList_InvalidPlaces T.x_InvalidList_InvalidText) cs_nil) (fun _ => (ss_expr (se_askTs (by kernel_rfl) (.cons ⟨rfl, fun E => (se_def (sa_cons (se_var 0) (sa_cons se_non sa_nil)))⟩
    (.cons ⟨rfl, fun E => (se_def (sa_cons (se_var 0) (sa_cons se_non sa_nil)))⟩
    (.cons ⟨rfl, fun E => (se_def (sa_cons (se_var 0) (sa_cons se_non sa_nil)))⟩
    (.cons ⟨rfl, fun E => (se_def (sa_cons (se_var 0) sa_nil))⟩
    (.cons ⟨rfl, fun E => (se_def (sa_cons (se_var 0) sa_nil))⟩
    (.cons ⟨rfl, fun E => (se_listR (K := K) (ok := okS_) (okS_h T) (sa_cons (se_var 0) sa_nil))⟩
    (.cons ⟨rfl, fun E => (se_def (sa_cons (se_var 0) sa_nil))⟩
    (.cons ⟨rfl, fun E => (se_def (sa_cons (se_var 0) sa_nil))⟩
    (.cons ⟨rfl, fun E => (se_listR (K := K) (ok := okS_) (okS_h T) (sa_cons (se_var 0) sa_nil))⟩
    (.cons ⟨rfl, fun E => (se_def (sa_cons (se_var 0) sa_nil))⟩
    (.cons ⟨rfl, fun E => (se_def (sa_cons (se_var 0) sa_nil))⟩
    (.cons ⟨rfl, fun E => (se_def (sa_cons (se_var 0) sa_nil))⟩
    (.cons ⟨rfl, fun E => (se_def (sa_cons (se_var 0) sa_nil))⟩
    (.cons ⟨rfl, fun E => (se_def (sa_cons (se_var 0) (sa_cons (se_var 1) (sa_cons (se_var 2) sa_nil))))⟩
    (.cons ⟨rfl, fun E => (se_def (sa_cons (se_var 0) (sa_cons (se_var 1) (sa_cons (se_var 2) sa_nil))))⟩
    (.cons ⟨rfl, fun E => (se_def (sa_cons (se_var 0) (sa_cons (se_var 1) (sa_cons (se_var 2) sa_nil))))⟩
    (.cons ⟨rfl, fun E => (se_def (sa_cons (se_var 0) (sa_cons (se_var 1) (sa_cons (se_var 2) sa_nil))))⟩
    (.cons ⟨rfl, fun E => (se_def (sa_cons (se_var 0) (sa_cons (se_var 1) sa_nil)))⟩
    (.cons ⟨rfl, fun E => (se_def (sa_cons (se_var 0) (sa_cons (se_var 1) sa_nil)))⟩
    (.cons ⟨rfl, fun E => (se_def (sa_cons (se_var 0) (sa_cons (se_var 1) sa_nil)))⟩
    (.cons ⟨rfl, fun E => (se_def (sa_cons (se_var 0) (sa_cons (se_var 1) sa_nil)))⟩
    (.cons ⟨rfl, fun E => (se_def (sa_cons (se_var 0) (sa_cons (se_var 1) sa_nil)))⟩
    (.cons ⟨rfl, fun E => (se_def (sa_cons (se_var 0) (sa_cons (se_var 1) sa_nil)))⟩
    (.cons ⟨rfl, fun E => (se_def (sa_cons (se_var 0) (sa_cons (se_var 1) sa_nil)))⟩
    (.cons ⟨rfl, fun E => (se_def (sa_cons (se_var 0) (sa_cons (se_var 1) sa_nil)))⟩
    (.cons ⟨rfl, fun E => (se_def (sa_cons (se_var 0) (sa_cons (se_var 1) sa_nil)))⟩
    (.cons ⟨rfl, fun E => (se_def (sa_cons (se_var 0) (sa_cons (se_var 1) sa_nil)))⟩
    (.cons ⟨rfl, fun E => (se_def (sa_cons (se_var 0) (sa_cons (se_var 1) sa_nil)))⟩
    .nil))))))))))))))))))))))))))))))))
  (ss_cons (ss_asg (se_cell (sf_lst (sa_cons (se_isX (.own _) (anb_cons T.k_NoneType_ClosedSide anb_nil) (ano_cons T.X_InvalidList.m T.X_InvalidList.xa T.k_InvalidList_ClosedSide ano_nil) (se_var 1)) (sa_cons (se_isX (.own _) (anb_cons T.k_NoneType_InvalidLists anb_nil) (ano_cons T.X_InvalidList.m T.X_InvalidList.xa T.k_InvalidList_InvalidLists ano_nil) (se_var 1)) sa_nil)))) sg_name)
  (ss_cons (ss_asg (se_cell (sf_op of_cat (se_var 3) (se_dat (sf_lst (sa_cons (se_isX (.own _) (anb_cons T.k_NoneType_InvalidNumber anb_nil) (ano_cons T.X_InvalidList.m T.X_InvalidList.xa T.k_InvalidList_InvalidNumber ano_nil) (se_var 1)) sa_nil))))) sg_name)
  (ss_cons (ss_asg (se_cell (sf_op of_cat (se_var 3) (se_dat (sf_lst (sa_cons (se_isX (.own _) (anb_cons T.k_NoneType_InvalidPlaces anb_nil) (ano_cons T.X_InvalidList.m T.X_InvalidList.xa T.k_InvalidList_InvalidPlaces ano_nil) (se_var 1)) (sa_cons (se_isX (.own _) (anb_cons T.k_NoneType_InvalidText anb_nil) (ano_cons T.X_InvalidList.m T.X_InvalidList.xa T.k_InvalidList_InvalidText ano_nil) (se_var 1)) sa_nil)))))) sg_name)
  (ss_cons (ss_asg (se_cell (sf_op of_cat (se_var 3) (se_dat (sf_lst (sa_cons (se_isX (.own _) (anb_cons T.k_NoneType_TooMany anb_nil) (ano_cons T.X_InvalidList.m T.X_InvalidList.xa T.k_InvalidList_TooMany ano_nil) (se_var 1)) sa_nil))))) sg_name)
  (ss_cons (ss_expr (se_append (se_var 3) (se_isX (.own _) (anb_cons T.k_NoneType_UnknownSide anb_nil) (ano_cons T.X_InvalidList.m T.X_InvalidList.xa T.k_InvalidList_UnknownSide ano_nil) (se_var 1))))
  (ss_cons (ss_if (st_or (st_test (se_op os_in (se_bl true) (se_var 3))) (st_or (st_not (st_tru (se_isX (.own _) (anb_cons T.k_NoneType_InvalidList anb_nil) (ano_cons T.X_InvalidList.m T.X_InvalidList.xa T.k_InvalidList_InvalidList ano_nil) (se_var 1)))) (st_not (st_tru (se_isX (.ty _) (anb_cons T.k_NoneType_ValueError anb_nil) (ano_cons T.X_InvalidList.m T.X_InvalidList.xa T.k_InvalidList_ValueError ano_nil) (se_var 1)))))) (ss_ret (se_str "other")) ss_nil)
  (ss_ret (se_call ca_repr (sa_cons (se_atX (atN_cons T.X_InvalidList atN_nil) (se_var 1)) sa_nil))))))))))) h
theorem ok__law_right (T : Top K mg) (tbs_ : TBs T base) : FnG P w K mg base 12 T.f__law_right T.fd__law_right ["_law_draws_here"] (FSp mg (g__law_right T.th)) := by
  refine T.F__law_right.okG (k := 11) sc__law_right (fun _ _ _ _ h => fsp_len h) (fun cdv A out s G vs Q E hr hgd h => ?_)
  have tk : Takes (cxOf (L2.CX P w) P w K mg base N__law_right "_law_right" (defScope s__law_right) T.f__law_right cdv A out s G E) (fun cls d _ H => E cls d H) := takes_of rfl rfl rfl rfl
  refine ⟨_, (pss_cons (ps_set (i := 1) sc__law_right.nd rfl (.inl rfl) (pe_callG (ok__law_list T) (hr.mono (by decide)) hgd (by rfl) T.m__law_list T.F__law_list.kp (b__law_list T) tk (pa_cons (pv 0) (pa_cons pe_int pa_nil))))
  (pss_cons (ps_setLc (i := 2) (own := [("_law_thing", 3)]) rfl sc__law_right.nd rfl rfl (sw_true rfl rfl rfl (by decide +kernel)) (pi_or (piLK (K := K) (pe_lst (pa_cons pe_non (pa_cons pe_int (pa_cons pe_str (pa_cons pe_str (pa_cons (pe_callTy (tupleK (K := K)) (by rfl) T.m_tuple (by decide +kernel) (pa_cons (pv 1) pa_nil)) (pa_cons (pe_lockR pe_dnewK) (pa_cons pe_bl pa_nil))))))))) (piTK (K := K) (pe_lst (pa_cons pe_non (pa_cons pe_int (pa_cons pe_str (pa_cons pe_str (pa_cons (pe_callTy (tupleK (K := K)) (by rfl) T.m_tuple (by decide +kernel) (pa_cons (pv 1) pa_nil)) (pa_cons (pe_lockR pe_dnewK) (pa_cons pe_bl pa_nil)))))))))) (blkOk_by (by kernel_rfl)) (fun _ _ _ _ _ => (pg_name (i := 3) sc__law_right.nd rfl (.inl rfl))) (fun _ _ _ _ _ => pts_nil) (fun _ _ _ _ _ => (pe_tup (pa_cons (pv 3) (pa_cons pe_non pa_nil)))))
  (pss_cons (ps_for (passes_of rfl) rfl (pi_or (piLK (K := K) (pe_lst (pa_cons pe_non (pa_cons pe_bl (pa_cons pe_str (pa_cons (pe_lst (pa_cons pe_int pa_nil)) (pa_cons (pe_tup (pa_cons pe_int pa_nil)) pa_nil))))))) (piTK (K := K) (pe_lst (pa_cons pe_non (pa_cons pe_bl (pa_cons pe_str (pa_cons (pe_lst (pa_cons pe_int pa_nil)) (pa_cons (pe_tup (pa_cons pe_int pa_nil)) pa_nil)))))))) (pg_name (i := 3) sc__law_right.nd rfl (.inl rfl)) (pss_cons (ps_set (i := 4) sc__law_right.nd rfl (.inl rfl) (pe_op op_mod (pe_callTy call_int1 (by rfl) T.m_int (by decide +kernel) (pa_cons (pe_callG (ok__law_next T) (hr.mono (by decide)) hgd (by rfl) T.m__law_next T.F__law_next.kp (b__law_next T) tk (pa_cons (pv 0) pa_nil)) pa_nil)) (pe_op op_addG (pe_callB (lenK (K := K)) (by rfl) T.m_len (by decide +kernel) (pa_cons (pv 1) pa_nil)) pe_int)))
  (pss_one (ps_expr (pe_bm PySem.F.plainAttrs_list PySem.F.slot_list_append PySem.F.type_list_append mt_append (pv 2) (pa_cons (pe_tup (pa_cons (pe_op op_addG (pe_op op_addG (pe_op op_addG (pe_slice (slK (K := K)) (pv 1) po_none (po_some (pv 4))) (pe_lst (pa_cons (pv 3) pa_nil))) (pe_slice (slK (K := K)) (pv 1) (po_some (pv 4)) po_none)) (pe_lst (pa_cons pe_non pa_nil))) (pa_cons (pv 4) pa_nil))) pa_nil))))))
  (pss_cons (ps_for (passes_of rfl) rfl (pi_or (piLK (K := K) (pv 2)) (piTK (K := K) (pv 2))) (pgTK (K := K) (n := 2) rfl (pgs_cons (pg_name (i := 5) sc__law_right.nd rfl (.inl rfl)) (pgs_cons (pg_name (i := 6) sc__law_right.nd rfl (.inr rfl)) pgs_nil))) (pss_cons (ps_set (i := 7) sc__law_right.nd rfl (.inl rfl) (pe_op op_cat (pe_op op_cat (pe_op op_cat (pe_op op_cat (pe_callG (ok__law_single T tbs_) (hr.mono (by decide)) hgd (by rfl) T.m__law_single T.F__law_single.kp (b__law_single T) tk (pa_cons (pv 5) pa_nil)) (pe_callG (ok__law_back T tbs_) (hr.mono (by decide)) hgd (by rfl) T.m__law_back T.F__law_back.kp (b__law_back T) tk (pa_cons (pv 5) (pa_cons pe_non pa_nil)))) (pe_callG (ok__law_back T tbs_) (hr.mono (by decide)) hgd (by rfl) T.m__law_back T.F__law_back.kp (b__law_back T) tk (pa_cons (pv 1) (pa_cons (pv 5) pa_nil)))) (pe_callG (ok__law_back T tbs_) (hr.mono (by decide)) hgd (by rfl) T.m__law_back T.F__law_back.kp (b__law_back T) tk (pa_cons (pv 5) (pa_cons (pv 5) pa_nil)))) (pe_callG (ok__law_back T tbs_) (hr.mono (by decide)) hgd (by rfl) T.m__law_back T.F__law_back.kp (b__law_back T) tk (pa_cons (pv 5) (pa_cons (pe_lst pa_nil) pa_nil)))))
  (pss_cons (ps_set (i := 7) sc__law_right.nd rfl (.inl rfl) (pe_op op_cat (pe_op op_cat (pv 7) (pe_callG (ok__law_more T tbs_) (hr.mono (by decide)) hgd (by rfl) T.m__law_more T.F__law_more.kp (b__law_more T) tk (pa_cons (pv 5) (pa_cons (pe_lst pa_nil) (pa_cons (pe_lst pa_nil) pa_nil))))) (pe_callG (ok__law_more T tbs_) (hr.mono (by decide)) hgd (by rfl) T.m__law_more T.F__law_more.kp (b__law_more T) tk (pa_cons (pv 5) (pa_cons (pv 5) (pa_cons (pv 5) pa_nil))))))
  (pss_cons (ps_set (i := 7) sc__law_right.nd rfl (.inl rfl) (pe_op op_cat (pe_op op_cat (pe_op op_cat (pv 7) (pe_callG (ok__law_more T tbs_) (hr.mono (by decide)) hgd (by rfl) T.m__law_more T.F__law_more.kp (b__law_more T) tk (pa_cons (pv 5) (pa_cons pe_non (pa_cons pe_non pa_nil))))) (pe_callG (ok__law_more T tbs_) (hr.mono (by decide)) hgd (by rfl) T.m__law_more T.F__law_more.kp (b__law_more T) tk (pa_cons (pv 1) (pa_cons (pv 5) (pa_cons pe_non pa_nil))))) (pe_callG (ok__law_more T tbs_) (hr.mono (by decide)) hgd (by rfl) T.m__law_more T.F__law_more.kp (b__law_more T) tk (pa_cons (pv 1) (pa_cons (pv 1) (pa_cons (pv 5) pa_nil))))))
  (pss_one (ps_if (pt_cmpR (neK (K := K) hr.units) (pe_lc (own := [("_law_ask", 8)]) rfl sc__law_right.nd (pi_or (piLK (K := K) (pv 7)) (piTK (K := K) (pv 7))) (blkOk_by (by kernel_rfl)) (fun _ _ _ _ _ => (pg_name (i := 8) sc__law_right.nd rfl (.inl rfl))) (fun _ _ _ _ _ => (pts_one (pt_cmpR (neK (K := K) hr.units) (pe_callG (ok__law_kept T) (hr.mono (by decide)) hgd (by rfl) T.m__law_kept T.F__law_kept.kp (b__law_kept T) tkF (pa_cons (pv 8) pa_nil)) (pe_callB (reprK (K := K) hr hgd) (by rfl) T.m_repr (by decide +kernel) (pa_cons (pv 6) pa_nil)) (nomark _)))) (fun _ _ _ _ _ => (pv 8))) (pe_lst pa_nil) (nomark _)) (pss_one (ps_ret pe_bl)) pss_nil))))))
  (pss_one (ps_ret pe_bl)))))), ?_⟩
  exact fn_end (N := N__law_right) (ar := 1) (body := body__law_right T.th) (ss_cons (ss_asg (se_def (sa_cons (se_var 0) (sa_cons (se_int 8) sa_nil))) sg_name)
  (ss_cons (ss_asg (se_cell (sf_lc (vs := [3]) (si_or (si_list (se_dat (sf_lst (sa_cons se_non (sa_cons (se_int 5) (sa_cons (se_str "") (sa_cons (se_str "12") (sa_cons (se_call ca_tuple (sa_cons (se_var 1) sa_nil)) (sa_cons se_dnewD (sa_cons (se_bl true) sa_nil)))))))))) (si_tup (se_dat (sf_lst (sa_cons se_non (sa_cons (se_int 5) (sa_cons (se_str "") (sa_cons (se_str "12") (sa_cons (se_call ca_tuple (sa_cons (se_var 1) sa_nil)) (sa_cons se_dnewD (sa_cons (se_bl true) sa_nil))))))))))) sg_name (kg_name (by decide)) st_yes (se_tup (sa_cons (se_var 3) (sa_cons se_non sa_nil))))) sg_name)
  (ss_cons (ss_for (si_or (si_list (se_dat (sf_lst (sa_cons se_non (sa_cons (se_bl true) (sa_cons (se_str "1") (sa_cons (se_dat (sf_lst (sa_cons (se_int 1) sa_nil))) (sa_cons (se_tup (sa_cons (se_int 2) sa_nil)) sa_nil)))))))) (si_tup (se_dat (sf_lst (sa_cons se_non (sa_cons (se_bl true) (sa_cons (se_str "1") (sa_cons (se_dat (sf_lst (sa_cons (se_int 1) sa_nil))) (sa_cons (se_tup (sa_cons (se_int 2) sa_nil)) sa_nil))))))))) sg_name (ss_cons (ss_asg (se_op os_mod (se_call ca_int (sa_cons (se_def (sa_cons (se_var 0) sa_nil)) sa_nil)) (se_op os_addG (se_call ca_lenG (sa_cons (se_var 1) sa_nil)) (se_int 1))) sg_name)
  (ss_expr (se_append (se_var 2) (se_tup (sa_cons (se_op os_addG (se_op os_addG (se_op os_addG (se_sl ss_G (se_var 1) so_none (so_some (se_var 4))) (se_dat (sf_lst (sa_cons (se_var 3) sa_nil)))) (se_sl ss_G (se_var 1) (so_some (se_var 4)) so_none)) (se_dat (sf_lst (sa_cons se_non sa_nil)))) (sa_cons (se_var 4) sa_nil)))))))
  (ss_cons (ss_for (si_or (si_list (se_frz (se_var 2))) (si_tup (se_frz (se_var 2)))) (sg_tup (sgs_cons sg_name (sgs_cons sg_name sgs_nil))) (ss_cons (ss_asg (se_catT (se_catT (se_catT (se_catT (se_defA (sa_cons (se_var 5) sa_nil)) (se_defA (sa_cons (se_var 5) (sa_cons se_non sa_nil)))) (se_defA (sa_cons (se_var 1) (sa_cons (se_var 5) sa_nil)))) (se_defA (sa_cons (se_var 5) (sa_cons (se_var 5) sa_nil)))) (se_defA (sa_cons (se_var 5) (sa_cons (se_dat (sf_lst sa_nil)) sa_nil)))) sg_name)
  (ss_cons (ss_asg (se_catT (se_catT (se_var 7) (se_defA (sa_cons (se_var 5) (sa_cons (se_dat (sf_lst sa_nil)) (sa_cons (se_dat (sf_lst sa_nil)) sa_nil))))) (se_defA (sa_cons (se_var 5) (sa_cons (se_var 5) (sa_cons (se_var 5) sa_nil))))) sg_name)
  (ss_cons (ss_asg (se_catT (se_catT (se_catT (se_var 7) (se_defA (sa_cons (se_var 5) (sa_cons se_non (sa_cons se_non sa_nil))))) (se_defA (sa_cons (se_var 1) (sa_cons (se_var 5) (sa_cons se_non sa_nil))))) (se_defA (sa_cons (se_var 1) (sa_cons (se_var 1) (sa_cons (se_var 5) sa_nil))))) sg_name)
  (ss_if (st_test (se_op os_neG (se_lcT (K := K) (se_var 7) (st_test (se_op os_neG (se_defA (sa_cons (se_var 8) sa_nil)) (se_call ca_repr (sa_cons (se_var 6) sa_nil))))) (se_dat (sf_lst sa_nil)))) (ss_ret (se_bl false)) ss_nil)))))
  (ss_ret (se_bl true)))))) h
end
noncomputable def fb_law (th : Str → Addr) : M Bool := (fNot (fTru (fDefT (g__law_right th) (fCons (fDef g__law_draws (fCons (fVar 1) fNil)) fNil))))
section
variable {P : Program} {w : World} {K : PySem.W.Frag} {mg : Str → Option Value} {base : Heap}
theorem ok_law (T : Top K mg) (tbs_ : TBs T base) (nd : ((TS_ T.th).map (·.1)).Nodup) (step : ∀ (th : Str → Addr) (c : Int), ∃ s', fb_law th ⟨(List.replicate N_law.length none).set 1 (some (.d (.int c))), tbs (TS_ th)⟩ = .ok false s' ∧ ∃ tl, s'.ce = tbs (TS_ th) ++ tl) : FnG P w K mg base 13 T.f_law T.fd_law ["_law_script"] (spLawT K (TS_ T.th)) := by
  refine T.F_law.okG (k := 12) sc_law (fun _ _ _ _ h => spLawT_len h) (fun cdv A out s G vs Q E hr hgd h => ?_)
  have tk : Takes (cxOf (L2.CX P w) P w K mg base N_law "law" (defScope s_law) T.f_law cdv A out s G E) (fun cls d _ H => E cls d H) := takes_of rfl rfl rfl rfl
  refine ⟨_, (pss_one (ps_ret (pe_cmpR (eqK (K := K) hr.units) (pe_lc (own := [("_law_cell", 1)]) rfl sc_law.nd (pi_or (piLK (K := K) (pe_op op_cat (pe_slice (slLK (K := K)) (pv 0) po_none (po_some pe_int)) (pe_lst (pa_cons pe_int pa_nil)))) (piTK (K := K) (pe_op op_cat (pe_slice (slLK (K := K)) (pv 0) po_none (po_some pe_int)) (pe_lst (pa_cons pe_int pa_nil))))) (blkOk_by (by kernel_rfl)) (fun _ _ _ _ _ => (pg_name (i := 1) sc_law.nd rfl (.inl rfl))) (fun _ _ _ _ _ => pts_one (pt_not (ptK (K := K) (pe_callG (ok__law_right T tbs_) (hr.mono (by decide)) hgd (by rfl) T.m__law_right T.F__law_right.kp (b__law_right T) tkF (pa_cons (pe_callG (ok__law_draws T) (hr.mono (by decide)) hgd (by rfl) T.m__law_draws T.F__law_draws.kp (b__law_draws T) tkF (pa_cons (pv 1) pa_nil)) pa_nil)) (by intro _; rfl)))) (fun _ _ _ _ _ => (pv 1))) (pe_lst pa_nil) (by rfl)))), ?_⟩
  exact law_FT (N := N_law) (ic := 1) (k := 4) (ft := fb_law T.th) (st_not (st_tru (se_defT (sa_cons (se_def (sa_cons (se_var 1) sa_nil)) sa_nil)))) (by decide) nd (step T.th) h
end

end R
end Rsec

section Fsec
set_option maxRecDepth 100000
set_option maxHeartbeats 1000000
open PySem PySem.Spec PyProof.Rows L2 DL
namespace R
/-! the draws -/
def Dr (n : Nat) (st : List D) : Prop := ∃ (x k : Int) (b : Bool), st = [.int x, .int k, .bool b] ∧ 0 ≤ k ∧ k + n ≤ 1000000000
theorem Dr.mono {n m : Nat} {st : List D} (h : Dr n st) (l : m ≤ n) : Dr m st := by
  obtain ⟨x, k, b, rfl, h1, h2⟩ := h
  exact ⟨x, k, b, rfl, h1, by omega⟩
theorem pw6 : cPowW 10 6 = true := by decide +kernel
theorem next_ok {n : Nat} {st : List D} (h : Dr (n + 1) st) : ∃ v st', g__law_next [.c 0] [.l st] = .ok (.d (.int v)) [.l st'] ∧ 0 ≤ v ∧ v ≤ 400000000 ∧ Dr n st' := by
  obtain ⟨x, k, b, rfl, h1, h2⟩ := h
  cases b with
  | true =>
    refine ⟨x % 1000000, [.int (x / 1000000), .int (k + 1), .bool true], ?_, by omega, by omega, _, _, _, rfl, by omega, by omega⟩
    simp [g__law_next, mkF, body__law_next, x_bnd, x_ret, x_stuck, x_gets, x_fVar, x_fC, x_fOp, x_fNil, x_fCons, x_fCall, x_fDat, x_fCell, x_fLst, x_fTup, x_fTest, x_fTru, x_fAnd, x_fOr, x_fNot, x_fIf, x_asB, x_fAndV, x_fOrV, x_fNotV, x_fIsN, x_fNotN, x_frz, x_frzs0, x_frzs1, x_fFrz, x_fSeq, x_fNext, x_fExpr, x_fRet, x_fRetN, x_fAsg, x_kName, x_fPar, x_kNil, x_kCons, x_kTup, x_kSub, x_setIt, x_needL, x_upC, x_fApp, x_fPopAt, x_fPop, x_fSl, x_fNoP, x_fP, x_fDef, x_callD, x_fPerm, x_fIsi, x_fNeg, x_asL, x_asLt, x_asT, x_fItL, x_fItT, x_orI, x_fRng1, x_fRng2, x_fEnum, x_fZip, x_fFor, x_forL0, x_fAug, x_fYes, x_lcT, x_fRstT, x_fRstV, x_ite, oIx, cutC, kl, Ce.lone, x_fCellV, x_fAppV, x_needV, x_upV, oIxV, x_fDNew, x_fSetdL, x_needW, x_setdL, x_fSrtS, x_fToM, x_fItems, x_fGet2, x_fDSub, x_needD, oGet2, oDSub, dictOf, keyD, oSortG, oSortP, orF, oCatT, oStr, x_fCount, x_fIndex, x_fRev, x_fPar3, datL, dat, atI, ixN, oAdd, orO, oI, oInt, oPowW, oIC, oMod, cPos, oDiv, cDiv, endF, oAddI, oSub, oLt, oLe, oGt, oGe, oMul, oMulG, oRepD, oRep, oI2, oMin2, oMax2, oMinL, oMaxL, oAll, oAny, oBools, oIn, oNotIn, oInD, oInSg, x_fChain, intsA, cellsOf, picks, renum, putB, Ce.alive, oSl, slOr, oSlD, oSlL, oLenG, orA, oLen, tru, permL, oSumL, oCatD, datO, oCat, oList, oRepr, oTuple, DL.isNon, oSlT, oSlS, oAddS, oEqG, oNeG, oEqS, oNeS, oEq, oNe, x_fRaise, x_fFrzL, x_frzL, x_fItemsI, x_fValsI, x_fKeysI, x_fDNewM, x_fDPut, x_putC, x_fL6, dsOf, oSortK, intKeys, x_fDSub, x_fTupC, x_fFrzV, x_fSrtU, x_fRng3, x_fFrzN, oIxT, callT, endT, pw6]
  | false =>
    have c1 : cMul (k + 1) (k + 1) = true := by simp only [cMul, decide_eq_true_eq]; omega
    have c2 : cMul ((k + 1) * (k + 1)) 7919 = true := by simp only [cMul, decide_eq_true_eq]; omega
    have c3 : cMul (x % 1000003 + (k + 1) * (k + 1) * 7919 + (k + 1)) 48271 = true := by simp only [cMul, decide_eq_true_eq]; omega
    generalize hu : (x % 1000003 + (k + 1) * (k + 1) * 7919 + (k + 1)) * 48271 % 2147483629 = u
    have u1 : 0 ≤ u := by rw [← hu]; exact Int.emod_nonneg _ (by decide)
    have u2 : u < 2147483629 := by rw [← hu]; exact Int.emod_lt_of_pos _ (by decide)
    have c4 : cMul u u = true := by simp only [cMul, decide_eq_true_eq]; omega
    generalize hv : u * u % 2147483587 = v
    have v1 : 0 ≤ v := by rw [← hv]; exact Int.emod_nonneg _ (by decide)
    have v2 : v < 2147483587 := by rw [← hv]; exact Int.emod_lt_of_pos _ (by decide)
    have c5 : cMul v (v + 2) = true := by simp only [cMul, decide_eq_true_eq]; omega
    refine ⟨v * (v + 2) % 2147483579 / 7, [.int x, .int (k + 1), .bool false], ?_, ?_, ?_, _, _, _, rfl, by omega, by omega⟩
    · simp [g__law_next, mkF, body__law_next, x_bnd, x_ret, x_stuck, x_gets, x_fVar, x_fC, x_fOp, x_fNil, x_fCons, x_fCall, x_fDat, x_fCell, x_fLst, x_fTup, x_fTest, x_fTru, x_fAnd, x_fOr, x_fNot, x_fIf, x_asB, x_fAndV, x_fOrV, x_fNotV, x_fIsN, x_fNotN, x_frz, x_frzs0, x_frzs1, x_fFrz, x_fSeq, x_fNext, x_fExpr, x_fRet, x_fRetN, x_fAsg, x_kName, x_fPar, x_kNil, x_kCons, x_kTup, x_kSub, x_setIt, x_needL, x_upC, x_fApp, x_fPopAt, x_fPop, x_fSl, x_fNoP, x_fP, x_fDef, x_callD, x_fPerm, x_fIsi, x_fNeg, x_asL, x_asLt, x_asT, x_fItL, x_fItT, x_orI, x_fRng1, x_fRng2, x_fEnum, x_fZip, x_fFor, x_forL0, x_fAug, x_fYes, x_lcT, x_fRstT, x_fRstV, x_ite, oIx, cutC, kl, Ce.lone, x_fCellV, x_fAppV, x_needV, x_upV, oIxV, x_fDNew, x_fSetdL, x_needW, x_setdL, x_fSrtS, x_fToM, x_fItems, x_fGet2, x_fDSub, x_needD, oGet2, oDSub, dictOf, keyD, oSortG, oSortP, orF, oCatT, oStr, x_fCount, x_fIndex, x_fRev, x_fPar3, datL, dat, atI, ixN, oAdd, orO, oI, oInt, oPowW, oIC, oMod, cPos, oDiv, cDiv, endF, oAddI, oSub, oLt, oLe, oGt, oGe, oMul, oMulG, oRepD, oRep, oI2, oMin2, oMax2, oMinL, oMaxL, oAll, oAny, oBools, oIn, oNotIn, oInD, oInSg, x_fChain, intsA, cellsOf, picks, renum, putB, Ce.alive, oSl, slOr, oSlD, oSlL, oLenG, orA, oLen, tru, permL, oSumL, oCatD, datO, oCat, oList, oRepr, oTuple, DL.isNon, oSlT, oSlS, oAddS, oEqG, oNeG, oEqS, oNeS, oEq, oNe, x_fRaise, x_fFrzL, x_frzL, x_fItemsI, x_fValsI, x_fKeysI, x_fDNewM, x_fDPut, x_putC, x_fL6, dsOf, oSortK, intKeys, x_fDSub, x_fTupC, x_fFrzV, x_fSrtU, x_fRng3, x_fFrzN, oIxT, callT, endT, c1, c2, c3, hu, c4, hv, c5]
    · omega
    · omega
def big : Int := ((10 ^ 60) ^ 60) ^ 4
theorem big_pos : 0 < big := by decide +kernel
theorem pow_big (s : S) : (fOp oPowW (fOp oPowW (fOp oPowW (fC (.int 10)) (fC (.int 60))) (fC (.int 60))) (fC (.int 4))) s = .ok (.d (.int big)) s := by
  have h1 : oPowW (.d (.int 10)) (.d (.int 60)) s = some (.d (.int (10 ^ 60))) := by kernel_rfl
  have h2 : oPowW (.d (.int (10 ^ 60))) (.d (.int 60)) s = some (.d (.int ((10 ^ 60) ^ 60))) := by kernel_rfl
  have h3 : oPowW (.d (.int ((10 ^ 60) ^ 60))) (.d (.int 4)) s = some (.d (.int big)) := by kernel_rfl
  simp only [fOp, bnd, fC, DL.ret, gets, h1, h2, h3]
theorem pow18 (s : S) : (fOp oPowW (fC (.int 10)) (fC (.int 18))) s = .ok (.d (.int 1000000000000000000)) s := by
  have h1 : oPowW (.d (.int 10)) (.d (.int 18)) s = some (.d (.int 1000000000000000000)) := by kernel_rfl
  simp only [fOp, bnd, fC, DL.ret, gets, h1]
def drInit (c : Int) : List D := [.int (c % big), .int 0, .bool (decide (1000000000000000000 ≤ c))]
theorem draws_ok (c : Int) : g__law_draws [.d (.int c)] [] = .ok (.c 0) [.l (drInit c)] := by
  have hm : ∀ s, oMod (.d (.int c)) (.d (.int big)) s = some (.d (.int (c % big))) := fun s => by
    simp only [oMod, oIC, cPos, decide_eq_true big_pos, if_true]
  simp only [g__law_draws, mkF, body__law_draws, x_fRet, x_fCell, x_fLst, x_fCons, x_bnd, x_fNil, x_fOp oMod, x_fOp oGe, x_fCall, x_fVar, x_gets, pow_big, pow18, x_fC, x_ret, hm, oInt, oGe, oI, List.length_cons, List.length_nil, List.map_cons, List.map_nil, List.cons_append, List.nil_append, List.getElem?_cons_zero]
  simp [drInit, x_frzs1, x_frzs0, x_bnd, x_frz, x_ret, endF, cutC, x_ite, x_stuck]
theorem dr_init (c : Int) : Dr 999999999 (drInit c) := ⟨_, _, _, rfl, by omega, by omega⟩
/-! steps -/
theorem fSeq_ok {f g : M Fl} {s s' : S} (h : f s = .ok .nx s') : fSeq f g s = g s' := by simp only [fSeq, h]
theorem fLc_ok {fi : M (List D)} {k : Vl → M Unit} {t : M Bool} {e : M Vl} {vs : List Nat} {s s1 s2 : S} {xs ys : List D} (h1 : fi s = .ok xs s1) (hl : xs.length ≤ 1000000) (h2 : lcL k t e xs ⟨wipeD s1.sl vs, s1.ce⟩ = .ok ys s2) : fLc fi k t e vs s = .ok ys ⟨s1.sl, s2.ce⟩ := by
  simp only [fLc, bnd, h1, if_pos hl, h2]
theorem ints_of {Q : Int → Prop} : ∀ {ys : List D}, (∀ y ∈ ys, ∃ i : Int, y = .int i ∧ Q i) → ∃ ns : List Int, ys = ns.map .int ∧ ns.length = ys.length ∧ ∀ i ∈ ns, Q i
  | [], _ => ⟨[], rfl, rfl, by simp⟩
  | y :: ys, h => by
    obtain ⟨i, rfl, hi⟩ := h y List.mem_cons_self
    obtain ⟨ns, e1, e2, e3⟩ := ints_of (ys := ys) fun z hz => h z (List.mem_cons_of_mem _ hz)
    refine ⟨i :: ns, by simp [e1], by simp [e2], fun j hj => ?_⟩
    rcases List.mem_cons.mp hj with rfl | hj
    · exact hi
    · exact e3 j hj
/-- [f(x) for x in ints] -/
theorem lc_ints {k : Vl → M Unit} {e : M Vl} {sl : List (Option Vl)} {ce : List Ce} {f : Int → Int} {ns : List Int} (h : ∀ x ∈ ns, ∃ s', lcT k fYes e (.int x) ⟨sl, ce⟩ = .ok (some (.int (f x))) s' ∧ cutC ce.length s'.ce = ce) :
    lcL k fYes e (ns.map .int) ⟨sl, ce⟩ = .ok ((ns.map f).map .int) ⟨sl, ce⟩ := by
  have := lcL_fm (k := k) (t := fYes) (e := e) (sl := sl) (ce := ce) (f := fun d => match d with | .int x => some (.int (f x)) | _ => none) (xs := ns.map .int) (fun d hd => by
    obtain ⟨x, hx, rfl⟩ := List.mem_map.mp hd
    exact h x hx)
  rw [this]
  congr 1
  clear this h
  induction ns with
  | nil => rfl
  | cons x ns ih => simp [ih]
theorem rng_len (lo : Int) (n : Nat) : (rng lo n).length = n := by simp [rng]
theorem wipe1 (l : List (Option Vl)) (v : Nat) : wipeD l [v] = l.set v none := rfl
theorem kb_ll : kitB "list" "list" = some true := by decide +kernel
theorem kb_ii : kitB "int" "int" = some true := by decide +kernel
theorem kb_ib : kitB "int" "bool" = some false := by decide +kernel
/-- a run that returns v and leaves cells with P -/
def Rt (r : R Fl) (v : Vl) (P : List Ce → Prop) : Prop := match r with
  | .ok (.rt v') s => v' = v ∧ P s.ce
  | _ => False
theorem rt_seq {f g : M Fl} {s s' : S} {v : Vl} {P : List Ce → Prop} (h : f s = .ok .nx s') (k : Rt (g s') v P) : Rt (fSeq f g s) v P := by
  simp only [fSeq, h]
  exact k
theorem rt_body {ar n : Nat} {body : M Fl} {xs : List Vl} {cs : List Ce} {v : Vl} {r : FR} (hx : xs.length = ar) (h : Rt (body ⟨xs.map some ++ List.replicate (n - ar) none, cs⟩) v fun ce => endF cs.length v ce = r) : mkF ar n body xs cs = r := by
  unfold mkF
  rw [if_pos hx]
  unfold Rt at h
  cases e : body ⟨xs.map some ++ List.replicate (n - ar) none, cs⟩ with
  | ok fl s =>
    rw [e] at h
    cases fl with
    | rt v' => exact h.1 ▸ h.2
    | _ => exact h.elim
  | ex _ _ => rw [e] at h; exact h.elim
  | no => rw [e] at h; exact h.elim
theorem lcL_en {α : Type} {k : Vl → M Unit} {t : M Bool} {e : M Vl} {sl : List (Option Vl)} {ce : List Ce} (enc : α → D) (f : α → Option D) : ∀ {as : List α}, (∀ a ∈ as, ∃ s', lcT k t e (enc a) ⟨sl, ce⟩ = .ok (f a) s' ∧ cutC ce.length s'.ce = ce) → lcL k t e (as.map enc) ⟨sl, ce⟩ = .ok (as.filterMap f) ⟨sl, ce⟩
  | [], _ => rfl
  | a :: as, h => by
    obtain ⟨s', e1, e2⟩ := h a List.mem_cons_self
    have ih := lcL_en enc f (as := as) fun b hb => h b (List.mem_cons_of_mem _ hb)
    simp only [List.map_cons, lcL, e1, e2, ih, List.filterMap_cons]
    cases f a <;> simp
theorem lcL_fl {α : Type} {k : Vl → M Unit} {t : M Bool} {e : M Vl} {sl : List (Option Vl)} {ce : List Ce} (enc : α → D) (q : α → Bool) (f : α → D) {as : List α} (h : ∀ a ∈ as, ∃ s', lcT k t e (enc a) ⟨sl, ce⟩ = .ok (if q a = true then some (f a) else none) s' ∧ cutC ce.length s'.ce = ce) : lcL k t e (as.map enc) ⟨sl, ce⟩ = .ok ((as.filter q).map f) ⟨sl, ce⟩ := by
  rw [lcL_en enc (fun a => if q a = true then some (f a) else none) h]
  congr 1
  clear h
  induction as with
  | nil => rfl
  | cons a as ih => cases hq : q a <;> simp [hq, ih]
theorem eqv_ii (x y : Int) : PyData.eqv (.int x) (.int y) = decide (x = y) := by
  simp only [PyData.eqv]
  by_cases h : x = y <;> simp [h]
theorem cutI (xs : List D) (i : Nat) : DL.cutD xs (some (i : Int)) none = xs.drop i := by
  unfold DL.cutD
  rw [HT.sIx_none, HT.sIx_nat]
  rcases Nat.le_total i xs.length with h | h
  · rw [Nat.min_eq_left h, List.take_of_length_le (by simp)]
  · rw [Nat.min_eq_right h, List.drop_length, List.drop_eq_nil_of_le h, List.take_nil]
theorem cutJ (xs : List D) (i : Nat) : DL.cutD xs none (some (i : Int)) = xs.take i := by
  unfold DL.cutD
  rw [HT.sIx_none, HT.sIx_nat, List.drop_zero, Nat.sub_zero]
  rcases Nat.le_total i xs.length with h | h
  · rw [Nat.min_eq_left h]
  · rw [Nat.min_eq_right h, List.take_length, List.take_of_length_le h]
theorem whole_ok (v : Int) : g_is_whole [.d (.int v)] [] = .ok (.d (.bool true)) [] := by
  simp [g_is_whole, mkF, body_is_whole, x_bnd, x_ret, x_stuck, x_gets, x_fVar, x_fC, x_fOp, x_fNil, x_fCons, x_fCall, x_fDat, x_fCell, x_fLst, x_fTup, x_fTest, x_fTru, x_fAnd, x_fOr, x_fNot, x_fIf, x_asB, x_fAndV, x_fOrV, x_fNotV, x_fIsN, x_fNotN, x_frz, x_frzs0, x_frzs1, x_fFrz, x_fSeq, x_fNext, x_fExpr, x_fRet, x_fRetN, x_fAsg, x_kName, x_fPar, x_kNil, x_kCons, x_kTup, x_kSub, x_setIt, x_needL, x_upC, x_fApp, x_fPopAt, x_fPop, x_fSl, x_fNoP, x_fP, x_fDef, x_callD, x_fPerm, x_fIsi, x_fNeg, x_asL, x_asLt, x_asT, x_fItL, x_fItT, x_orI, x_fRng1, x_fRng2, x_fEnum, x_fZip, x_fFor, x_forL0, x_fAug, x_fYes, x_lcT, x_fRstT, x_fRstV, x_ite, oIx, cutC, kl, Ce.lone, x_fCellV, x_fAppV, x_needV, x_upV, oIxV, x_fDNew, x_fSetdL, x_needW, x_setdL, x_fSrtS, x_fToM, x_fItems, x_fGet2, x_fDSub, x_needD, oGet2, oDSub, dictOf, keyD, oSortG, oSortP, orF, oCatT, oStr, x_fCount, x_fIndex, x_fRev, x_fPar3, datL, dat, atI, ixN, oAdd, orO, oI, oInt, oPowW, oIC, oMod, cPos, oDiv, cDiv, endF, oAddI, oSub, oLt, oLe, oGt, oGe, oMul, oMulG, oRepD, oRep, oI2, oMin2, oMax2, oMinL, oMaxL, oAll, oAny, oBools, oIn, oNotIn, oInD, oInSg, x_fChain, intsA, cellsOf, picks, renum, putB, Ce.alive, oSl, slOr, oSlD, oSlL, oLenG, orA, oLen, tru, permL, oSumL, oCatD, datO, oCat, oList, oRepr, oTuple, DL.isNon, oSlT, oSlS, oAddS, oEqG, oNeG, oEqS, oNeS, oEq, oNe, x_fRaise, x_fFrzL, x_frzL, x_fItemsI, x_fValsI, x_fKeysI, x_fDNewM, x_fDPut, x_putC, x_fL6, dsOf, oSortK, intKeys, x_fDSub, x_fTupC, x_fFrzV, x_fSrtU, x_fRng3, x_fFrzN, oIxT, callT, endT, tyVl, tyN, kb_ii, kb_ib]
theorem kb_ni : kitB "NoneType" "int" = some false := by decide +kernel
theorem kb_bi : kitB "bool" "int" = some true := by decide +kernel
theorem kb_bb : kitB "bool" "bool" = some true := by decide +kernel
theorem kb_si : kitB "str" "int" = some false := by decide +kernel
theorem kb_li : kitB "list" "int" = some false := by decide +kernel
theorem kb_ti : kitB "tuple" "int" = some false := by decide +kernel
theorem kb_nl : kitB "NoneType" "list" = some false := by decide +kernel
theorem kb_bl : kitB "bool" "list" = some false := by decide +kernel
theorem kb_il : kitB "int" "list" = some false := by decide +kernel
theorem kb_sl : kitB "str" "list" = some false := by decide +kernel
theorem kb_tl : kitB "tuple" "list" = some false := by decide +kernel
/-- what is no whole number -/
def odd : D → Bool
  | .int _ => false
  | .dict _ => false
  | _ => true
theorem odd_ok {x : D} (h : odd x = true) : g_is_whole [.d x] [] = .ok (.d (.bool false)) [] := by
  cases x <;> first | exact Bool.noConfusion h | simp [g_is_whole, mkF, body_is_whole, x_bnd, x_ret, x_stuck, x_gets, x_fVar, x_fC, x_fOp, x_fNil, x_fCons, x_fCall, x_fDat, x_fCell, x_fLst, x_fTup, x_fTest, x_fTru, x_fAnd, x_fOr, x_fNot, x_fIf, x_asB, x_fAndV, x_fOrV, x_fNotV, x_fIsN, x_fNotN, x_frz, x_frzs0, x_frzs1, x_fFrz, x_fSeq, x_fNext, x_fExpr, x_fRet, x_fRetN, x_fAsg, x_kName, x_fPar, x_kNil, x_kCons, x_kTup, x_kSub, x_setIt, x_needL, x_upC, x_fApp, x_fPopAt, x_fPop, x_fSl, x_fNoP, x_fP, x_fDef, x_callD, x_fPerm, x_fIsi, x_fNeg, x_asL, x_asLt, x_asT, x_fItL, x_fItT, x_orI, x_fRng1, x_fRng2, x_fEnum, x_fZip, x_fFor, x_forL0, x_fAug, x_fYes, x_lcT, x_fRstT, x_fRstV, x_ite, oIx, cutC, kl, Ce.lone, x_fCellV, x_fAppV, x_needV, x_upV, oIxV, x_fDNew, x_fSetdL, x_needW, x_setdL, x_fSrtS, x_fToM, x_fItems, x_fGet2, x_fDSub, x_needD, oGet2, oDSub, dictOf, keyD, oSortG, oSortP, orF, oCatT, oStr, x_fCount, x_fIndex, x_fRev, x_fPar3, datL, dat, atI, ixN, oAdd, orO, oI, oInt, oPowW, oIC, oMod, cPos, oDiv, cDiv, endF, oAddI, oSub, oLt, oLe, oGt, oGe, oMul, oMulG, oRepD, oRep, oI2, oMin2, oMax2, oMinL, oMaxL, oAll, oAny, oBools, oIn, oNotIn, oInD, oInSg, x_fChain, intsA, cellsOf, picks, renum, putB, Ce.alive, oSl, slOr, oSlD, oSlL, oLenG, orA, oLen, tru, permL, oSumL, oCatD, datO, oCat, oList, oRepr, oTuple, DL.isNon, oSlT, oSlS, oAddS, oEqG, oNeG, oEqS, oNeS, oEq, oNe, x_fRaise, x_fFrzL, x_frzL, x_fItemsI, x_fValsI, x_fKeysI, x_fDNewM, x_fDPut, x_putC, x_fL6, dsOf, oSortK, intKeys, x_fDSub, x_fTupC, x_fFrzV, x_fSrtU, x_fRng3, x_fFrzN, oIxT, callT, endT, tyVl, tyN, kb_ni, kb_bi, kb_bb, kb_si, kb_li, kb_ti]
noncomputable abbrev ckBody : M Fl := fIf (fNot (fTru (fDef g_is_whole (fCons (fVar 2) fNil)))) (fRaise "InvalidList" "place" (fVar 1)) fNext
theorem check_pre (ns : List Int) (v : D) (rest : List D) : ∃ a b, forL (kTup 2 (kCons (kName 1) (kCons (kName 2) kNil))) ckBody (enumD 0 (ns.map PyData.int ++ rest)) ⟨[some (.d v), none, none], []⟩ = forL (kTup 2 (kCons (kName 1) (kCons (kName 2) kNil))) ckBody (enumD ns.length rest) ⟨[some (.d v), a, b], []⟩ := by
  have he : ∀ (n : Nat) (xs ys : List D), enumD n (xs ++ ys) = enumD n xs ++ enumD (n + xs.length) ys := fun n xs ys => by
    induction xs generalizing n with
    | nil => rfl
    | cons x xs ih => simp only [List.cons_append, enumD, ih, List.length_cons]; congr 2; congr 1; omega
  obtain ⟨s', e1, a, b, rfl⟩ := forL_pre (k := kTup 2 (kCons (kName 1) (kCons (kName 2) kNil))) (b := ckBody) (xs := enumD 0 (ns.map PyData.int)) (I := fun _ s => ∃ a b, s = ⟨[some (.d v), a, b], []⟩) (fun i x s hx ⟨a, b, e⟩ => by
      subst e
      rw [enumD_get, List.getElem?_map] at hx
      cases hn : ns[i]? with
      | none => rw [hn] at hx; cases hx
      | some u =>
        rw [hn] at hx
        cases hx
        exact ⟨⟨[some (.d v), some (.d (.int ((0 + i : Nat) : Int))), some (.d (.int u))], []⟩, by simp [ckBody, x_bnd, x_ret, x_stuck, x_gets, x_fVar, x_fC, x_fOp, x_fNil, x_fCons, x_fCall, x_fDat, x_fCell, x_fLst, x_fTup, x_fTest, x_fTru, x_fAnd, x_fOr, x_fNot, x_fIf, x_asB, x_fAndV, x_fOrV, x_fNotV, x_fIsN, x_fNotN, x_frz, x_frzs0, x_frzs1, x_fFrz, x_fSeq, x_fNext, x_fExpr, x_fRet, x_fRetN, x_fAsg, x_kName, x_fPar, x_kNil, x_kCons, x_kTup, x_kSub, x_setIt, x_needL, x_upC, x_fApp, x_fPopAt, x_fPop, x_fSl, x_fNoP, x_fP, x_fDef, x_callD, x_fPerm, x_fIsi, x_fNeg, x_asL, x_asLt, x_asT, x_fItL, x_fItT, x_orI, x_fRng1, x_fRng2, x_fEnum, x_fZip, x_fFor, x_forL0, x_fAug, x_fYes, x_lcT, x_fRstT, x_fRstV, x_ite, oIx, cutC, kl, Ce.lone, x_fCellV, x_fAppV, x_needV, x_upV, oIxV, x_fDNew, x_fSetdL, x_needW, x_setdL, x_fSrtS, x_fToM, x_fItems, x_fGet2, x_fDSub, x_needD, oGet2, oDSub, dictOf, keyD, oSortG, oSortP, orF, oCatT, oStr, x_fCount, x_fIndex, x_fRev, x_fPar3, datL, dat, atI, ixN, oAdd, orO, oI, oInt, oPowW, oIC, oMod, cPos, oDiv, cDiv, endF, oAddI, oSub, oLt, oLe, oGt, oGe, oMul, oMulG, oRepD, oRep, oI2, oMin2, oMax2, oMinL, oMaxL, oAll, oAny, oBools, oIn, oNotIn, oInD, oInSg, x_fChain, intsA, cellsOf, picks, renum, putB, Ce.alive, oSl, slOr, oSlD, oSlL, oLenG, orA, oLen, tru, permL, oSumL, oCatD, datO, oCat, oList, oRepr, oTuple, DL.isNon, oSlT, oSlS, oAddS, oEqG, oNeG, oEqS, oNeS, oEq, oNe, x_fRaise, x_fFrzL, x_frzL, x_fItemsI, x_fValsI, x_fKeysI, x_fDNewM, x_fDPut, x_putC, x_fL6, dsOf, oSortK, intKeys, x_fDSub, x_fTupC, x_fFrzV, x_fSrtU, x_fRng3, x_fFrzN, oIxT, callT, endT, whole_ok u], _, _, rfl⟩) (enumD ns.length rest)
    ⟨[some (.d v), none, none], []⟩ ⟨_, _, rfl⟩
  exact ⟨a, b, by rw [he, List.length_map, Nat.zero_add, e1]⟩
theorem check_ok (ns : List Int) : g_check_list [.d (il ns)] [] = .ok (.d .none) [] := by
  obtain ⟨a, b, h⟩ := check_pre ns (il ns) []
  rw [List.append_nil] at h
  simp [g_check_list, mkF, body_check_list, x_bnd, x_ret, x_stuck, x_gets, x_fVar, x_fC, x_fOp, x_fNil, x_fCons, x_fCall, x_fDat, x_fCell, x_fLst, x_fTup, x_fTest, x_fTru, x_fAnd, x_fOr, x_fNot, x_fIf, x_asB, x_fAndV, x_fOrV, x_fNotV, x_fIsN, x_fNotN, x_frz, x_frzs0, x_frzs1, x_fFrz, x_fSeq, x_fNext, x_fExpr, x_fRet, x_fRetN, x_fAsg, x_kName, x_fPar, x_kNil, x_kCons, x_kTup, x_kSub, x_setIt, x_needL, x_upC, x_fApp, x_fPopAt, x_fPop, x_fSl, x_fNoP, x_fP, x_fDef, x_callD, x_fPerm, x_fIsi, x_fNeg, x_asL, x_asLt, x_asT, x_fItL, x_fItT, x_orI, x_fRng1, x_fRng2, x_fEnum, x_fZip, x_fFor, x_forL0, x_fAug, x_fYes, x_lcT, x_fRstT, x_fRstV, x_ite, oIx, cutC, kl, Ce.lone, x_fCellV, x_fAppV, x_needV, x_upV, oIxV, x_fDNew, x_fSetdL, x_needW, x_setdL, x_fSrtS, x_fToM, x_fItems, x_fGet2, x_fDSub, x_needD, oGet2, oDSub, dictOf, keyD, oSortG, oSortP, orF, oCatT, oStr, x_fCount, x_fIndex, x_fRev, x_fPar3, datL, dat, atI, ixN, oAdd, orO, oI, oInt, oPowW, oIC, oMod, cPos, oDiv, cDiv, endF, oAddI, oSub, oLt, oLe, oGt, oGe, oMul, oMulG, oRepD, oRep, oI2, oMin2, oMax2, oMinL, oMaxL, oAll, oAny, oBools, oIn, oNotIn, oInD, oInSg, x_fChain, intsA, cellsOf, picks, renum, putB, Ce.alive, oSl, slOr, oSlD, oSlL, oLenG, orA, oLen, tru, permL, oSumL, oCatD, datO, oCat, oList, oRepr, oTuple, DL.isNon, oSlT, oSlS, oAddS, oEqG, oNeG, oEqS, oNeS, oEq, oNe, x_fRaise, x_fFrzL, x_frzL, x_fItemsI, x_fValsI, x_fKeysI, x_fDNewM, x_fDPut, x_putC, x_fL6, dsOf, oSortK, intKeys, x_fDSub, x_fTupC, x_fFrzV, x_fSrtU, x_fRng3, x_fFrzN, oIxT, callT, endT, tyVl, tyN, kb_ll, h, enumD]
theorem check_bad (ns : List Int) {x : D} (rest : List D) (hx : odd x = true) : g_check_list [.d (.list (ns.map .int ++ x :: rest))] [] = .ex ⟨"InvalidList", some ("place", .int ns.length)⟩ [] := by
  obtain ⟨a, b, h⟩ := check_pre ns (.list (ns.map .int ++ x :: rest)) (x :: rest)
  have h2 : forL (kTup 2 (kCons (kName 1) (kCons (kName 2) kNil))) ckBody (enumD ns.length (x :: rest)) ⟨[some (.d (.list (ns.map .int ++ x :: rest))), a, b], []⟩ = .ex ⟨"InvalidList", some ("place", .int ns.length)⟩ ⟨[some (.d (.list (ns.map .int ++ x :: rest))), some (.d (.int ns.length)), some (.d x)], []⟩ := by
    rw [enumD]
    exact forL_ex (by simp [ckBody, x_bnd, x_ret, x_stuck, x_gets, x_fVar, x_fC, x_fOp, x_fNil, x_fCons, x_fCall, x_fDat, x_fCell, x_fLst, x_fTup, x_fTest, x_fTru, x_fAnd, x_fOr, x_fNot, x_fIf, x_asB, x_fAndV, x_fOrV, x_fNotV, x_fIsN, x_fNotN, x_frz, x_frzs0, x_frzs1, x_fFrz, x_fSeq, x_fNext, x_fExpr, x_fRet, x_fRetN, x_fAsg, x_kName, x_fPar, x_kNil, x_kCons, x_kTup, x_kSub, x_setIt, x_needL, x_upC, x_fApp, x_fPopAt, x_fPop, x_fSl, x_fNoP, x_fP, x_fDef, x_callD, x_fPerm, x_fIsi, x_fNeg, x_asL, x_asLt, x_asT, x_fItL, x_fItT, x_orI, x_fRng1, x_fRng2, x_fEnum, x_fZip, x_fFor, x_forL0, x_fAug, x_fYes, x_lcT, x_fRstT, x_fRstV, x_ite, oIx, cutC, kl, Ce.lone, x_fCellV, x_fAppV, x_needV, x_upV, oIxV, x_fDNew, x_fSetdL, x_needW, x_setdL, x_fSrtS, x_fToM, x_fItems, x_fGet2, x_fDSub, x_needD, oGet2, oDSub, dictOf, keyD, oSortG, oSortP, orF, oCatT, oStr, x_fCount, x_fIndex, x_fRev, x_fPar3, datL, dat, atI, ixN, oAdd, orO, oI, oInt, oPowW, oIC, oMod, cPos, oDiv, cDiv, endF, oAddI, oSub, oLt, oLe, oGt, oGe, oMul, oMulG, oRepD, oRep, oI2, oMin2, oMax2, oMinL, oMaxL, oAll, oAny, oBools, oIn, oNotIn, oInD, oInSg, x_fChain, intsA, cellsOf, picks, renum, putB, Ce.alive, oSl, slOr, oSlD, oSlL, oLenG, orA, oLen, tru, permL, oSumL, oCatD, datO, oCat, oList, oRepr, oTuple, DL.isNon, oSlT, oSlS, oAddS, oEqG, oNeG, oEqS, oNeS, oEq, oNe, x_fRaise, x_fFrzL, x_frzL, x_fItemsI, x_fValsI, x_fKeysI, x_fDNewM, x_fDPut, x_putC, x_fL6, dsOf, oSortK, intKeys, x_fDSub, x_fTupC, x_fFrzV, x_fSrtU, x_fRng3, x_fFrzN, oIxT, callT, endT, odd_ok hx])
  rw [h2] at h
  simp [g_check_list, mkF, body_check_list, x_bnd, x_ret, x_stuck, x_gets, x_fVar, x_fC, x_fOp, x_fNil, x_fCons, x_fCall, x_fDat, x_fCell, x_fLst, x_fTup, x_fTest, x_fTru, x_fAnd, x_fOr, x_fNot, x_fIf, x_asB, x_fAndV, x_fOrV, x_fNotV, x_fIsN, x_fNotN, x_frz, x_frzs0, x_frzs1, x_fFrz, x_fSeq, x_fNext, x_fExpr, x_fRet, x_fRetN, x_fAsg, x_kName, x_fPar, x_kNil, x_kCons, x_kTup, x_kSub, x_setIt, x_needL, x_upC, x_fApp, x_fPopAt, x_fPop, x_fSl, x_fNoP, x_fP, x_fDef, x_callD, x_fPerm, x_fIsi, x_fNeg, x_asL, x_asLt, x_asT, x_fItL, x_fItT, x_orI, x_fRng1, x_fRng2, x_fEnum, x_fZip, x_fFor, x_forL0, x_fAug, x_fYes, x_lcT, x_fRstT, x_fRstV, x_ite, oIx, cutC, kl, Ce.lone, x_fCellV, x_fAppV, x_needV, x_upV, oIxV, x_fDNew, x_fSetdL, x_needW, x_setdL, x_fSrtS, x_fToM, x_fItems, x_fGet2, x_fDSub, x_needD, oGet2, oDSub, dictOf, keyD, oSortG, oSortP, orF, oCatT, oStr, x_fCount, x_fIndex, x_fRev, x_fPar3, datL, dat, atI, ixN, oAdd, orO, oI, oInt, oPowW, oIC, oMod, cPos, oDiv, cDiv, endF, oAddI, oSub, oLt, oLe, oGt, oGe, oMul, oMulG, oRepD, oRep, oI2, oMin2, oMax2, oMinL, oMaxL, oAll, oAny, oBools, oIn, oNotIn, oInD, oInSg, x_fChain, intsA, cellsOf, picks, renum, putB, Ce.alive, oSl, slOr, oSlD, oSlL, oLenG, orA, oLen, tru, permL, oSumL, oCatD, datO, oCat, oList, oRepr, oTuple, DL.isNon, oSlT, oSlS, oAddS, oEqG, oNeG, oEqS, oNeS, oEq, oNe, x_fRaise, x_fFrzL, x_frzL, x_fItemsI, x_fValsI, x_fKeysI, x_fDNewM, x_fDPut, x_putC, x_fL6, dsOf, oSortK, intKeys, x_fDSub, x_fTupC, x_fFrzV, x_fSrtU, x_fRng3, x_fFrzN, oIxT, callT, endT, tyVl, tyN, kb_ll, h]
/-- what is no list -/
def nolist : D → Bool
  | .list _ => false
  | .dict _ => false
  | _ => true
theorem check_no {x : D} (hx : nolist x = true) : g_check_list [.d x] [] = .ex ⟨"InvalidList", some ("place", .none)⟩ [] := by
  cases x <;> first | exact Bool.noConfusion hx | simp [g_check_list, mkF, body_check_list, x_bnd, x_ret, x_stuck, x_gets, x_fVar, x_fC, x_fOp, x_fNil, x_fCons, x_fCall, x_fDat, x_fCell, x_fLst, x_fTup, x_fTest, x_fTru, x_fAnd, x_fOr, x_fNot, x_fIf, x_asB, x_fAndV, x_fOrV, x_fNotV, x_fIsN, x_fNotN, x_frz, x_frzs0, x_frzs1, x_fFrz, x_fSeq, x_fNext, x_fExpr, x_fRet, x_fRetN, x_fAsg, x_kName, x_fPar, x_kNil, x_kCons, x_kTup, x_kSub, x_setIt, x_needL, x_upC, x_fApp, x_fPopAt, x_fPop, x_fSl, x_fNoP, x_fP, x_fDef, x_callD, x_fPerm, x_fIsi, x_fNeg, x_asL, x_asLt, x_asT, x_fItL, x_fItT, x_orI, x_fRng1, x_fRng2, x_fEnum, x_fZip, x_fFor, x_forL0, x_fAug, x_fYes, x_lcT, x_fRstT, x_fRstV, x_ite, oIx, cutC, kl, Ce.lone, x_fCellV, x_fAppV, x_needV, x_upV, oIxV, x_fDNew, x_fSetdL, x_needW, x_setdL, x_fSrtS, x_fToM, x_fItems, x_fGet2, x_fDSub, x_needD, oGet2, oDSub, dictOf, keyD, oSortG, oSortP, orF, oCatT, oStr, x_fCount, x_fIndex, x_fRev, x_fPar3, datL, dat, atI, ixN, oAdd, orO, oI, oInt, oPowW, oIC, oMod, cPos, oDiv, cDiv, endF, oAddI, oSub, oLt, oLe, oGt, oGe, oMul, oMulG, oRepD, oRep, oI2, oMin2, oMax2, oMinL, oMaxL, oAll, oAny, oBools, oIn, oNotIn, oInD, oInSg, x_fChain, intsA, cellsOf, picks, renum, putB, Ce.alive, oSl, slOr, oSlD, oSlL, oLenG, orA, oLen, tru, permL, oSumL, oCatD, datO, oCat, oList, oRepr, oTuple, DL.isNon, oSlT, oSlS, oAddS, oEqG, oNeG, oEqS, oNeS, oEq, oNe, x_fRaise, x_fFrzL, x_frzL, x_fItemsI, x_fValsI, x_fKeysI, x_fDNewM, x_fDPut, x_putC, x_fL6, dsOf, oSortK, intKeys, x_fDSub, x_fTupC, x_fFrzV, x_fSrtU, x_fRng3, x_fFrzN, oIxT, callT, endT, tyVl, tyN, kb_nl, kb_bl, kb_il, kb_sl, kb_tl]
theorem pw20 : cPowW 10 20 = true := by decide +kernel
theorem list_ok {n : Nat} {m : Int} {st : List D} (m0 : 0 ≤ m) (m1 : m ≤ 100) (h : Dr (n + 103) st) : ∃ ns st', g__law_list [.c 0, .d (.int m)] [.l st] = .ok (.d (il ns)) [.l st'] ∧ (ns.length : Int) ≤ m ∧ Bdd (10 ^ 24) ns ∧ Dr n st' := by
  obtain ⟨v, st1, e1, v0, v1, d1⟩ := next_ok (n := n + 102) h
  obtain ⟨p, st2, e2, p0, p1, d2⟩ := next_ok (n := n + 101) d1
  have k0 : 0 ≤ v % (m + 1) := Int.emod_nonneg _ (by omega)
  have k1 : v % (m + 1) < m + 1 := Int.emod_lt_of_pos _ (by omega)
  have hm : (0 : Int) < m + 1 := by omega
  unfold g__law_list mkF
  simp only [List.length_cons, List.length_nil, if_true, body__law_list, List.map_cons, List.map_nil, List.cons_append, List.nil_append]
  generalize hq : v % (m + 1) = q at k0 k1
  rw [fSeq_ok (s' := ⟨[some (.c 0), some (.d (.int m)), some (.d (.int q)), none, none, none, none], [.l st1]⟩) (by simp [x_bnd, x_ret, x_stuck, x_gets, x_fVar, x_fC, x_fOp, x_fNil, x_fCons, x_fCall, x_fDat, x_fCell, x_fLst, x_fTup, x_fTest, x_fTru, x_fAnd, x_fOr, x_fNot, x_fIf, x_asB, x_fAndV, x_fOrV, x_fNotV, x_fIsN, x_fNotN, x_frz, x_frzs0, x_frzs1, x_fFrz, x_fSeq, x_fNext, x_fExpr, x_fRet, x_fRetN, x_fAsg, x_kName, x_fPar, x_kNil, x_kCons, x_kTup, x_kSub, x_setIt, x_needL, x_upC, x_fApp, x_fPopAt, x_fPop, x_fSl, x_fNoP, x_fP, x_fDef, x_callD, x_fPerm, x_fIsi, x_fNeg, x_asL, x_asLt, x_asT, x_fItL, x_fItT, x_orI, x_fRng1, x_fRng2, x_fEnum, x_fZip, x_fFor, x_forL0, x_fAug, x_fYes, x_lcT, x_fRstT, x_fRstV, x_ite, oIx, cutC, kl, Ce.lone, x_fCellV, x_fAppV, x_needV, x_upV, oIxV, x_fDNew, x_fSetdL, x_needW, x_setdL, x_fSrtS, x_fToM, x_fItems, x_fGet2, x_fDSub, x_needD, oGet2, oDSub, dictOf, keyD, oSortG, oSortP, orF, oCatT, oStr, x_fCount, x_fIndex, x_fRev, x_fPar3, datL, dat, atI, ixN, oAdd, orO, oI, oInt, oPowW, oIC, oMod, cPos, oDiv, cDiv, endF, oAddI, oSub, oLt, oLe, oGt, oGe, oMul, oMulG, oRepD, oRep, oI2, oMin2, oMax2, oMinL, oMaxL, oAll, oAny, oBools, oIn, oNotIn, oInD, oInSg, x_fChain, intsA, cellsOf, picks, renum, putB, Ce.alive, oSl, slOr, oSlD, oSlL, oLenG, orA, oLen, tru, permL, oSumL, oCatD, datO, oCat, oList, oRepr, oTuple, DL.isNon, oSlT, oSlS, oAddS, oEqG, oNeG, oEqS, oNeS, oEq, oNe, x_fRaise, x_fFrzL, x_frzL, x_fItemsI, x_fValsI, x_fKeysI, x_fDNewM, x_fDPut, x_putC, x_fL6, dsOf, oSortK, intKeys, x_fDSub, x_fTupC, x_fFrzV, x_fSrtU, x_fRng3, x_fFrzN, oIxT, callT, endT, e1, hm, hq])]
  have c4 : cMul 4 q = true := by simp only [cMul, decide_eq_true_eq]; omega
  obtain ⟨w, w0, w1, hw⟩ : ∃ w : Int, 1 ≤ w ∧ w ≤ 1000 ∧ (fAsg (fOp oIx (fDat (fLst (fCons (fC (.int 2)) (fCons (fC (.int 3)) (fCons (fOp oAdd (fVar 2) (fC (.int 1))) (fCons (fOp oAdd (fOp oMulG (fC (.int 4)) (fVar 2)) (fC (.int 1))) fNil)))))) (fOp oMod (fCall oInt (fCons (fDef g__law_next (fCons (fVar 0) fNil)) fNil)) (fC (.int 4)))) (kName 3)) ⟨[some (.c 0), some (.d (.int m)), some (.d (.int q)), none, none, none, none], [.l st1]⟩ = .ok .nx ⟨[some (.c 0), some (.d (.int m)), some (.d (.int q)), some (.d (.int w)), none, none, none], [.l st2]⟩ := by
    have h4 : p % 4 = 0 ∨ p % 4 = 1 ∨ p % 4 = 2 ∨ p % 4 = 3 := by omega
    rcases h4 with h4 | h4 | h4 | h4
    · exact ⟨2, by decide, by decide, by simp [x_bnd, x_ret, x_stuck, x_gets, x_fVar, x_fC, x_fOp, x_fNil, x_fCons, x_fCall, x_fDat, x_fCell, x_fLst, x_fTup, x_fTest, x_fTru, x_fAnd, x_fOr, x_fNot, x_fIf, x_asB, x_fAndV, x_fOrV, x_fNotV, x_fIsN, x_fNotN, x_frz, x_frzs0, x_frzs1, x_fFrz, x_fSeq, x_fNext, x_fExpr, x_fRet, x_fRetN, x_fAsg, x_kName, x_fPar, x_kNil, x_kCons, x_kTup, x_kSub, x_setIt, x_needL, x_upC, x_fApp, x_fPopAt, x_fPop, x_fSl, x_fNoP, x_fP, x_fDef, x_callD, x_fPerm, x_fIsi, x_fNeg, x_asL, x_asLt, x_asT, x_fItL, x_fItT, x_orI, x_fRng1, x_fRng2, x_fEnum, x_fZip, x_fFor, x_forL0, x_fAug, x_fYes, x_lcT, x_fRstT, x_fRstV, x_ite, oIx, cutC, kl, Ce.lone, x_fCellV, x_fAppV, x_needV, x_upV, oIxV, x_fDNew, x_fSetdL, x_needW, x_setdL, x_fSrtS, x_fToM, x_fItems, x_fGet2, x_fDSub, x_needD, oGet2, oDSub, dictOf, keyD, oSortG, oSortP, orF, oCatT, oStr, x_fCount, x_fIndex, x_fRev, x_fPar3, datL, dat, atI, ixN, oAdd, orO, oI, oInt, oPowW, oIC, oMod, cPos, oDiv, cDiv, endF, oAddI, oSub, oLt, oLe, oGt, oGe, oMul, oMulG, oRepD, oRep, oI2, oMin2, oMax2, oMinL, oMaxL, oAll, oAny, oBools, oIn, oNotIn, oInD, oInSg, x_fChain, intsA, cellsOf, picks, renum, putB, Ce.alive, oSl, slOr, oSlD, oSlL, oLenG, orA, oLen, tru, permL, oSumL, oCatD, datO, oCat, oList, oRepr, oTuple, DL.isNon, oSlT, oSlS, oAddS, oEqG, oNeG, oEqS, oNeS, oEq, oNe, x_fRaise, x_fFrzL, x_frzL, x_fItemsI, x_fValsI, x_fKeysI, x_fDNewM, x_fDPut, x_putC, x_fL6, dsOf, oSortK, intKeys, x_fDSub, x_fTupC, x_fFrzV, x_fSrtU, x_fRng3, x_fFrzN, oIxT, callT, endT, e2, h4, c4]⟩
    · exact ⟨3, by decide, by decide, by simp [x_bnd, x_ret, x_stuck, x_gets, x_fVar, x_fC, x_fOp, x_fNil, x_fCons, x_fCall, x_fDat, x_fCell, x_fLst, x_fTup, x_fTest, x_fTru, x_fAnd, x_fOr, x_fNot, x_fIf, x_asB, x_fAndV, x_fOrV, x_fNotV, x_fIsN, x_fNotN, x_frz, x_frzs0, x_frzs1, x_fFrz, x_fSeq, x_fNext, x_fExpr, x_fRet, x_fRetN, x_fAsg, x_kName, x_fPar, x_kNil, x_kCons, x_kTup, x_kSub, x_setIt, x_needL, x_upC, x_fApp, x_fPopAt, x_fPop, x_fSl, x_fNoP, x_fP, x_fDef, x_callD, x_fPerm, x_fIsi, x_fNeg, x_asL, x_asLt, x_asT, x_fItL, x_fItT, x_orI, x_fRng1, x_fRng2, x_fEnum, x_fZip, x_fFor, x_forL0, x_fAug, x_fYes, x_lcT, x_fRstT, x_fRstV, x_ite, oIx, cutC, kl, Ce.lone, x_fCellV, x_fAppV, x_needV, x_upV, oIxV, x_fDNew, x_fSetdL, x_needW, x_setdL, x_fSrtS, x_fToM, x_fItems, x_fGet2, x_fDSub, x_needD, oGet2, oDSub, dictOf, keyD, oSortG, oSortP, orF, oCatT, oStr, x_fCount, x_fIndex, x_fRev, x_fPar3, datL, dat, atI, ixN, oAdd, orO, oI, oInt, oPowW, oIC, oMod, cPos, oDiv, cDiv, endF, oAddI, oSub, oLt, oLe, oGt, oGe, oMul, oMulG, oRepD, oRep, oI2, oMin2, oMax2, oMinL, oMaxL, oAll, oAny, oBools, oIn, oNotIn, oInD, oInSg, x_fChain, intsA, cellsOf, picks, renum, putB, Ce.alive, oSl, slOr, oSlD, oSlL, oLenG, orA, oLen, tru, permL, oSumL, oCatD, datO, oCat, oList, oRepr, oTuple, DL.isNon, oSlT, oSlS, oAddS, oEqG, oNeG, oEqS, oNeS, oEq, oNe, x_fRaise, x_fFrzL, x_frzL, x_fItemsI, x_fValsI, x_fKeysI, x_fDNewM, x_fDPut, x_putC, x_fL6, dsOf, oSortK, intKeys, x_fDSub, x_fTupC, x_fFrzV, x_fSrtU, x_fRng3, x_fFrzN, oIxT, callT, endT, e2, h4, c4]⟩
    · exact ⟨q + 1, by omega, by omega, by simp [x_bnd, x_ret, x_stuck, x_gets, x_fVar, x_fC, x_fOp, x_fNil, x_fCons, x_fCall, x_fDat, x_fCell, x_fLst, x_fTup, x_fTest, x_fTru, x_fAnd, x_fOr, x_fNot, x_fIf, x_asB, x_fAndV, x_fOrV, x_fNotV, x_fIsN, x_fNotN, x_frz, x_frzs0, x_frzs1, x_fFrz, x_fSeq, x_fNext, x_fExpr, x_fRet, x_fRetN, x_fAsg, x_kName, x_fPar, x_kNil, x_kCons, x_kTup, x_kSub, x_setIt, x_needL, x_upC, x_fApp, x_fPopAt, x_fPop, x_fSl, x_fNoP, x_fP, x_fDef, x_callD, x_fPerm, x_fIsi, x_fNeg, x_asL, x_asLt, x_asT, x_fItL, x_fItT, x_orI, x_fRng1, x_fRng2, x_fEnum, x_fZip, x_fFor, x_forL0, x_fAug, x_fYes, x_lcT, x_fRstT, x_fRstV, x_ite, oIx, cutC, kl, Ce.lone, x_fCellV, x_fAppV, x_needV, x_upV, oIxV, x_fDNew, x_fSetdL, x_needW, x_setdL, x_fSrtS, x_fToM, x_fItems, x_fGet2, x_fDSub, x_needD, oGet2, oDSub, dictOf, keyD, oSortG, oSortP, orF, oCatT, oStr, x_fCount, x_fIndex, x_fRev, x_fPar3, datL, dat, atI, ixN, oAdd, orO, oI, oInt, oPowW, oIC, oMod, cPos, oDiv, cDiv, endF, oAddI, oSub, oLt, oLe, oGt, oGe, oMul, oMulG, oRepD, oRep, oI2, oMin2, oMax2, oMinL, oMaxL, oAll, oAny, oBools, oIn, oNotIn, oInD, oInSg, x_fChain, intsA, cellsOf, picks, renum, putB, Ce.alive, oSl, slOr, oSlD, oSlL, oLenG, orA, oLen, tru, permL, oSumL, oCatD, datO, oCat, oList, oRepr, oTuple, DL.isNon, oSlT, oSlS, oAddS, oEqG, oNeG, oEqS, oNeS, oEq, oNe, x_fRaise, x_fFrzL, x_frzL, x_fItemsI, x_fValsI, x_fKeysI, x_fDNewM, x_fDPut, x_putC, x_fL6, dsOf, oSortK, intKeys, x_fDSub, x_fTupC, x_fFrzV, x_fSrtU, x_fRng3, x_fFrzN, oIxT, callT, endT, e2, h4, c4]⟩
    · exact ⟨4 * q + 1, by omega, by omega, by simp [x_bnd, x_ret, x_stuck, x_gets, x_fVar, x_fC, x_fOp, x_fNil, x_fCons, x_fCall, x_fDat, x_fCell, x_fLst, x_fTup, x_fTest, x_fTru, x_fAnd, x_fOr, x_fNot, x_fIf, x_asB, x_fAndV, x_fOrV, x_fNotV, x_fIsN, x_fNotN, x_frz, x_frzs0, x_frzs1, x_fFrz, x_fSeq, x_fNext, x_fExpr, x_fRet, x_fRetN, x_fAsg, x_kName, x_fPar, x_kNil, x_kCons, x_kTup, x_kSub, x_setIt, x_needL, x_upC, x_fApp, x_fPopAt, x_fPop, x_fSl, x_fNoP, x_fP, x_fDef, x_callD, x_fPerm, x_fIsi, x_fNeg, x_asL, x_asLt, x_asT, x_fItL, x_fItT, x_orI, x_fRng1, x_fRng2, x_fEnum, x_fZip, x_fFor, x_forL0, x_fAug, x_fYes, x_lcT, x_fRstT, x_fRstV, x_ite, oIx, cutC, kl, Ce.lone, x_fCellV, x_fAppV, x_needV, x_upV, oIxV, x_fDNew, x_fSetdL, x_needW, x_setdL, x_fSrtS, x_fToM, x_fItems, x_fGet2, x_fDSub, x_needD, oGet2, oDSub, dictOf, keyD, oSortG, oSortP, orF, oCatT, oStr, x_fCount, x_fIndex, x_fRev, x_fPar3, datL, dat, atI, ixN, oAdd, orO, oI, oInt, oPowW, oIC, oMod, cPos, oDiv, cDiv, endF, oAddI, oSub, oLt, oLe, oGt, oGe, oMul, oMulG, oRepD, oRep, oI2, oMin2, oMax2, oMinL, oMaxL, oAll, oAny, oBools, oIn, oNotIn, oInD, oInSg, x_fChain, intsA, cellsOf, picks, renum, putB, Ce.alive, oSl, slOr, oSlD, oSlL, oLenG, orA, oLen, tru, permL, oSumL, oCatD, datO, oCat, oList, oRepr, oTuple, DL.isNon, oSlT, oSlS, oAddS, oEqG, oNeG, oEqS, oNeS, oEq, oNe, x_fRaise, x_fFrzL, x_frzL, x_fItemsI, x_fValsI, x_fKeysI, x_fDNewM, x_fDPut, x_putC, x_fL6, dsOf, oSortK, intKeys, x_fDSub, x_fTupC, x_fFrzV, x_fSrtU, x_fRng3, x_fFrzN, oIxT, callT, endT, e2, h4, c4]⟩
  rw [fSeq_ok hw]
  obtain ⟨ys, ce', f1, f2, f3, st3, rfl, f4⟩ := lcL_all (k := kName 5) (e := fOp oSub (fOp oMod (fCall oInt (fCons (fDef g__law_next (fCons (fVar 0) fNil)) fNil)) (fVar 3)) (fOp oDiv (fVar 3) (fC (.int 3)))) (sl := [some (.c 0), some (.d (.int m)), some (.d (.int q)), some (.d (.int w)), none, none, none])
    (P := fun z => ∃ i : Int, z = .int i ∧ i.natAbs ≤ 1000) (I := fun j ce => ∃ st, ce = [.l st] ∧ Dr (j + (n + 1)) st) (fun x j ce ⟨st', e, hd⟩ => by
      subst e
      obtain ⟨u, st'', e3, u0, u1, d3⟩ := next_ok (n := j + (n + 1)) (hd.mono (by omega))
      have wp : 0 < w := by omega
      have a0 : 0 ≤ u % w := Int.emod_nonneg _ (by omega)
      have a1 : u % w < w := Int.emod_lt_of_pos _ wp
      refine ⟨.int (u % w - w / 3), ⟨[some (.c 0), some (.d (.int m)), some (.d (.int q)), some (.d (.int w)), none, some (.d x), none], [.l st'']⟩, ?_, ⟨_, rfl, by omega⟩, st'', rfl, d3⟩
      simp [lcT, fYes, fFrz, x_bnd, x_ret, x_stuck, x_gets, x_fVar, x_fC, x_fOp, x_fNil, x_fCons, x_fCall, x_fDat, x_fCell, x_fLst, x_fTup, x_fTest, x_fTru, x_fAnd, x_fOr, x_fNot, x_fIf, x_asB, x_fAndV, x_fOrV, x_fNotV, x_fIsN, x_fNotN, x_frz, x_frzs0, x_frzs1, x_fFrz, x_fSeq, x_fNext, x_fExpr, x_fRet, x_fRetN, x_fAsg, x_kName, x_fPar, x_kNil, x_kCons, x_kTup, x_kSub, x_setIt, x_needL, x_upC, x_fApp, x_fPopAt, x_fPop, x_fSl, x_fNoP, x_fP, x_fDef, x_callD, x_fPerm, x_fIsi, x_fNeg, x_asL, x_asLt, x_asT, x_fItL, x_fItT, x_orI, x_fRng1, x_fRng2, x_fEnum, x_fZip, x_fFor, x_forL0, x_fAug, x_fYes, x_lcT, x_fRstT, x_fRstV, x_ite, oIx, cutC, kl, Ce.lone, x_fCellV, x_fAppV, x_needV, x_upV, oIxV, x_fDNew, x_fSetdL, x_needW, x_setdL, x_fSrtS, x_fToM, x_fItems, x_fGet2, x_fDSub, x_needD, oGet2, oDSub, dictOf, keyD, oSortG, oSortP, orF, oCatT, oStr, x_fCount, x_fIndex, x_fRev, x_fPar3, datL, dat, atI, ixN, oAdd, orO, oI, oInt, oPowW, oIC, oMod, cPos, oDiv, cDiv, endF, oAddI, oSub, oLt, oLe, oGt, oGe, oMul, oMulG, oRepD, oRep, oI2, oMin2, oMax2, oMinL, oMaxL, oAll, oAny, oBools, oIn, oNotIn, oInD, oInSg, x_fChain, intsA, cellsOf, picks, renum, putB, Ce.alive, oSl, slOr, oSlD, oSlL, oLenG, orA, oLen, tru, permL, oSumL, oCatD, datO, oCat, oList, oRepr, oTuple, DL.isNon, oSlT, oSlS, oAddS, oEqG, oNeG, oEqS, oNeS, oEq, oNe, x_fRaise, x_fFrzL, x_frzL, x_fItemsI, x_fValsI, x_fKeysI, x_fDNewM, x_fDPut, x_putC, x_fL6, dsOf, oSortK, intKeys, x_fDSub, x_fTupC, x_fFrzV, x_fSrtU, x_fRng3, x_fFrzN, oIxT, callT, endT, e3, wp]) (rng 0 q.toNat) 0 [.l st2] ⟨st2, rfl, d2.mono (by rw [rng_len]; omega)⟩
  obtain ⟨ns, rfl, f5, f6⟩ := ints_of f3
  rw [rng_len] at f2
  have hl : ns.length = q.toNat := by rw [f5, f2]
  rw [fSeq_ok (s' := ⟨[some (.c 0), some (.d (.int m)), some (.d (.int q)), some (.d (.int w)), some (.d (il ns)), none, none], [.l st3]⟩) (by
    have hr : fRng1 (fCons (fVar 2) fNil) ⟨[some (.c 0), some (.d (.int m)), some (.d (.int q)), some (.d (.int w)), none, none, none], [.l st2]⟩ = .ok (rng 0 q.toNat) ⟨[some (.c 0), some (.d (.int m)), some (.d (.int q)), some (.d (.int w)), none, none, none], [.l st2]⟩ := by
      have hq1 : -1000000000 ≤ q ∧ q ≤ 1000000000 := by omega
      simp [fRng1, x_bnd, x_ret, x_stuck, x_gets, x_fVar, x_fC, x_fOp, x_fNil, x_fCons, x_fCall, x_fDat, x_fCell, x_fLst, x_fTup, x_fTest, x_fTru, x_fAnd, x_fOr, x_fNot, x_fIf, x_asB, x_fAndV, x_fOrV, x_fNotV, x_fIsN, x_fNotN, x_frz, x_frzs0, x_frzs1, x_fFrz, x_fSeq, x_fNext, x_fExpr, x_fRet, x_fRetN, x_fAsg, x_kName, x_fPar, x_kNil, x_kCons, x_kTup, x_kSub, x_setIt, x_needL, x_upC, x_fApp, x_fPopAt, x_fPop, x_fSl, x_fNoP, x_fP, x_fDef, x_callD, x_fPerm, x_fIsi, x_fNeg, x_asL, x_asLt, x_asT, x_fItL, x_fItT, x_orI, x_fRng1, x_fRng2, x_fEnum, x_fZip, x_fFor, x_forL0, x_fAug, x_fYes, x_lcT, x_fRstT, x_fRstV, x_ite, oIx, cutC, kl, Ce.lone, x_fCellV, x_fAppV, x_needV, x_upV, oIxV, x_fDNew, x_fSetdL, x_needW, x_setdL, x_fSrtS, x_fToM, x_fItems, x_fGet2, x_fDSub, x_needD, oGet2, oDSub, dictOf, keyD, oSortG, oSortP, orF, oCatT, oStr, x_fCount, x_fIndex, x_fRev, x_fPar3, datL, dat, atI, ixN, oAdd, orO, oI, oInt, oPowW, oIC, oMod, cPos, oDiv, cDiv, endF, oAddI, oSub, oLt, oLe, oGt, oGe, oMul, oMulG, oRepD, oRep, oI2, oMin2, oMax2, oMinL, oMaxL, oAll, oAny, oBools, oIn, oNotIn, oInD, oInSg, x_fChain, intsA, cellsOf, picks, renum, putB, Ce.alive, oSl, slOr, oSlD, oSlL, oLenG, orA, oLen, tru, permL, oSumL, oCatD, datO, oCat, oList, oRepr, oTuple, DL.isNon, oSlT, oSlS, oAddS, oEqG, oNeG, oEqS, oNeS, oEq, oNe, x_fRaise, x_fFrzL, x_frzL, x_fItemsI, x_fValsI, x_fKeysI, x_fDNewM, x_fDPut, x_putC, x_fL6, dsOf, oSortK, intKeys, x_fDSub, x_fTupC, x_fFrzV, x_fSrtU, x_fRng3, x_fFrzN, oIxT, callT, endT, hq1]
    have hlc := fLc_ok (vs := [5]) hr (by rw [rng_len]; omega) f1
    simp [fAsg, fDat, bnd, hlc, DL.ret, kName])]
  obtain ⟨u, st4, e4, u0, u1, d4⟩ := next_ok (n := n) (f4.mono (by omega))
  by_cases h8 : u % 8 = 0
  · generalize hz : (100000000000000000000 : Int) / (w + 1) = z
    have z0 : 0 ≤ z := by rw [← hz]; exact Int.ediv_nonneg (by decide) (by omega)
    have z1 : z ≤ 100000000000000000000 := by rw [← hz]; exact Int.ediv_le_self _ (by decide)
    have hw1 : (0 : Int) < w + 1 := by omega
    have hw2 : w + 1 < 1073741824 := by omega
    refine ⟨ns.map fun x => x * z, st4, ?_, by simp only [List.length_map]; omega, fun y hy => ?_, d4⟩
    · have hlc := fLc_ok (fi := orI (fItL (fVar 4)) (fItT (fVar 4))) (vs := [6]) (s := ⟨[some (.c 0), some (.d (.int m)), some (.d (.int q)), some (.d (.int w)), some (.d (il ns)), none, none], [.l st4]⟩) (s1 := ⟨[some (.c 0), some (.d (.int m)), some (.d (.int q)), some (.d (.int w)), some (.d (il ns)), none, none], [.l st4]⟩) (xs := ns.map .int)
          (by simp [orI, fItL, asL, x_bnd, x_ret, x_stuck, x_gets, x_fVar, x_fC, x_fOp, x_fNil, x_fCons, x_fCall, x_fDat, x_fCell, x_fLst, x_fTup, x_fTest, x_fTru, x_fAnd, x_fOr, x_fNot, x_fIf, x_asB, x_fAndV, x_fOrV, x_fNotV, x_fIsN, x_fNotN, x_frz, x_frzs0, x_frzs1, x_fFrz, x_fSeq, x_fNext, x_fExpr, x_fRet, x_fRetN, x_fAsg, x_kName, x_fPar, x_kNil, x_kCons, x_kTup, x_kSub, x_setIt, x_needL, x_upC, x_fApp, x_fPopAt, x_fPop, x_fSl, x_fNoP, x_fP, x_fDef, x_callD, x_fPerm, x_fIsi, x_fNeg, x_asL, x_asLt, x_asT, x_fItL, x_fItT, x_orI, x_fRng1, x_fRng2, x_fEnum, x_fZip, x_fFor, x_forL0, x_fAug, x_fYes, x_lcT, x_fRstT, x_fRstV, x_ite, oIx, cutC, kl, Ce.lone, x_fCellV, x_fAppV, x_needV, x_upV, oIxV, x_fDNew, x_fSetdL, x_needW, x_setdL, x_fSrtS, x_fToM, x_fItems, x_fGet2, x_fDSub, x_needD, oGet2, oDSub, dictOf, keyD, oSortG, oSortP, orF, oCatT, oStr, x_fCount, x_fIndex, x_fRev, x_fPar3, datL, dat, atI, ixN, oAdd, orO, oI, oInt, oPowW, oIC, oMod, cPos, oDiv, cDiv, endF, oAddI, oSub, oLt, oLe, oGt, oGe, oMul, oMulG, oRepD, oRep, oI2, oMin2, oMax2, oMinL, oMaxL, oAll, oAny, oBools, oIn, oNotIn, oInD, oInSg, x_fChain, intsA, cellsOf, picks, renum, putB, Ce.alive, oSl, slOr, oSlD, oSlL, oLenG, orA, oLen, tru, permL, oSumL, oCatD, datO, oCat, oList, oRepr, oTuple, DL.isNon, oSlT, oSlS, oAddS, oEqG, oNeG, oEqS, oNeS, oEq, oNe, x_fRaise, x_fFrzL, x_frzL, x_fItemsI, x_fValsI, x_fKeysI, x_fDNewM, x_fDPut, x_putC, x_fL6, dsOf, oSortK, intKeys, x_fDSub, x_fTupC, x_fFrzV, x_fSrtU, x_fRng3, x_fFrzN, oIxT, callT, endT]) (by simp; omega) (lc_ints (k := kName 6) (e := fOp oMulG (fVar 6) (fOp oDiv (fOp oPowW (fC (.int 10)) (fC (.int 20))) (fOp oAdd (fVar 3) (fC (.int 1))))) (f := fun x => x * z) (fun x hx => by
            have hb := f6 x hx
            have c1 : cMul x z = true := by simp only [cMul, decide_eq_true_eq]; omega
            exact ⟨_, by simp [lcT, fYes, fFrz, x_bnd, x_ret, x_stuck, x_gets, x_fVar, x_fC, x_fOp, x_fNil, x_fCons, x_fCall, x_fDat, x_fCell, x_fLst, x_fTup, x_fTest, x_fTru, x_fAnd, x_fOr, x_fNot, x_fIf, x_asB, x_fAndV, x_fOrV, x_fNotV, x_fIsN, x_fNotN, x_frz, x_frzs0, x_frzs1, x_fFrz, x_fSeq, x_fNext, x_fExpr, x_fRet, x_fRetN, x_fAsg, x_kName, x_fPar, x_kNil, x_kCons, x_kTup, x_kSub, x_setIt, x_needL, x_upC, x_fApp, x_fPopAt, x_fPop, x_fSl, x_fNoP, x_fP, x_fDef, x_callD, x_fPerm, x_fIsi, x_fNeg, x_asL, x_asLt, x_asT, x_fItL, x_fItT, x_orI, x_fRng1, x_fRng2, x_fEnum, x_fZip, x_fFor, x_forL0, x_fAug, x_fYes, x_lcT, x_fRstT, x_fRstV, x_ite, oIx, cutC, kl, Ce.lone, x_fCellV, x_fAppV, x_needV, x_upV, oIxV, x_fDNew, x_fSetdL, x_needW, x_setdL, x_fSrtS, x_fToM, x_fItems, x_fGet2, x_fDSub, x_needD, oGet2, oDSub, dictOf, keyD, oSortG, oSortP, orF, oCatT, oStr, x_fCount, x_fIndex, x_fRev, x_fPar3, datL, dat, atI, ixN, oAdd, orO, oI, oInt, oPowW, oIC, oMod, cPos, oDiv, cDiv, endF, oAddI, oSub, oLt, oLe, oGt, oGe, oMul, oMulG, oRepD, oRep, oI2, oMin2, oMax2, oMinL, oMaxL, oAll, oAny, oBools, oIn, oNotIn, oInD, oInSg, x_fChain, intsA, cellsOf, picks, renum, putB, Ce.alive, oSl, slOr, oSlD, oSlL, oLenG, orA, oLen, tru, permL, oSumL, oCatD, datO, oCat, oList, oRepr, oTuple, DL.isNon, oSlT, oSlS, oAddS, oEqG, oNeG, oEqS, oNeS, oEq, oNe, x_fRaise, x_fFrzL, x_frzL, x_fItemsI, x_fValsI, x_fKeysI, x_fDNewM, x_fDPut, x_putC, x_fL6, dsOf, oSortK, intKeys, x_fDSub, x_fTupC, x_fFrzV, x_fSrtU, x_fRng3, x_fFrzN, oIxT, callT, endT, pw20, hw1, hw2, hz, c1, wipe1]; rfl, rfl⟩))
      simp [okE_int, PyData.eqv, h8, hlc, x_bnd, x_ret, x_stuck, x_gets, x_fVar, x_fC, x_fOp, x_fNil, x_fCons, x_fCall, x_fDat, x_fCell, x_fLst, x_fTup, x_fTest, x_fTru, x_fAnd, x_fOr, x_fNot, x_fIf, x_asB, x_fAndV, x_fOrV, x_fNotV, x_fIsN, x_fNotN, x_frz, x_frzs0, x_frzs1, x_fFrz, x_fSeq, x_fNext, x_fExpr, x_fRet, x_fRetN, x_fAsg, x_kName, x_fPar, x_kNil, x_kCons, x_kTup, x_kSub, x_setIt, x_needL, x_upC, x_fApp, x_fPopAt, x_fPop, x_fSl, x_fNoP, x_fP, x_fDef, x_callD, x_fPerm, x_fIsi, x_fNeg, x_asL, x_asLt, x_asT, x_fItL, x_fItT, x_orI, x_fRng1, x_fRng2, x_fEnum, x_fZip, x_fFor, x_forL0, x_fAug, x_fYes, x_lcT, x_fRstT, x_fRstV, x_ite, oIx, cutC, kl, Ce.lone, x_fCellV, x_fAppV, x_needV, x_upV, oIxV, x_fDNew, x_fSetdL, x_needW, x_setdL, x_fSrtS, x_fToM, x_fItems, x_fGet2, x_fDSub, x_needD, oGet2, oDSub, dictOf, keyD, oSortG, oSortP, orF, oCatT, oStr, x_fCount, x_fIndex, x_fRev, x_fPar3, datL, dat, atI, ixN, oAdd, orO, oI, oInt, oPowW, oIC, oMod, cPos, oDiv, cDiv, endF, oAddI, oSub, oLt, oLe, oGt, oGe, oMul, oMulG, oRepD, oRep, oI2, oMin2, oMax2, oMinL, oMaxL, oAll, oAny, oBools, oIn, oNotIn, oInD, oInSg, x_fChain, intsA, cellsOf, picks, renum, putB, Ce.alive, oSl, slOr, oSlD, oSlL, oLenG, orA, oLen, tru, permL, oSumL, oCatD, datO, oCat, oList, oRepr, oTuple, DL.isNon, oSlT, oSlS, oAddS, oEqG, oNeG, oEqS, oNeS, oEq, oNe, x_fRaise, x_fFrzL, x_frzL, x_fItemsI, x_fValsI, x_fKeysI, x_fDNewM, x_fDPut, x_putC, x_fL6, dsOf, oSortK, intKeys, x_fDSub, x_fTupC, x_fFrzV, x_fSrtU, x_fRng3, x_fFrzN, oIxT, callT, endT, e4]
    · obtain ⟨x, hx, rfl⟩ := List.mem_map.mp hy
      have := f6 x hx
      rw [Int.natAbs_mul]
      have h1 : z.natAbs ≤ 100000000000000000000 := by omega
      exact Nat.le_trans (Nat.mul_le_mul this h1) (by decide)
  · refine ⟨ns, st4, ?_, by omega, fun x hx => Nat.le_trans (f6 x hx) (by decide), d4⟩
    simp [okE_int, PyData.eqv, h8, x_bnd, x_ret, x_stuck, x_gets, x_fVar, x_fC, x_fOp, x_fNil, x_fCons, x_fCall, x_fDat, x_fCell, x_fLst, x_fTup, x_fTest, x_fTru, x_fAnd, x_fOr, x_fNot, x_fIf, x_asB, x_fAndV, x_fOrV, x_fNotV, x_fIsN, x_fNotN, x_frz, x_frzs0, x_frzs1, x_fFrz, x_fSeq, x_fNext, x_fExpr, x_fRet, x_fRetN, x_fAsg, x_kName, x_fPar, x_kNil, x_kCons, x_kTup, x_kSub, x_setIt, x_needL, x_upC, x_fApp, x_fPopAt, x_fPop, x_fSl, x_fNoP, x_fP, x_fDef, x_callD, x_fPerm, x_fIsi, x_fNeg, x_asL, x_asLt, x_asT, x_fItL, x_fItT, x_orI, x_fRng1, x_fRng2, x_fEnum, x_fZip, x_fFor, x_forL0, x_fAug, x_fYes, x_lcT, x_fRstT, x_fRstV, x_ite, oIx, cutC, kl, Ce.lone, x_fCellV, x_fAppV, x_needV, x_upV, oIxV, x_fDNew, x_fSetdL, x_needW, x_setdL, x_fSrtS, x_fToM, x_fItems, x_fGet2, x_fDSub, x_needD, oGet2, oDSub, dictOf, keyD, oSortG, oSortP, orF, oCatT, oStr, x_fCount, x_fIndex, x_fRev, x_fPar3, datL, dat, atI, ixN, oAdd, orO, oI, oInt, oPowW, oIC, oMod, cPos, oDiv, cDiv, endF, oAddI, oSub, oLt, oLe, oGt, oGe, oMul, oMulG, oRepD, oRep, oI2, oMin2, oMax2, oMinL, oMaxL, oAll, oAny, oBools, oIn, oNotIn, oInD, oInSg, x_fChain, intsA, cellsOf, picks, renum, putB, Ce.alive, oSl, slOr, oSlD, oSlL, oLenG, orA, oLen, tru, permL, oSumL, oCatD, datO, oCat, oList, oRepr, oTuple, DL.isNon, oSlT, oSlS, oAddS, oEqG, oNeG, oEqS, oNeS, oEq, oNe, x_fRaise, x_fFrzL, x_frzL, x_fItemsI, x_fValsI, x_fKeysI, x_fDNewM, x_fDPut, x_putC, x_fL6, dsOf, oSortK, intKeys, x_fDSub, x_fTupC, x_fFrzV, x_fSrtU, x_fRng3, x_fFrzN, oIxT, callT, endT, e4]
theorem cutM (xs : List D) (i j : Nat) : DL.cutD xs (some (i : Int)) (some (j : Int)) = (xs.take j).drop i := by
  unfold DL.cutD
  rw [HT.sIx_nat, HT.sIx_nat, List.drop_take]
  rcases Nat.le_total i xs.length with h | h
  · rw [Nat.min_eq_left h]
    rcases Nat.le_total j xs.length with q | q
    · rw [Nat.min_eq_left q]
    · rw [Nat.min_eq_right q, List.take_of_length_le (by rw [List.length_drop]; omega), List.take_of_length_le (by rw [List.length_drop]; omega)]
  · rw [Nat.min_eq_right h, List.drop_length, List.drop_eq_nil_of_le h, List.take_nil, List.take_nil]
def nD (k : Nat) : D := .int (k : Int)
theorem nD_def (k : Nat) : nD k = .int (k : Int) := rfl
theorem forL_step {k : Vl → M Unit} {b : M Fl} {x : D} {xs : List D} {s s' : S} (h : bnd (k (.d x)) (fun _ => b) s = .ok .nx s') : forL k b (x :: xs) s = forL k b xs s' := by simp only [forL, h]
theorem at_nat {v : List Int} {i : Nat} (h : i < v.length) : atI (v.map PyData.int) (i : Int) = some (.int (v.getD i 0)) := by
  have e : v[i]? = some (v.getD i 0) := by simp [List.getD, List.getElem?_eq_getElem h]
  simp [atI, ixN, h, List.getD, e]
/-! union, intersection, difference, inclusion by two pointers -/
/-! ### the parts of a list: a leader and what stands below it -/
def tk (x : Int) (l : List Int) : List Int := l.takeWhile fun z => decide (z < x)
def dp (x : Int) (l : List Int) : List Int := l.dropWhile fun z => decide (z < x)
theorem dp_len (x : Int) (l : List Int) : (dp x l).length ≤ l.length := (List.dropWhile_suffix _).length_le
theorem tk_dp (x : Int) (l : List Int) : tk x l ++ dp x l = l := List.takeWhile_append_dropWhile
theorem tk_lt {x z : Int} {l : List Int} (h : z ∈ tk x l) : z < x := by
  unfold tk at h
  induction l with
  | nil => simp at h
  | cons a l ih =>
    by_cases e : a < x
    · simp [e] at h
      rcases h with rfl | h
      · exact e
      · exact ih h
    · simp [e] at h
def prt : List Int → List (Int × List Int)
  | [] => []
  | x :: xs => (x, tk x xs) :: prt (dp x xs)
termination_by l => l.length
decreasing_by simp only [List.length_cons]; have := dp_len x xs; omega
theorem prt_nil : prt [] = [] := by simp [prt]
theorem prt_cons (x : Int) (xs : List Int) : prt (x :: xs) = (x, tk x xs) :: prt (dp x xs) := by rw [prt]
/-- a list by its length -/
theorem len_ind {P : List Int → Prop} (nil : P []) (cons : ∀ x xs, (∀ ys : List Int, ys.length ≤ xs.length → P ys) → P (x :: xs)) : ∀ l, P l := by
  have key : ∀ (n : Nat) (l : List Int), l.length = n → P l := fun n => by
    induction n using Nat.strongRecOn with
    | _ n ih =>
      intro l hn
      cases l with
      | nil => exact nil
      | cons x xs => exact cons x xs fun ys hy => ih ys.length (by simp at hn; omega) ys rfl
  exact fun l => key _ l rfl
def unprt (P : List (Int × List Int)) : List Int := (P.map fun p => p.1 :: p.2).flatten
theorem unprt_prt : ∀ l, unprt (prt l) = l := len_ind (by simp [prt_nil, unprt]) fun x xs ih => by
  have h := ih (dp x xs) (dp_len x xs)
  rw [prt_cons]
  simp only [unprt, List.map_cons, List.flatten_cons] at h ⊢
  rw [h, List.cons_append, tk_dp]
/-- the first value is at least x -/
def Hd (x : Int) (l : List Int) : Prop := ∀ z ∈ l.head?, x ≤ z
theorem tk_app {x : Int} : ∀ {A : List Int} {C : List Int}, (∀ z ∈ A, z < x) → Hd x C → tk x (A ++ C) = A ∧ dp x (A ++ C) = C
  | [], C, _, h => by
    cases C with
    | nil => exact ⟨rfl, rfl⟩
    | cons c C =>
      have : ¬ c < x := by have := h c rfl; omega
      simp [tk, dp, this]
  | a :: A, C, hA, h => by
    have ha : a < x := hA a List.mem_cons_self
    have ih := tk_app (A := A) (fun z hz => hA z (List.mem_cons_of_mem _ hz)) h
    simp only [tk, dp, List.cons_append, List.takeWhile_cons, List.dropWhile_cons, ha, decide_true, if_true] at ih ⊢
    exact ⟨by rw [ih.1], ih.2⟩
theorem prt_app {x : Int} {A C : List Int} (hA : ∀ z ∈ A, z < x) (hC : Hd x C) : prt (x :: (A ++ C)) = (x, A) :: prt C := by
  rw [prt_cons, (tk_app hA hC).1, (tk_app hA hC).2]
/-- the leaders never fall -/
def Srt (P : List (Int × List Int)) : Prop := P.Pairwise fun p q => p.1 ≤ q.1
/-! ### union and intersection by parts -/
abbrev Pt := Int × List Int
def pn (f : List Int → List Int → List Int) : List Pt → List Pt → List Pt
  | [], _ => []
  | _ :: _, [] => []
  | p :: P, q :: Q => if p.1 < q.1 then pn f P (q :: Q) else if q.1 < p.1 then pn f (p :: P) Q else (p.1, f p.2 q.2) :: pn f P Q
termination_by P Q => P.length + Q.length
/-! ### ways down -/
theorem Srt.tail {p : Pt} {P : List Pt} (h : Srt (p :: P)) : Srt P := (List.pairwise_cons.mp h).2
/-! ### the equations -/
/-! ### units, falls, merging by parts -/
def ut (p : Pt) : List Int := p.1 :: p.2
def uts (l : List Int) : List (List Int) := (prt l).map ut
theorem uts_flat (l : List Int) : (uts l).flatten = l := unprt_prt l
def ustep (us : List (List Int)) (v : Int) : List (List Int) := match us.getLast? with
  | none => [[v]]
  | some u => if u.headD 0 ≤ v then us ++ [[v]] else us.dropLast ++ [u ++ [v]]
theorem tk_all {x : Int} {l : List Int} (h : dp x l = []) : tk x l = l ∧ ∀ z ∈ l, z < x := by
  have e := tk_dp x l
  rw [h, List.append_nil] at e
  exact ⟨e, fun z hz => by rw [← e] at hz; exact tk_lt hz⟩
theorem dp_snoc {x v : Int} {l : List Int} (h : dp x l ≠ []) : tk x (l ++ [v]) = tk x l ∧ dp x (l ++ [v]) = dp x l ++ [v] := by
  induction l with
  | nil => exact absurd rfl h
  | cons a l ih =>
    by_cases e : a < x
    · have h' : dp x l ≠ [] := by simpa [dp, e] using h
      have := ih h'
      simp only [tk, dp, List.cons_append, List.takeWhile_cons, List.dropWhile_cons, e, decide_true, if_true] at this ⊢
      exact ⟨by rw [this.1], this.2⟩
    · simp [tk, dp, e]
theorem prt_ne {l : List Int} (h : l ≠ []) : prt l ≠ [] := by
  cases l with
  | nil => exact absurd rfl h
  | cons a l => rw [prt_cons]; simp
theorem uts_snoc (v : Int) : ∀ l : List Int, uts (l ++ [v]) = ustep (uts l) v := len_ind (by simp [uts, prt_nil, prt_cons, tk, dp, ustep, ut]) fun x xs ih => by
  by_cases h : dp x xs = []
  · obtain ⟨e1, e2⟩ := tk_all h
    have hx : uts (x :: xs) = [x :: xs] := by simp [uts, prt_cons, h, prt_nil, e1, ut]
    rw [hx, List.cons_append]
    by_cases hv : x ≤ v
    · have : prt (x :: (xs ++ [v])) = (x, xs) :: prt [v] := prt_app e2 (fun z hz => by cases hz; exact hv)
      simp [uts, this, prt_cons, tk, dp, prt_nil, ustep, ut, hv]
    · have : prt (x :: (xs ++ [v])) = (x, xs ++ [v]) :: prt [] := by
        have q := prt_app (x := x) (A := xs ++ [v]) (C := []) (fun z hz => by
          rcases List.mem_append.mp hz with q | q
          · exact e2 z q
          · have q' := List.mem_singleton.mp q
            omega) (fun z hz => by simp at hz)
        rwa [List.append_nil] at q
      simp [uts, this, prt_nil, ustep, ut, hv]
  · have ih' := ih (dp x xs) (dp_len x xs)
    have e := dp_snoc (v := v) h
    have h1 : uts (x :: xs ++ [v]) = (x :: tk x xs) :: uts (dp x xs ++ [v]) := by
      simp only [uts, List.cons_append, prt_cons, e.1, e.2, List.map_cons, ut]
    have h2 : uts (x :: xs) = (x :: tk x xs) :: uts (dp x xs) := by simp only [uts, prt_cons, List.map_cons, ut]
    have hne : uts (dp x xs) ≠ [] := by
      have := prt_ne h
      simp [uts, this]
    rw [h1, h2, ih']
    generalize uts (dp x xs) = us at hne
    cases us with
    | nil => exact absurd rfl hne
    | cons u us =>
      unfold ustep
      rw [List.getLast?_cons_cons]
      cases hl : (u :: us).getLast? with
      | none => simp at hl
      | some w =>
        simp only
        split <;> simp
theorem uts_cons {l u : List Int} (h : u ∈ uts l) : ∃ x xs, u = x :: xs ∧ ∀ z ∈ xs, z < x := by
  obtain ⟨p, hp, rfl⟩ := List.mem_map.mp h
  refine ⟨p.1, p.2, rfl, ?_⟩
  have key : ∀ l : List Int, ∀ p ∈ prt l, ∀ z ∈ p.2, z < p.1 := len_ind (fun p hp => by simp [prt_nil] at hp) fun x xs ih p hp => by
    rw [prt_cons] at hp
    rcases List.mem_cons.mp hp with rfl | hp
    · exact fun z hz => tk_lt hz
    · exact ih _ (dp_len x xs) p hp
  exact key l p hp
/-! falls -/
/-! merging -/
/-! groups by keys -/
/-- the units with a leader -/
def wd (h : Int) (us : List (List Int)) : List (List Int) := us.filter fun u => decide (u.head? = some h)
/-! ### cutting a list -/
structure Asc (n f : Nat) (es : List Nat) : Prop where
  lt : es.Pairwise (· < ·)
  lo : ∀ e ∈ es, f ≤ e
  hi : ∀ e ∈ es, e ≤ n
  last : n ∈ es
theorem Asc.tail {n f e : Nat} {es : List Nat} (h : Asc n f (e :: es)) (hne : e ≠ n) : Asc n e es := by
  obtain ⟨h1, h2⟩ := List.pairwise_cons.mp h.lt
  refine ⟨h2, fun x hx => Nat.le_of_lt (h1 x hx), fun x hx => h.hi x (List.mem_cons_of_mem _ hx), ?_⟩
  rcases List.mem_cons.mp h.last with q | q
  · exact absurd q.symm hne
  · exact q
/-! falls at places -/
/-! pieces -/
def offs : Nat → List (List Int) → List Nat
  | _, [] => []
  | k, u :: us => k :: offs (k + u.length) us
def pc (v : List Int) (t : I3) : List Int := (v.take t.2.2.toNat).drop t.2.1.toNat
def Pk (u : List Int) : Prop := ∃ x xs, u = x :: xs ∧ ∀ z ∈ xs, z < x
theorem Pk.ne {u : List Int} (h : Pk u) : u ≠ [] := by obtain ⟨x, xs, rfl, _⟩ := h; simp
theorem Pk.pos {u : List Int} (h : Pk u) : 0 < u.length := List.length_pos_iff.mpr h.ne
def Stp (S : List Nat) : Nat → List (List Int) → Prop
  | k, u :: w :: us => (k + u.length ∈ S ∨ u.headD 0 ≤ w.headD 0) ∧ Stp S (k + u.length) (w :: us)
  | _, _ => True
structure Dec (S : List Nat) (k : Nat) (us : List (List Int)) : Prop where
  pk : ∀ u ∈ us, Pk u
  st : Stp S k us
  ins : ∀ s ∈ S, k ≤ s → s < k + us.flatten.length → s ∈ offs k us
theorem Dec.tail {S : List Nat} {k : Nat} {u : List Int} {us : List (List Int)} (h : Dec S k (u :: us)) : Dec S (k + u.length) us := by
  have hp := (h.pk u List.mem_cons_self).pos
  refine ⟨fun w hw => h.pk w (List.mem_cons_of_mem _ hw), ?_, fun s hs h1 h2 => ?_⟩
  · cases us with
    | nil => trivial
    | cons w us => exact h.st.2
  · have := h.ins s hs (by omega) (by rw [List.flatten_cons, List.length_append]; omega)
    rcases List.mem_cons.mp this with q | q
    · omega
    · exact q
/-! what a goal says of the cut that gives it -/
def fbk : Nat → List (List Int) → Nat → List Int → Nat ⊕ List Nat
  | 0, _, k, _ => .inl k
  | _ + 1, left, k, [] => if left = [] then .inr [] else .inl k
  | n + 1, left, k, x :: xs => match wd x left with
    | [] => .inl k
    | u :: _ => if (x :: xs).take u.length = u then (match fbk n (left.erase u) (k + u.length) ((x :: xs).drop u.length) with
        | .inl j => .inl j
        | .inr bs => .inr (k :: bs)) else .inl k
theorem wd_erase (h : Int) (us : List (List Int)) (u : List Int) : wd h (us.erase u) = (wd h us).erase u := by
  unfold wd
  rw [List.erase_filter]
theorem wd_mem {h : Int} {us : List (List Int)} {u : List Int} : u ∈ wd h us ↔ u ∈ us ∧ u.head? = some h := by
  unfold wd
  rw [List.mem_filter, decide_eq_true_eq]
theorem wd_none {us : List (List Int)} (hu : ∀ u ∈ us, u ≠ []) (h : ∀ x, wd x us = []) : us = [] := by
  cases us with
  | nil => rfl
  | cons u us =>
    cases u with
    | nil => exact absurd rfl (hu [] (List.mem_cons_self ..))
    | cons x r =>
      have := h x
      have hm : (x :: r) ∈ wd x ((x :: r) :: us) := wd_mem.mpr ⟨List.mem_cons_self .., rfl⟩
      rw [this] at hm
      cases hm
theorem wd_same {x : Int} {r : List Int} {us : List (List Int)} : wd x ((x :: r) :: us) = (x :: r) :: wd x us := by
  unfold wd
  rw [List.filter_cons, if_pos (by simp)]
theorem wd_other {h : Int} {u : List Int} {us : List (List Int)} (n : u.head? ≠ some h) : wd h (u :: us) = wd h us := by
  unfold wd
  rw [List.filter_cons, if_neg (by simpa using n)]
theorem fbk_all : ∀ (ws : List (List Int)) (n k : Nat) (left : List (List Int)), (∀ w ∈ ws, w ≠ []) → (∀ u ∈ left, u ≠ []) → (∀ h, wd h left = wd h ws) → ws.length < n → fbk n left k ws.flatten = .inr (offs k ws)
  | [], n + 1, k, left, _, hl, hw, _ => by
    have e : left = [] := wd_none hl fun x => hw x
    subst e
    rfl
  | w :: ws, n + 1, k, left, hws, hl, hw, hn => by
    cases hwe : w with
    | nil => exact absurd hwe (hws w (List.mem_cons_self ..))
    | cons x r =>
      subst hwe
      rw [List.flatten_cons, List.cons_append, fbk, hw x, wd_same]
      simp only
      have t1 : (x :: (r ++ ws.flatten)).take (x :: r).length = x :: r := by
        rw [← List.cons_append, List.take_left]
      have t2 : (x :: (r ++ ws.flatten)).drop (x :: r).length = ws.flatten := by
        rw [← List.cons_append, List.drop_left]
      rw [if_pos t1, t2, fbk_all ws n (k + (x :: r).length) (left.erase (x :: r)) (fun w hw => hws w (List.mem_cons_of_mem _ hw)) (fun u hu => hl u (List.mem_of_mem_erase hu)) (fun h => by
        rw [wd_erase, hw h]
        by_cases e : h = x
        · subst e
          rw [wd_same, List.erase_cons_head]
        · have n : (x :: r).head? ≠ some h := fun z => e (Option.some.inj z).symm
          rw [wd_other n, List.erase_of_not_mem]
          intro z
          exact n (wd_mem.mp z).2) (by simp only [List.length_cons] at hn; omega)]
      rfl
theorem pk_uts {l u : List Int} (h : u ∈ uts l) : Pk u := uts_cons h
/-! closed sets -/
def PC (v : List Int) (S : List Nat) : Prop := ∀ b ∈ S, ∀ p, b < p → p < v.length → v.getD b 0 ≤ v.getD p 0 → (∀ q, b < q → q < p → v.getD q 0 < v.getD b 0) → p ∈ S
/-- closed: ascending, with 0, with all parents -/
structure Cls (v : List Int) (S : List Nat) : Prop where
  asc : S.Pairwise (· < ·)
  lt : ∀ s ∈ S, s < v.length
  zero : v ≠ [] → 0 ∈ S
  pc : PC v S
/-! calls with the def as a variable, lists of lists (behind C_power) -/
theorem def_at1 {g : FD} {f : M (List Vl)} {s s1 : S} {x z : D} (hf : f s = .ok [.d x] s1) (hg : g [.d x] [] = .ok (.d z) []) : (fDef g f) s = .ok (.d z) s1 := by
  simp [x_fDef, x_bnd, hf, x_callD, cellsOf, picks, renum, hg, putB]
theorem cons_2 {f g : M Vl} {s s1 s2 : S} {x y : Vl} (h1 : f s = .ok x s1) (h2 : g s1 = .ok y s2) : (fCons f (fCons g fNil)) s = .ok [x, y] s2 := by
  simp only [x_fCons, x_bnd, h1, h2, x_fNil, x_ret]
theorem cons_1 {f : M Vl} {s s1 : S} {x : Vl} (h1 : f s = .ok x s1) : (fCons f fNil) s = .ok [x] s1 := by
  simp only [x_fCons, x_bnd, h1, x_fNil, x_ret]
theorem asg_ok {f : M Vl} {s s1 : S} {x : Vl} {i : Nat} (h : f s = .ok x s1) : (fAsg f (kName i)) s = .ok .nx ⟨s1.sl.set i (some x), s1.ce⟩ := by
  simp only [x_fAsg, x_bnd, h, x_kName, x_ret]
theorem dat_ok {f : M (List D)} {s s1 : S} {xs : List D} (h : f s = .ok xs s1) : (fDat f) s = .ok (.d (.list xs)) s1 := by
  simp only [x_fDat, x_bnd, h, x_ret]
/-! small steps with the parts as variables -/
theorem len_at {f : M Vl} {s s1 : S} {xs : List D} (h : f s = .ok (.d (.list xs)) s1) : (fCall oLenG (fCons f fNil)) s = .ok (.d (.int (xs.length : Int))) s1 := by
  simp [x_fCall, x_bnd, x_fCons, h, x_fNil, x_ret, oLenG, orA, oLen, datL, dat, x_gets]
theorem tup2_at {f g : M Vl} {s s1 s2 : S} {x y : D} (h1 : f s = .ok (.d x) s1) (h2 : g s1 = .ok (.d y) s2) : fTup (fCons f (fCons g fNil)) s = .ok (.d (.tuple [x, y])) s2 := by
  simp [x_fTup, x_bnd, x_fCons, h1, h2, x_fNil, x_ret, x_frzs1, x_frzs0, x_frz]
theorem ret_at {f : M Vl} {s s1 : S} {x : Vl} (h : f s = .ok x s1) : (fRet f) s = .ok (.rt x) s1 := by
  simp only [x_fRet, x_bnd, h, x_ret]
theorem test_at {f : M Vl} {s s1 : S} {b : Bool} (h : f s = .ok (.d (.bool b)) s1) : (fTest f) s = .ok b s1 := by
  simp [x_fTest, x_bnd, h, x_asB, x_ret]
theorem or_tt {f g : M Bool} {s s1 : S} (h : f s = .ok true s1) : (fOr f g) s = .ok true s1 := by
  simp [x_fOr, x_bnd, h, x_ret]
theorem or_ff {f g : M Bool} {s s1 : S} {b : Bool} {s2 : S} (h : f s = .ok false s1) (h2 : g s1 = .ok b s2) : (fOr f g) s = .ok b s2 := by
  simp [x_fOr, x_bnd, h, h2]
theorem str_ne (a b : Str) (s : S) : oNeG (.d (.str a)) (.d (.str b)) s = some (.d (.bool (!decide (a = b)))) := by
  simp [oNeG, orO, oNeS, oNe, dat, okE]
theorem dlst2_at {f g : M Vl} {s s1 s2 : S} {x y : D} (h1 : f s = .ok (.d x) s1) (h2 : g s1 = .ok (.d y) s2) : fDat (fLst (fCons f (fCons g fNil))) s = .ok (.d (.list [x, y])) s2 := by
  simp [x_fDat, x_fLst, x_bnd, x_fCons, h1, h2, x_fNil, x_ret, x_frzs1, x_frzs0, x_frz]
theorem ixl_at {f g : M Vl} {s s1 s2 : S} {xs : List D} {i : Int} {x : D} (h : f s = .ok (.d (.list xs)) s1) (hg : g s1 = .ok (.d (.int i)) s2) (hx : atI xs i = some x) : (fOp oIx f g) s = .ok (.d x) s2 := by
  simp [x_fOp, x_bnd, h, hg, x_ret, x_gets, oIx, datL, dat, hx]
theorem lcT_at {k : Vl → M Unit} {e : M Vl} {x y : D} {s s1 s2 : S} (hk : k (.d x) s = .ok () s1) (he : e s1 = .ok (.d y) s2) : lcT k fYes e x s = .ok (some y) ⟨s1.sl, cutC s1.ce.length s2.ce⟩ := by
  simp [x_lcT, x_bnd, hk, x_fYes, x_ret, x_fFrz, he, x_frz]
theorem ktup2_at {i j : Nat} {x y : D} {s : S} : kTup 2 (kCons (kName i) (kCons (kName j) kNil)) (.d (.tuple [x, y])) s = .ok () ⟨(s.sl.set i (some (.d x))).set j (some (.d y)), s.ce⟩ := by
  simp [x_bnd, x_ret, x_stuck, x_gets, x_fVar, x_fC, x_fOp, x_fNil, x_fCons, x_fCall, x_fDat, x_fCell, x_fLst, x_fTup, x_fTest, x_fTru, x_fAnd, x_fOr, x_fNot, x_fIf, x_asB, x_fAndV, x_fOrV, x_fNotV, x_fIsN, x_fNotN, x_frz, x_frzs0, x_frzs1, x_fFrz, x_fSeq, x_fNext, x_fExpr, x_fRet, x_fRetN, x_fAsg, x_kName, x_fPar, x_kNil, x_kCons, x_kTup, x_kSub, x_setIt, x_needL, x_upC, x_fApp, x_fPopAt, x_fPop, x_fSl, x_fNoP, x_fP, x_fDef, x_callD, x_fPerm, x_fIsi, x_fNeg, x_asL, x_asLt, x_asT, x_fItL, x_fItT, x_orI, x_fRng1, x_fRng2, x_fEnum, x_fZip, x_fFor, x_forL0, x_fAug, x_fYes, x_lcT, x_fRstT, x_fRstV, x_ite, oIx, cutC, kl, Ce.lone, x_fCellV, x_fAppV, x_needV, x_upV, oIxV, x_fDNew, x_fSetdL, x_needW, x_setdL, x_fSrtS, x_fToM, x_fItems, x_fGet2, x_fDSub, x_needD, oGet2, oDSub, dictOf, keyD, oSortG, oSortP, orF, oCatT, oStr, x_fCount, x_fIndex, x_fRev, x_fPar3, datL, dat, oAdd, orO, oI, oInt, oPowW, oIC, oMod, cPos, oDiv, cDiv, endF, oAddI, oSub, oLt, oLe, oGt, oGe, oMul, oMulG, oRepD, oRep, oI2, oMin2, oMax2, oMinL, oMaxL, oAll, oAny, oBools, oIn, oNotIn, oInD, oInSg, x_fChain, intsA, cellsOf, picks, renum, putB, Ce.alive, oSl, slOr, oSlD, oSlL, oLenG, orA, oLen, tru, permL, oSumL, oCatD, datO, oCat, oList, oRepr, oTuple, DL.isNon, oSlT, oSlS, oAddS, oEqG, oNeG, oEqS, oNeS, oEq, oNe, x_fRaise, x_fFrzL, x_frzL, x_fItemsI, x_fValsI, x_fKeysI, x_fDNewM, x_fDPut, x_putC, x_fL6, dsOf, oSortK, intKeys, x_fDSub, x_fTupC, x_fFrzV, x_fSrtU, x_fRng3, x_fFrzN, oIxT, callT, endT]
theorem lcT_if_at {k : Vl → M Unit} {t : M Bool} {e : M Vl} {x y : D} {s s1 : S} {b : Bool} (hk : k (.d x) s = .ok () s1) (ht : t s1 = .ok b s1) (he : e s1 = .ok (.d y) s1) (hc : cutC s1.ce.length s1.ce = s1.ce) : ∃ s', lcT k t e x s = .ok (if b = true then some y else none) s' ∧ cutC s1.ce.length s'.ce = s1.ce := by
  cases b
  · exact ⟨s1, by simp [x_lcT, x_bnd, hk, ht, x_ret], hc⟩
  · exact ⟨⟨s1.sl, s1.ce⟩, by simp [x_lcT, x_bnd, hk, ht, x_ret, x_fFrz, he, x_frz, hc], hc⟩
theorem ne_il2 (x y : List Int) (s : S) : oNeG (.d (il x)) (.d (il y)) s = some (.d (.bool !decide (x = y))) := by
  have h1 := okE_il x
  have h2 := okE_il y
  have h3 := eqv_il x y
  have h4 : oNeS (.d (il x)) (.d (il y)) s = none := rfl
  generalize il x = X at *
  generalize il y = Y at *
  simp [oNeG, orO, h4, oNe, dat, h1, h2, h3]
theorem if_t {t : M Bool} {f g : M Fl} {s s1 : S} (h : t s = .ok true s1) : fIf t f g s = f s1 := by simp only [x_fIf, x_bnd, h, if_true]
theorem if_f {t : M Bool} {f g : M Fl} {s s1 : S} (h : t s = .ok false s1) : fIf t f g s = g s1 := by simp only [x_fIf, x_bnd, h, Bool.false_eq_true, if_false]
theorem eqv_ll : ∀ a b : List (List Int), PyData.eqv (.list (a.map il)) (.list (b.map il)) = decide (a = b) := fun a b => by
  simp only [PyData.eqv]
  induction a generalizing b with
  | nil => cases b <;> simp [PyData.eqvAll]
  | cons x a ih =>
    cases b with
    | nil => simp [PyData.eqvAll]
    | cons y b =>
      simp only [List.map_cons, PyData.eqvAll, ih]
      rw [eqv_il]
      by_cases h1 : x = y <;> by_cases h2 : a = b <;> simp [h1, h2]
theorem okE_ll (us : List (List Int)) : okE (.list (us.map il)) = true := by
  have hk : ∀ u : List Int, noD (il u) = true ∧ (il u).canLay0 = true ∧ (il u).depth ≤ 1 := fun u => by
    refine ⟨noDs_of fun x hx => ?_, lay_of fun x hx => ?_, ?_⟩
    · obtain ⟨i, _, rfl⟩ := List.mem_map.mp hx; rfl
    · obtain ⟨i, _, rfl⟩ := List.mem_map.mp hx; rfl
    · simp only [PyData.depth]
      have := dep_of (k := 0) (xs := u.map PyData.int) fun x hx => by obtain ⟨i, _, rfl⟩ := List.mem_map.mp hx; exact Nat.le_refl _
      omega
  simp only [okE, SeqAt.shaped, Bool.and_eq_true, decide_eq_true_eq]
  refine ⟨noDs_of fun x hx => ?_, lay_of fun x hx => ?_, ?_⟩
  · obtain ⟨u, _, rfl⟩ := List.mem_map.mp hx; exact (hk u).1
  · obtain ⟨u, _, rfl⟩ := List.mem_map.mp hx; exact (hk u).2.1
  · simp only [PyData.depth]
    have := dep_of (k := 1) (xs := us.map il) fun x hx => by obtain ⟨u, _, rfl⟩ := List.mem_map.mp hx; exact (hk u).2.2
    omega
theorem op_ok {α : Type} {o : O2 α} {fa fb : M Vl} {s s1 s2 : S} {x y : Vl} {z : α} (h1 : fa s = .ok x s1) (h2 : fb s1 = .ok y s2) (h3 : o x y s2 = some z) : fOp o fa fb s = .ok z s2 := by simp only [fOp, bnd, h1, h2, gets, h3]
theorem test_ok {f : M Vl} {s s1 : S} {b : Bool} (h : f s = .ok (.d (.bool b)) s1) : fTest f s = .ok b s1 := by simp only [x_fTest, x_bnd, h, x_asB, x_ret]
theorem eq_ll (x y : List (List Int)) (s : S) : oEqG (.d (.list (x.map il))) (.d (.list (y.map il))) s = some (.d (.bool (decide (x = y)))) := by
  have k1 := okE_ll x
  have k2 := okE_ll y
  have e1 := eqv_ll x y
  generalize x.map il = X at *
  generalize y.map il = Y at *
  simp [oEqG, orO, oEqS, oEq, dat, k1, k2, e1]
theorem atI_last (xs : List D) (y : D) : atI (xs ++ [y]) (-1) = some y := by
  have h : ixN (xs ++ [y]).length (-1) = some xs.length := by
    unfold ixN
    simp
    omega
  unfold atI
  rw [h]
  simp
theorem cut_last (xs : List D) (y : D) : DL.cutD (xs ++ [y]) none (some (-1)) = xs := by
  unfold DL.cutD
  have h : HT.sIx (xs ++ [y]).length (xs ++ [y]).length (some (-1)) = xs.length := by
    unfold HT.sIx
    simp
    try omega
  rw [HT.sIx_none, h]
  simp
theorem uts_len (l : List Int) : (uts l).length ≤ l.length := by
  have key : ∀ l : List Int, (prt l).length ≤ l.length := len_ind (by simp [prt_nil]) fun x xs ih => by
    rw [prt_cons]
    have := ih _ (dp_len x xs)
    have := dp_len x xs
    simp only [List.length_cons]
    omega
  simpa [uts] using key l
theorem uts_mem {l u : List Int} (h : u ∈ uts l) : (∀ z ∈ u, z ∈ l) ∧ u.length ≤ l.length := by
  have e := uts_flat l
  refine ⟨fun z hz => by rw [← e]; exact List.mem_flatten.mpr ⟨u, h, hz⟩, ?_⟩
  rw [← e]
  exact List.Sublist.length_le (List.sublist_flatten_of_mem h)
theorem take_snoc {l : List Int} {i : Nat} {v : Int} (h : l[i]? = some v) : l.take (i + 1) = l.take i ++ [v] := by
  rw [List.take_add_one, h]
  rfl
/-! the law's own units -/
def KG (C : List Ce) : Prop := ∀ c ∈ C, kl c = c
theorem KG.set {C : List Ce} (h : KG C) (i : Nat) (xs : List D) : KG (C.set i (.l xs)) := fun c hc => by
  rcases List.mem_or_eq_of_mem_set hc with q | q
  · exact h c q
  · rw [q]; rfl
theorem KG.app {C : List Ce} (h : KG C) (xs : List D) : KG (C ++ [.l xs]) := fun c hc => by
  rcases List.mem_append.mp hc with q | q
  · exact h c q
  · rw [List.mem_singleton.mp q]; rfl
theorem call1_at {α : Type} {o : OA α} {f : M Vl} {s s1 : S} {x : Vl} {z : α} (h1 : f s = .ok x s1) (h3 : o [x] s1 = some z) : (fCall o (fCons f fNil)) s = .ok z s1 := by
  simp only [x_fCall, x_bnd, x_fCons, h1, x_fNil, x_ret, x_gets, h3]
theorem eq_ii2 (x y : Int) (s : S) : oEqG (.d (.int x)) (.d (.int y)) s = some (.d (.bool (decide (x = y)))) := by
  have h4 : oEqS (.d (.int x)) (.d (.int y)) s = none := rfl
  simp [oEqG, orO, h4, oEq, dat, okE_int, eqv_ii]
theorem ifV_t {t : M Bool} {f g : M Vl} {s s1 : S} (h : t s = .ok true s1) : fIf t f g s = f s1 := by simp only [x_fIf, x_bnd, h, if_true]
theorem ifV_f {t : M Bool} {f g : M Vl} {s s1 : S} (h : t s = .ok false s1) : fIf t f g s = g s1 := by simp only [x_fIf, x_bnd, h, Bool.false_eq_true, if_false]
theorem rt_ret {f : M Vl} {s s' : S} {v : Vl} {P : List Ce → Prop} (h : f s = .ok v s') (k : P s'.ce) : Rt (fRet f s) v P := by
  rw [ret_at h]
  exact ⟨rfl, k⟩
/-! units_of, handed back as a new list -/
theorem units_cell {l : List Int} (hl : l.length ≤ 1000) : g_units_of [.d (il l)] [] = .ok (.c 0) [.l ((uts l).map il)] := by
  obtain ⟨s', e1, G, a2, hs, hk⟩ := forL_inv (k := K0_units_of) (b := B0_units_of) (xs := l.map .int) (I := fun i s => ∃ (G : List Ce) (a2 : Option Vl), s = ⟨[some (.d (il l)), some (.c G.length), a2], G ++ [.l ((uts (l.take i)).map il)]⟩ ∧ KG G) (fun i x s hx ⟨G, a2, e, hG⟩ => by
      subst e
      rw [List.getElem?_map] at hx
      cases hv : l[i]? with
      | none => rw [hv] at hx; cases hx
      | some v =>
        rw [hv] at hx
        cases hx
        have hi := lt_of_get hv
        have ok := okE_ll (uts (l.take i))
        have hlen := uts_len (l.take i)
        rw [take_snoc hv, uts_snoc]
        have hmem : ∀ u ∈ uts (l.take i), ∃ x xs, u = x :: xs ∧ xs.length ≤ 1000 := fun u hu => by
          obtain ⟨x, xs, rfl, _⟩ := uts_cons hu
          refine ⟨x, xs, rfl, ?_⟩
          have := (uts_mem hu).2
          simp at this
          omega
        have hn : (uts (l.take i)).length ≤ 1000 := by simp at hlen; omega
        generalize uts (l.take i) = us at ok hmem hn
        have cel : (G ++ [Ce.l (us.map il)])[G.length]? = some (Ce.l (us.map il)) := by simp
        have kG : KG (G ++ [Ce.l (us.map il)]) := KG.app hG _
        rcases List.eq_nil_or_concat us with rfl | ⟨ws, u, rfl⟩
        · refine ⟨⟨[some (.d (il l)), some (.c (G ++ [Ce.l ([] : List D)]).length), some (.d (.int v))], (G ++ [Ce.l []]) ++ [.l ([[v]].map il)]⟩, ?_, _, _, rfl, kG⟩
          simp [x_bnd, x_ret, x_stuck, x_gets, x_fVar, x_fC, x_fOp, x_fNil, x_fCons, x_fCall, x_fDat, x_fCell, x_fLst, x_fTup, x_fTest, x_fTru, x_fAnd, x_fOr, x_fNot, x_fIf, x_asB, x_fAndV, x_fOrV, x_fNotV, x_fIsN, x_fNotN, x_frz, x_frzs0, x_frzs1, x_fFrz, x_fSeq, x_fNext, x_fExpr, x_fRet, x_fRetN, x_fAsg, x_kName, x_fPar, x_kNil, x_kCons, x_kTup, x_kSub, x_setIt, x_needL, x_upC, x_fApp, x_fPopAt, x_fPop, x_fSl, x_fNoP, x_fP, x_fDef, x_callD, x_fPerm, x_fIsi, x_fNeg, x_asL, x_asLt, x_asT, x_fItL, x_fItT, x_orI, x_fRng1, x_fRng2, x_fEnum, x_fZip, x_fFor, x_forL0, x_fAug, x_fYes, x_lcT, x_fRstT, x_fRstV, x_ite, oIx, cutC, kl, Ce.lone, x_fCellV, x_fAppV, x_needV, x_upV, oIxV, x_fDNew, x_fSetdL, x_needW, x_setdL, x_fSrtS, x_fToM, x_fItems, x_fGet2, x_fDSub, x_needD, oGet2, oDSub, dictOf, keyD, oSortG, oSortP, orF, oCatT, oStr, x_fCount, x_fIndex, x_fRev, x_fPar3, datL, dat, oAdd, orO, oI, oInt, oPowW, oIC, oMod, cPos, oDiv, cDiv, endF, oAddI, oSub, oLt, oLe, oGt, oGe, oMul, oMulG, oRepD, oRep, oI2, oMin2, oMax2, oMinL, oMaxL, oAll, oAny, oBools, oIn, oNotIn, oInD, oInSg, x_fChain, intsA, cellsOf, picks, renum, putB, Ce.alive, oSl, slOr, oSlD, oSlL, oLenG, orA, oLen, tru, permL, oSumL, oCatD, datO, oCat, oList, oRepr, oTuple, DL.isNon, oSlT, oSlS, oAddS, oEqG, oNeG, oEqS, oNeS, oEq, oNe, x_fRaise, x_fFrzL, x_frzL, x_fItemsI, x_fValsI, x_fKeysI, x_fDNewM, x_fDPut, x_putC, x_fL6, dsOf, oSortK, intKeys, x_fDSub, x_fTupC, x_fFrzV, x_fSrtU, x_fRng3, x_fFrzN, oIxT, callT, endT, okE_nil, PyData.eqv, PyData.eqvAll]
        · rw [List.concat_eq_append] at ok hmem hn cel kG ⊢
          obtain ⟨y, ys, rfl, hys⟩ := hmem u (by simp)
          have hne : PyData.eqv (.list (List.map il ws ++ [il (y :: ys)])) (.list []) = false := by
            cases ws <;> simp [PyData.eqv, PyData.eqvAll]
          have ok' : okE (.list (List.map il ws ++ [il (y :: ys)])) = true := by simpa using ok
          have al := atI_last (ws.map il) (il (y :: ys))
          have cl := cut_last (ws.map il) (il (y :: ys))
          have a0 : atI (PyData.int y :: ys.map PyData.int) 0 = some (.int y) := by simp [atI, ixN]
          simp only [List.length_append, List.length_cons, List.length_nil] at hn
          have n1 : ws.length + 1 + 1 ≤ 1000000 := by omega
          have n2 : ws.length + 1 ≤ 1000000 := by omega
          have n3 : ys.length + 1 + 1 ≤ 1000000 := by omega
          have a1 : atI ((y :: ys).map PyData.int) 0 = some (.int y) := a0
          by_cases hyv : y ≤ v
          · refine ⟨⟨[some (.d (il l)), some (.c (G ++ [Ce.l ((ws ++ [y :: ys]).map il)]).length), some (.d (.int v))], (G ++ [Ce.l ((ws ++ [y :: ys]).map il)]) ++ [.l ((ws ++ [y :: ys] ++ [[v]]).map il)]⟩, ?_, _, some (.d (.int v)), ?_, kG⟩
            · simp [x_bnd, x_ret, x_stuck, x_gets, x_fVar, x_fC, x_fOp, x_fNil, x_fCons, x_fCall, x_fDat, x_fCell, x_fLst, x_fTup, x_fTest, x_fTru, x_fAnd, x_fOr, x_fNot, x_fIf, x_asB, x_fAndV, x_fOrV, x_fNotV, x_fIsN, x_fNotN, x_frz, x_frzs0, x_frzs1, x_fFrz, x_fSeq, x_fNext, x_fExpr, x_fRet, x_fRetN, x_fAsg, x_kName, x_fPar, x_kNil, x_kCons, x_kTup, x_kSub, x_setIt, x_needL, x_upC, x_fApp, x_fPopAt, x_fPop, x_fSl, x_fNoP, x_fP, x_fDef, x_callD, x_fPerm, x_fIsi, x_fNeg, x_asL, x_asLt, x_asT, x_fItL, x_fItT, x_orI, x_fRng1, x_fRng2, x_fEnum, x_fZip, x_fFor, x_forL0, x_fAug, x_fYes, x_lcT, x_fRstT, x_fRstV, x_ite, oIx, cutC, kl, Ce.lone, x_fCellV, x_fAppV, x_needV, x_upV, oIxV, x_fDNew, x_fSetdL, x_needW, x_setdL, x_fSrtS, x_fToM, x_fItems, x_fGet2, x_fDSub, x_needD, oGet2, oDSub, dictOf, keyD, oSortG, oSortP, orF, oCatT, oStr, x_fCount, x_fIndex, x_fRev, x_fPar3, datL, dat, oAdd, orO, oI, oInt, oPowW, oIC, oMod, cPos, oDiv, cDiv, endF, oAddI, oSub, oLt, oLe, oGt, oGe, oMul, oMulG, oRepD, oRep, oI2, oMin2, oMax2, oMinL, oMaxL, oAll, oAny, oBools, oIn, oNotIn, oInD, oInSg, x_fChain, intsA, cellsOf, picks, renum, putB, Ce.alive, oSl, slOr, oSlD, oSlL, oLenG, orA, oLen, tru, permL, oSumL, oCatD, datO, oCat, oList, oRepr, oTuple, DL.isNon, oSlT, oSlS, oAddS, oEqG, oNeG, oEqS, oNeS, oEq, oNe, x_fRaise, x_fFrzL, x_frzL, x_fItemsI, x_fValsI, x_fKeysI, x_fDNewM, x_fDPut, x_putC, x_fL6, dsOf, oSortK, intKeys, x_fDSub, x_fTupC, x_fFrzV, x_fSrtU, x_fRng3, x_fFrzN, oIxT, callT, endT, ok', hne, al, a0, a1, okE_nil, hyv, n1]
            · simp [ustep, hyv]
          · refine ⟨⟨[some (.d (il l)), some (.c (G ++ [Ce.l ((ws ++ [y :: ys]).map il)]).length), some (.d (.int v))], (G ++ [Ce.l ((ws ++ [y :: ys]).map il)]) ++ [.l ((ws ++ [y :: ys ++ [v]]).map il)]⟩, ?_, _, some (.d (.int v)), ?_, kG⟩
            · simp [x_bnd, x_ret, x_stuck, x_gets, x_fVar, x_fC, x_fOp, x_fNil, x_fCons, x_fCall, x_fDat, x_fCell, x_fLst, x_fTup, x_fTest, x_fTru, x_fAnd, x_fOr, x_fNot, x_fIf, x_asB, x_fAndV, x_fOrV, x_fNotV, x_fIsN, x_fNotN, x_frz, x_frzs0, x_frzs1, x_fFrz, x_fSeq, x_fNext, x_fExpr, x_fRet, x_fRetN, x_fAsg, x_kName, x_fPar, x_kNil, x_kCons, x_kTup, x_kSub, x_setIt, x_needL, x_upC, x_fApp, x_fPopAt, x_fPop, x_fSl, x_fNoP, x_fP, x_fDef, x_callD, x_fPerm, x_fIsi, x_fNeg, x_asL, x_asLt, x_asT, x_fItL, x_fItT, x_orI, x_fRng1, x_fRng2, x_fEnum, x_fZip, x_fFor, x_forL0, x_fAug, x_fYes, x_lcT, x_fRstT, x_fRstV, x_ite, oIx, cutC, kl, Ce.lone, x_fCellV, x_fAppV, x_needV, x_upV, oIxV, x_fDNew, x_fSetdL, x_needW, x_setdL, x_fSrtS, x_fToM, x_fItems, x_fGet2, x_fDSub, x_needD, oGet2, oDSub, dictOf, keyD, oSortG, oSortP, orF, oCatT, oStr, x_fCount, x_fIndex, x_fRev, x_fPar3, datL, dat, oAdd, orO, oI, oInt, oPowW, oIC, oMod, cPos, oDiv, cDiv, endF, oAddI, oSub, oLt, oLe, oGt, oGe, oMul, oMulG, oRepD, oRep, oI2, oMin2, oMax2, oMinL, oMaxL, oAll, oAny, oBools, oIn, oNotIn, oInD, oInSg, x_fChain, intsA, cellsOf, picks, renum, putB, Ce.alive, oSl, slOr, oSlD, oSlL, oLenG, orA, oLen, tru, permL, oSumL, oCatD, datO, oCat, oList, oRepr, oTuple, DL.isNon, oSlT, oSlS, oAddS, oEqG, oNeG, oEqS, oNeS, oEq, oNe, x_fRaise, x_fFrzL, x_frzL, x_fItemsI, x_fValsI, x_fKeysI, x_fDNewM, x_fDPut, x_putC, x_fL6, dsOf, oSortK, intKeys, x_fDSub, x_fTupC, x_fFrzV, x_fSrtU, x_fRng3, x_fFrzN, oIxT, callT, endT, ok', hne, al, cl, a0, a1, okE_nil, hyv, n2, n3]
            · simp [ustep, hyv])
    ⟨[some (.d (il l)), some (.c 0), none], [.l []]⟩ ⟨[], none, by simp [uts, prt_nil], fun c h => by cases h⟩
  rw [List.length_map, List.take_length] at hs
  subst hs
  have hfi : I0_units_of ⟨[some (.d (il l)), some (.c 0), none], [.l []]⟩ = .ok (l.map .int) ⟨[some (.d (il l)), some (.c 0), none], [.l []]⟩ := by simp [x_bnd, x_ret, x_stuck, x_gets, x_fVar, x_fC, x_fOp, x_fNil, x_fCons, x_fCall, x_fDat, x_fCell, x_fLst, x_fTup, x_fTest, x_fTru, x_fAnd, x_fOr, x_fNot, x_fIf, x_asB, x_fAndV, x_fOrV, x_fNotV, x_fIsN, x_fNotN, x_frz, x_frzs0, x_frzs1, x_fFrz, x_fSeq, x_fNext, x_fExpr, x_fRet, x_fRetN, x_fAsg, x_kName, x_fPar, x_kNil, x_kCons, x_kTup, x_kSub, x_setIt, x_needL, x_upC, x_fApp, x_fPopAt, x_fPop, x_fSl, x_fNoP, x_fP, x_fDef, x_callD, x_fPerm, x_fIsi, x_fNeg, x_asL, x_asLt, x_asT, x_fItL, x_fItT, x_orI, x_fRng1, x_fRng2, x_fEnum, x_fZip, x_fFor, x_forL0, x_fAug, x_fYes, x_lcT, x_fRstT, x_fRstV, x_ite, oIx, cutC, kl, Ce.lone, x_fCellV, x_fAppV, x_needV, x_upV, oIxV, x_fDNew, x_fSetdL, x_needW, x_setdL, x_fSrtS, x_fToM, x_fItems, x_fGet2, x_fDSub, x_needD, oGet2, oDSub, dictOf, keyD, oSortG, oSortP, orF, oCatT, oStr, x_fCount, x_fIndex, x_fRev, x_fPar3, datL, dat, oAdd, orO, oI, oInt, oPowW, oIC, oMod, cPos, oDiv, cDiv, endF, oAddI, oSub, oLt, oLe, oGt, oGe, oMul, oMulG, oRepD, oRep, oI2, oMin2, oMax2, oMinL, oMaxL, oAll, oAny, oBools, oIn, oNotIn, oInD, oInSg, x_fChain, intsA, cellsOf, picks, renum, putB, Ce.alive, oSl, slOr, oSlD, oSlL, oLenG, orA, oLen, tru, permL, oSumL, oCatD, datO, oCat, oList, oRepr, oTuple, DL.isNon, oSlT, oSlS, oAddS, oEqG, oNeG, oEqS, oNeS, oEq, oNe, x_fRaise, x_fFrzL, x_frzL, x_fItemsI, x_fValsI, x_fKeysI, x_fDNewM, x_fDPut, x_putC, x_fL6, dsOf, oSortK, intKeys, x_fDSub, x_fTupC, x_fFrzV, x_fSrtU, x_fRng3, x_fFrzN, oIxT, callT, endT]
  refine rt_body (v := .c G.length) rfl ?_
  simp only [List.map_cons, List.map_nil, List.cons_append, List.nil_append, List.replicate]
  unfold body_units_of
  refine rt_seq (s' := ⟨[some (.d (il l)), some (.c 0), none], [.l []]⟩) (by simp [x_bnd, x_ret, x_stuck, x_gets, x_fVar, x_fC, x_fOp, x_fNil, x_fCons, x_fCall, x_fDat, x_fCell, x_fLst, x_fTup, x_fTest, x_fTru, x_fAnd, x_fOr, x_fNot, x_fIf, x_asB, x_fAndV, x_fOrV, x_fNotV, x_fIsN, x_fNotN, x_frz, x_frzs0, x_frzs1, x_fFrz, x_fSeq, x_fNext, x_fExpr, x_fRet, x_fRetN, x_fAsg, x_kName, x_fPar, x_kNil, x_kCons, x_kTup, x_kSub, x_setIt, x_needL, x_upC, x_fApp, x_fPopAt, x_fPop, x_fSl, x_fNoP, x_fP, x_fDef, x_callD, x_fPerm, x_fIsi, x_fNeg, x_asL, x_asLt, x_asT, x_fItL, x_fItT, x_orI, x_fRng1, x_fRng2, x_fEnum, x_fZip, x_fFor, x_forL0, x_fAug, x_fYes, x_lcT, x_fRstT, x_fRstV, x_ite, oIx, cutC, kl, Ce.lone, x_fCellV, x_fAppV, x_needV, x_upV, oIxV, x_fDNew, x_fSetdL, x_needW, x_setdL, x_fSrtS, x_fToM, x_fItems, x_fGet2, x_fDSub, x_needD, oGet2, oDSub, dictOf, keyD, oSortG, oSortP, orF, oCatT, oStr, x_fCount, x_fIndex, x_fRev, x_fPar3, datL, dat, oAdd, orO, oI, oInt, oPowW, oIC, oMod, cPos, oDiv, cDiv, endF, oAddI, oSub, oLt, oLe, oGt, oGe, oMul, oMulG, oRepD, oRep, oI2, oMin2, oMax2, oMinL, oMaxL, oAll, oAny, oBools, oIn, oNotIn, oInD, oInSg, x_fChain, intsA, cellsOf, picks, renum, putB, Ce.alive, oSl, slOr, oSlD, oSlL, oLenG, orA, oLen, tru, permL, oSumL, oCatD, datO, oCat, oList, oRepr, oTuple, DL.isNon, oSlT, oSlS, oAddS, oEqG, oNeG, oEqS, oNeS, oEq, oNe, x_fRaise, x_fFrzL, x_frzL, x_fItemsI, x_fValsI, x_fKeysI, x_fDNewM, x_fDPut, x_putC, x_fL6, dsOf, oSortK, intKeys, x_fDSub, x_fTupC, x_fFrzV, x_fSrtU, x_fRng3, x_fFrzN, oIxT, callT, endT]) ?_
  refine rt_seq (fFor_ok hfi e1) (rt_ret (s' := ⟨[some (.d (il l)), some (.c G.length), a2], G ++ [.l ((uts l).map il)]⟩) rfl ?_)
  simp [endF, cutC]
/-! found_back -/
theorem wh_stop {c : M Bool} {b : M Fl} {s s1 : S} (h : c s = .ok false s1) : fWhile c b s = .ok .nx s1 := fWhile_eq (by simp [bnd, h]; rfl) (by intro z; cases z)
theorem wh_rt {c : M Bool} {b : M Fl} {s s1 s2 : S} {v : Vl} (h : c s = .ok true s1) (hb : b s1 = .ok (.rt v) s2) : fWhile c b s = .ok (.rt v) s2 := fWhile_eq (by simp [bnd, h, hb]) (by intro z; cases z)
theorem wh_step {c : M Bool} {b : M Fl} {s s1 s2 : S} {r : R Fl} (h : c s = .ok true s1) (hb : b s1 = .ok .nx s2) (hr : fWhile c b s2 = r) (hn : r ≠ .no) : fWhile c b s = r := fWhile_eq (by simp [bnd, h, hb, hr]) hn
theorem rem_il {u : List Int} : ∀ {us : List (List Int)}, u ∈ us → ∃ j, ((us.map il).findIdx? fun z => PyData.eqv z (il u)) = some j ∧ (us.map il).eraseIdx j = (us.erase u).map il
  | [], h => by cases h
  | w :: us, h => by
    rw [List.map_cons, List.findIdx?_cons, eqv_il]
    by_cases e : w = u
    · subst e
      exact ⟨0, by simp, by simp⟩
    · have hu : u ∈ us := by
        rcases List.mem_cons.mp h with z | z
        · exact absurd z.symm e
        · exact z
      obtain ⟨j, h1, h2⟩ := rem_il hu
      refine ⟨j + 1, by simp [e, h1], ?_⟩
      rw [List.eraseIdx_cons_succ, h2, List.erase_cons_tail (by simpa using e), List.map_cons]
theorem dpts_sub {ys xs : List D} (h : ∀ y ∈ ys, y ∈ xs) : dpts ys ≤ dpts xs := by
  induction ys with
  | nil => exact Nat.zero_le _
  | cons y ys ih =>
    rw [dpts]
    exact Nat.max_le.mpr ⟨dpts_mem (h y (List.mem_cons_self ..)), ih fun z hz => h z (List.mem_cons_of_mem _ hz)⟩
theorem dpts_nD : ∀ ns : List Nat, dpts (ns.map nD) = 0
  | [] => rfl
  | n :: ns => by rw [List.map_cons, dpts, dpts_nD ns]; rfl
theorem rem_at {i j : Nat} {f : M Vl} {sl : List (Option Vl)} {X : List D} {T : List Ce} {u : List Int} (hi : sl[i]? = some (some (.c 0))) (hf : f ⟨sl, .l X :: T⟩ = .ok (.d (il u)) ⟨sl, .l X :: T⟩) (h1 : X.findIdx? (fun z => PyData.eqv z (il u)) = some j) (k1 : okE (.list X) = true) (hl : X.length ≤ 1000000) :
    fExpr (fRem (fVar i) f) ⟨sl, .l X :: T⟩ = .ok .nx ⟨sl, .l (X.eraseIdx j) :: T⟩ := by
  have k2 := okE_il u
  have v2 : fVar i ⟨sl, .l X :: T⟩ = .ok (.c 0) ⟨sl, .l X :: T⟩ := by simp [fVar, hi]
  generalize il u = U at hf h1 k2
  simp only [x_fExpr, x_fRem, bnd, v2, needL, datL, dat, List.getElem?_cons_zero, hf, frz, upC, k1, k2, Bool.and_self, h1]
  simp [hl, DL.ret]
theorem app_at1 {i : Nat} {f : M Vl} {sl : List (Option Vl)} {c : Ce} {L : List D} {x : D} (hi : sl[i]? = some (some (.c 1))) (hf : f ⟨sl, [c, .l L]⟩ = .ok (.d x) ⟨sl, [c, .l L]⟩) (hL : L.length < 1000000) : fExpr (fApp (fVar i) f) ⟨sl, [c, .l L]⟩ = .ok .nx ⟨sl, [c, .l (L ++ [x])]⟩ := by
  have v2 : fVar i ⟨sl, [c, .l L]⟩ = .ok (.c 1) ⟨sl, [c, .l L]⟩ := by simp [fVar, hi]
  simp only [x_fExpr, x_fApp, bnd, v2, needL, datL, dat, List.getElem?_cons_zero, List.getElem?_cons_succ, hf, frz, upC, hL, if_true]
  simp [DL.ret]
abbrev fbS (v goal : List Int) (left : List (List Int)) (told : List Nat) (k : Nat) (a5 a6 : Option Vl) : S := ⟨[some (.d (il v)), some (.d (il goal)), some (.c 0), some (.c 1), some (.d (nD k)), a5, a6], [.l (left.map il), .l (told.map nD)]⟩
section
variable {v goal : List Int} {left : List (List Int)} {told : List Nat} {k : Nat} {a5 a6 : Option Vl}
theorem fb_at (hk : k < v.length) {sl : List (Option Vl)} {C : List Ce} (h0 : sl[0]? = some (some (.d (il v)))) (h4 : sl[4]? = some (some (.d (nD k)))) : fOp oIx (fVar 0) (fVar 4) ⟨sl, C⟩ = .ok (.d (.int (v.getD k 0))) ⟨sl, C⟩ :=
  ixl_at (f := fVar 0) (g := fVar 4) (s := ⟨sl, C⟩) (s1 := ⟨sl, C⟩) (s2 := ⟨sl, C⟩) (xs := v.map .int) (i := (k : Int)) (by simp [fVar, h0]) (by simp [fVar, h4, nD]) (at_nat hk)
theorem head_il {i : Nat} {u : List Int} {s : S} (hu : u ≠ []) (h : fVar i s = .ok (.d (il u)) s) : fOp oIx (fVar i) (fC (.int 0)) s = .ok (.d (.int (u.headD 0))) s := by
  cases u with
  | nil => exact absurd rfl hu
  | cons a r => exact ixl_at (g := fC (.int 0)) h rfl (by simp [atI, ixN])
theorem fb_fit (hk : k < v.length) (hl : left.length ≤ 1000) (hu : ∀ u ∈ left, u ≠ []) : fDat (fThaw 2 (fLc I0_found_back K0_found_back T0_found_back E0_found_back [6])) (fbS v goal left told k a5 a6) = .ok (.d (.list ((wd (v.getD k 0) left).map il))) (fbS v goal left told k a5 a6) := by
  have hI : I0_found_back (fbS v goal left told k a5 a6) = .ok (left.map il) ⟨(fbS v goal left told k a5 a6).sl, [.f (left.map il), .l (told.map nD)]⟩ := by
    show I0_found_back ⟨[some (.d (il v)), some (.d (il goal)), some (.c 0), some (.c 1), some (.d (nD k)), a5, a6], [.l (left.map il), .l (told.map nD)]⟩ = .ok (left.map il) ⟨[some (.d (il v)), some (.d (il goal)), some (.c 0), some (.c 1), some (.d (nD k)), a5, a6], [.f (left.map il), .l (told.map nD)]⟩
    generalize left.map il = X
    generalize told.map nD = T
    generalize il v = V
    generalize il goal = G
    simp [x_bnd, x_ret, x_stuck, x_gets, x_fVar, x_fC, x_fOp, x_fNil, x_fCons, x_fCall, x_fDat, x_fCell, x_fLst, x_fTup, x_fTest, x_fTru, x_fAnd, x_fOr, x_fNot, x_fIf, x_asB, x_fAndV, x_fOrV, x_fNotV, x_fIsN, x_fNotN, x_frz, x_frzs0, x_frzs1, x_fFrz, x_fSeq, x_fNext, x_fExpr, x_fRet, x_fRetN, x_fAsg, x_kName, x_fPar, x_kNil, x_kCons, x_kTup, x_kSub, x_setIt, x_needL, x_upC, x_fApp, x_fPopAt, x_fPop, x_fSl, x_fNoP, x_fP, x_fDef, x_callD, x_fPerm, x_fIsi, x_fNeg, x_asL, x_asLt, x_asT, x_fItL, x_fItT, x_orI, x_fRng1, x_fRng2, x_fEnum, x_fZip, x_fFor, x_forL0, x_fAug, x_fYes, x_lcT, x_fRstT, x_fRstV, x_ite, oIx, cutC, kl, Ce.lone, x_fCellV, x_fAppV, x_needV, x_upV, oIxV, x_fDNew, x_fSetdL, x_needW, x_setdL, x_fSrtS, x_fToM, x_fItems, x_fGet2, x_fDSub, x_needD, oGet2, oDSub, dictOf, keyD, oSortG, oSortP, orF, oCatT, oStr, x_fCount, x_fIndex, x_fRev, x_fPar3, datL, dat, oAdd, orO, oI, oInt, oPowW, oIC, oMod, cPos, oDiv, cDiv, endF, oAddI, oSub, oLt, oLe, oGt, oGe, oMul, oMulG, oRepD, oRep, oI2, oMin2, oMax2, oMinL, oMaxL, oAll, oAny, oBools, oIn, oNotIn, oInD, oInSg, x_fChain, intsA, cellsOf, picks, renum, putB, Ce.alive, oSl, slOr, oSlD, oSlL, oLenG, orA, oLen, tru, permL, oSumL, oCatD, datO, oCat, oList, oRepr, oTuple, DL.isNon, oSlT, oSlS, oAddS, oEqG, oNeG, oEqS, oNeS, oEq, oNe, x_fRaise, x_fFrzL, x_frzL, x_fItemsI, x_fValsI, x_fKeysI, x_fDNewM, x_fDPut, x_putC, x_fL6, dsOf, oSortK, intKeys, x_fDSub, x_fTupC, x_fFrzV, x_fSrtU, x_fRng3, x_fFrzN, oIxT, callT, endT]
  have hlc := fLc_ok (k := K0_found_back) (t := T0_found_back) (e := E0_found_back) (vs := [6]) (ys := (wd (v.getD k 0) left).map il) (s2 := ⟨wipeD (fbS v goal left told k a5 a6).sl [6], [.f (left.map il), .l (told.map nD)]⟩) hI (by rw [List.length_map]; omega) (by
    refine lcL_fl il (fun u => decide (u.head? = some (v.getD k 0))) il fun u hm => ?_
    have h6 : fVar 6 ⟨[some (.d (il v)), some (.d (il goal)), some (.c 0), some (.c 1), some (.d (nD k)), a5, some (.d (il u))], [.f (left.map il), .l (told.map nD)]⟩ = .ok (.d (il u)) ⟨[some (.d (il v)), some (.d (il goal)), some (.c 0), some (.c 1), some (.d (nD k)), a5, some (.d (il u))], [.f (left.map il), .l (told.map nD)]⟩ := rfl
    have t := test_at (op_ok (head_il (hu u hm) h6) (fb_at hk rfl rfl) (eq_ii2 _ _ _))
    have e : decide (u.headD 0 = v.getD k 0) = decide (u.head? = some (v.getD k 0)) := by
      cases u with
      | nil => exact absurd rfl (hu [] hm)
      | cons a r => simp
    rw [e] at t
    exact lcT_if_at (k := K0_found_back) (t := T0_found_back) (e := E0_found_back) (x := il u) (y := il u) (s1 := ⟨[some (.d (il v)), some (.d (il goal)), some (.c 0), some (.c 1), some (.d (nD k)), a5, some (.d (il u))], [.f (left.map il), .l (told.map nD)]⟩) rfl t rfl rfl)
  refine dat_ok (fThaw_ok (j := 0) (xs := left.map il) rfl rfl hlc rfl ?_ fun m c hm hc => ?_)
  · exact Nat.lt_succ_of_le (dpts_sub fun y hy => by
      obtain ⟨u, hu', rfl⟩ := List.mem_map.mp hy
      exact List.mem_map_of_mem (wd_mem.mp hu').1)
  · match m, hm, hc with
    | 0, hm, _ => exact absurd rfl hm
    | 1, _, hc =>
      have : c = .l (told.map nD) := (Option.some.inj hc).symm
      subst this
      simp [okT, dpts_nD]
    | m + 2, _, hc => cases hc
theorem fb_cond : C1_found_back (fbS v goal left told k a5 a6) = .ok (decide (k < v.length)) (fbS v goal left told k a5 a6) := by
  have l := len_at (f := fVar 0) (s := fbS v goal left told k a5 a6) (s1 := fbS v goal left told k a5 a6) (xs := v.map .int) rfl
  rw [List.length_map] at l
  have t := test_at (op_ok (o := oLt) (fa := fVar 4) (s := fbS v goal left told k a5 a6) (s1 := fbS v goal left told k a5 a6) (x := .d (.int (k : Int))) rfl l (show oLt (.d (.int (k : Int))) (.d (.int (v.length : Int))) _ = some (.d (.bool (decide ((k : Int) < (v.length : Int))))) by simp [oLt, oI]))
  have e : decide ((k : Int) < (v.length : Int)) = decide (k < v.length) := by simp
  rw [e] at t
  exact t
abbrev fbF (fit : List (List Int)) (v goal : List Int) (left : List (List Int)) (told : List Nat) (k : Nat) (a6 : Option Vl) : S := fbS v goal left told k (some (.d (.list (fit.map il)))) a6
theorem fb_none {fit : List (List Int)} : fTest (fOp oEqG (fVar 5) (fDat (fLst fNil))) (fbF fit v goal left told k a6) = .ok (decide (fit = [])) (fbF fit v goal left told k a6) := by
  have nil : fDat (fLst fNil) (fbF fit v goal left told k a6) = .ok (.d (.list (([] : List (List Int)).map il))) (fbF fit v goal left told k a6) := rfl
  exact test_at (op_ok (fa := fVar 5) (s := fbF fit v goal left told k a6) (s1 := fbF fit v goal left told k a6) rfl nil (eq_ll fit [] _))
theorem fb_first {u : List Int} {r : List (List Int)} : fOp oIx (fVar 5) (fC (.int 0)) (fbF (u :: r) v goal left told k a6) = .ok (.d (il u)) (fbF (u :: r) v goal left told k a6) :=
  ixl_at (f := fVar 5) (g := fC (.int 0)) (s := fbF (u :: r) v goal left told k a6) (s1 := fbF (u :: r) v goal left told k a6) (xs := (u :: r).map il) (i := 0) rfl rfl (by simp [atI, ixN])
theorem fb_len {u : List Int} {r : List (List Int)} : fCall oLenG (fCons (fOp oIx (fVar 5) (fC (.int 0))) fNil) (fbF (u :: r) v goal left told k a6) = .ok (.d (.int (u.length : Int))) (fbF (u :: r) v goal left told k a6) := by
  have := len_at (fb_first (v := v) (goal := goal) (left := left) (told := told) (k := k) (a6 := a6) (u := u) (r := r))
  rwa [List.length_map] at this
theorem fb_slice {u : List Int} {r : List (List Int)} (hv : v.length ≤ 1000) : fTest (fOp oNeG (fSl oSl (fVar 0) (fP (fVar 4)) (fP (fOp oAdd (fVar 4) (fCall oLenG (fCons (fOp oIx (fVar 5) (fC (.int 0))) fNil))))) (fOp oIx (fVar 5) (fC (.int 0)))) (fbF (u :: r) v goal left told k a6) =
    .ok (!decide ((v.drop k).take u.length = u)) (fbF (u :: r) v goal left told k a6) := by
  have a : fOp oAdd (fVar 4) (fCall oLenG (fCons (fOp oIx (fVar 5) (fC (.int 0))) fNil)) (fbF (u :: r) v goal left told k a6) = .ok (.d (.int ((k + u.length : Nat) : Int))) (fbF (u :: r) v goal left told k a6) := by
    refine op_ok (fa := fVar 4) (s := fbF (u :: r) v goal left told k a6) (s1 := fbF (u :: r) v goal left told k a6) (x := .d (.int (k : Int))) rfl fb_len ?_
    simp [oAdd, orO, oI, oAddI]
  have sl : fSl oSl (fVar 0) (fP (fVar 4)) (fP (fOp oAdd (fVar 4) (fCall oLenG (fCons (fOp oIx (fVar 5) (fC (.int 0))) fNil)))) (fbF (u :: r) v goal left told k a6) = .ok (.d (il ((v.drop k).take u.length))) (fbF (u :: r) v goal left told k a6) := by
    have p4 : fP (fVar 4) (fbF (u :: r) v goal left told k a6) = .ok (some (k : Int)) (fbF (u :: r) v goal left told k a6) := rfl
    have pa : fP (fOp oAdd (fVar 4) (fCall oLenG (fCons (fOp oIx (fVar 5) (fC (.int 0))) fNil))) (fbF (u :: r) v goal left told k a6) = .ok (some ((k + u.length : Nat) : Int)) (fbF (u :: r) v goal left told k a6) := by
      rw [x_fP]
      simp only [bnd, a, DL.ret]
    have v0 : fVar 0 (fbF (u :: r) v goal left told k a6) = .ok (.d (.list (v.map .int))) (fbF (u :: r) v goal left told k a6) := rfl
    have e : ((v.map PyData.int).take (k + u.length)).drop k = ((v.drop k).take u.length).map PyData.int := by
      rw [← List.map_take, ← List.map_drop, List.drop_take, Nat.add_sub_cancel_left]
    have hl : (v.map PyData.int).length ≤ 1000000 := by rw [List.length_map]; omega
    have c := cutM (v.map PyData.int) k (k + u.length)
    rw [e] at c
    rw [x_fSl]
    simp only [bnd, v0, p4, pa]
    generalize v.map PyData.int = V at hl c
    simp only [gets, oSl, slOr, oSlD, oSlL, datL, dat, Option.map_some, c]
  exact test_at (op_ok sl fb_first (ne_il2 _ _ _))
theorem fb_rem {u : List Int} {r : List (List Int)} (hl : left.length ≤ 1000) (hu : u ∈ left) : fExpr (fRem (fVar 2) (fOp oIx (fVar 5) (fC (.int 0)))) (fbF (u :: r) v goal left told k a6) = .ok .nx (fbF (u :: r) v goal (left.erase u) told k a6) := by
  obtain ⟨j, h1, h2⟩ := rem_il hu
  have := rem_at (i := 2) (f := fOp oIx (fVar 5) (fC (.int 0))) (sl := (fbF (u :: r) v goal left told k a6).sl) (X := left.map il) (T := [.l (told.map nD)]) (u := u) (j := j) rfl fb_first h1 (okE_ll left) (by rw [List.length_map]; omega)
  rw [h2] at this
  exact this
theorem fb_app {fit : List (List Int)} (ht : told.length ≤ 1000) : fExpr (fApp (fVar 3) (fVar 4)) (fbF fit v goal left told k a6) = .ok .nx (fbF fit v goal left (told ++ [k]) k a6) := by
  have := app_at1 (i := 3) (f := fVar 4) (sl := (fbF fit v goal left told k a6).sl) (c := .l (left.map il)) (L := told.map nD) (x := nD k) rfl rfl (by rw [List.length_map]; omega)
  rw [this]
  show R.ok Fl.nx (⟨_, _⟩ : DL.S) = R.ok Fl.nx (⟨_, [.l (left.map il), .l ((told ++ [k]).map nD)]⟩ : DL.S)
  rw [List.map_append]
  rfl
theorem fb_aug {u : List Int} {r : List (List Int)} : fAug 4 oAddI (fCall oLenG (fCons (fOp oIx (fVar 5) (fC (.int 0))) fNil)) (fbF (u :: r) v goal left told k a6) = .ok .nx (fbF (u :: r) v goal left told (k + u.length) a6) := by
  have h := fb_len (v := v) (goal := goal) (left := left) (told := told) (k := k) (a6 := a6) (u := u) (r := r)
  have v4 : fVar 4 (fbF (u :: r) v goal left told k a6) = .ok (.d (.int (k : Int))) (fbF (u :: r) v goal left told k a6) := rfl
  rw [x_fAug]
  simp only [bnd, v4, h, gets, oAddI, kName, DL.ret]
  have e : nD (k + u.length) = .int ((k : Int) + (u.length : Int)) := by rw [nD_def]; simp
  show R.ok Fl.nx (⟨_, _⟩ : DL.S) = R.ok Fl.nx (⟨_, _⟩ : DL.S)
  rw [e]
  rfl
end
theorem new_def {g : FD} {f : M Vl} {sl : List (Option Vl)} {C : List Ce} {x : D} {xs : List D} (h1 : f ⟨sl, C⟩ = .ok (.d x) ⟨sl, C⟩) (hg : g [.d x] [] = .ok (.c 0) [.l xs]) :
    fDef g (fCons f fNil) ⟨sl, C⟩ = .ok (.c C.length) ⟨sl, C ++ [.l xs]⟩ := by
  unfold fDef
  have c := cons_1 h1
  simp only [bnd, c]
  simp [callD, cellsOf, picks, renum, hg, putB]
/-! found_back, whole -/
theorem F_step {c : M Bool} {b tail : M Fl} {s s1 s2 s' : S} {fl : Fl} (h : c s = .ok true s1) (hb : b s1 = .ok .nx s2) (hF : fSeq (fWhile c b) tail s2 = .ok fl s') : fSeq (fWhile c b) tail s = .ok fl s' := by
  have hn : fWhile c b s2 ≠ .no := fun e => by
    simp only [fSeq, bnd, e] at hF
    cases hF
  have := wh_step h hb rfl hn
  simp only [fSeq, this] at hF ⊢
  exact hF
theorem F_rt {c : M Bool} {b tail : M Fl} {s s1 s2 : S} {v : Vl} (h : c s = .ok true s1) (hb : b s1 = .ok (.rt v) s2) : fSeq (fWhile c b) tail s = .ok (.rt v) s2 := by
  have := wh_rt h hb
  simp only [fSeq, bnd, this, DL.ret]
theorem F_stop {c : M Bool} {b tail : M Fl} {s s1 : S} {r : R Fl} (h : c s = .ok false s1) (ht : tail s1 = r) : fSeq (fWhile c b) tail s = r := by
  have := wh_stop (b := b) h
  simp only [fSeq, this, ht]
theorem seq_stop {f g : M Fl} {s s' : S} {v : Vl} (h : f s = .ok (.rt v) s') : fSeq f g s = .ok (.rt v) s' := by
  simp [fSeq, bnd, h, DL.ret]
theorem seq_to {f g : M Fl} {s s' : S} {r : R Fl} (h : f s = .ok .nx s') (k : g s' = r) : fSeq f g s = r := by
  simp [fSeq, bnd, h, k]
theorem if_no {t : M Bool} {f : M Fl} {s : S} (h : t s = .ok false s) : fIf t f fNext s = .ok .nx s := (if_f h).trans rfl
theorem ifret_yes {t : M Bool} {r : M Vl} {s s1 : S} {v : Vl} (h : t s = .ok true s) (hr : r s = .ok v s1) : (fIf t (fRet r) fNext) s = .ok (.rt v) s1 := (if_t h).trans (ret_at hr)
noncomputable abbrev fbT : M Fl := fRet (fIf (fTru (fVar 2)) (fVar 4) (fVar 3))
theorem found_loop {v goal : List Int} (hv : v.length ≤ 100) : ∀ (n : Nat) (left : List (List Int)) (k : Nat) (told : List Nat) (rest : List Int) (a5 a6 : Option Vl), rest = v.drop k → k ≤ v.length → rest.length < n → left.length ≤ 1000 → (∀ u ∈ left, u ≠ []) → told.length + rest.length ≤ 1000 →
    match fbk n left k rest with
    | .inl j => ∃ s', fSeq (fWhile C1_found_back B1_found_back) fbT (fbS v goal left told k a5 a6) = .ok (.rt (.d (nD j))) s'
    | .inr bs => ∃ s' c, fSeq (fWhile C1_found_back B1_found_back) fbT (fbS v goal left told k a5 a6) = .ok (.rt (.c 1)) s' ∧ s'.ce = [c, .l ((told ++ bs).map nD)]
  | 0, _, _, _, _, _, _, _, _, h, _, _, _ => absurd h (Nat.not_lt_zero _)
  | n + 1, left, k, told, [], a5, a6, hr, hk, _, _, _, _ => by
    have hkl : ¬ k < v.length := fun z => by
      have := congrArg List.length hr
      rw [List.length_drop, List.length_nil] at this
      omega
    have c := fb_cond (v := v) (goal := goal) (left := left) (told := told) (k := k) (a5 := a5) (a6 := a6)
    rw [decide_eq_false hkl] at c
    rw [fbk]
    cases left with
    | nil =>
      rw [if_pos rfl]
      refine ⟨fbS v goal [] told k a5 a6, .l [], F_stop c ?_, by rw [List.append_nil]; rfl⟩
      have h : fTru (fVar 2) (fbS v goal [] told k a5 a6) = .ok false (fbS v goal [] told k a5 a6) := rfl
      have h3 : fVar 3 (fbS v goal [] told k a5 a6) = .ok (.c 1) (fbS v goal [] told k a5 a6) := rfl
      exact ret_at ((ifV_f h).trans h3)
    | cons u us =>
      rw [if_neg (by simp)]
      refine ⟨fbS v goal (u :: us) told k a5 a6, F_stop c ?_⟩
      have h : fTru (fVar 2) (fbS v goal (u :: us) told k a5 a6) = .ok true (fbS v goal (u :: us) told k a5 a6) := rfl
      have h3 : fVar 4 (fbS v goal (u :: us) told k a5 a6) = .ok (.d (nD k)) (fbS v goal (u :: us) told k a5 a6) := rfl
      exact ret_at ((ifV_t h).trans h3)
  | n + 1, left, k, told, x :: xs, a5, a6, hr, hk, hn, hl, hu, ht => by
    have hkl : k < v.length := by
      have := congrArg List.length hr
      rw [List.length_drop, List.length_cons] at this
      omega
    have hx : v.getD k 0 = x := by
      have e := List.drop_eq_getElem_cons hkl
      rw [← hr] at e
      rw [List.getD_eq_getElem?_getD, List.getElem?_eq_getElem hkl]
      exact (List.cons.inj e).1.symm
    have c := fb_cond (v := v) (goal := goal) (left := left) (told := told) (k := k) (a5 := a5) (a6 := a6)
    rw [decide_eq_true hkl] at c
    have f := fb_fit (v := v) (goal := goal) (left := left) (told := told) (k := k) (a5 := a5) (a6 := a6) hkl hl hu
    rw [hx] at f
    have s1 := asg_ok (i := 5) f
    have n1 := fb_none (v := v) (goal := goal) (left := left) (told := told) (k := k) (a6 := a6) (fit := wd x left)
    rw [fbk]
    cases hw : wd x left with
    | nil =>
      rw [hw] at s1 n1
      exact ⟨_, F_rt c (seq_to s1 (seq_stop (ifret_yes (or_tt n1) rfl)))⟩
    | cons u r =>
      rw [hw] at s1 n1
      have hum := wd_mem.mp (hw ▸ List.mem_cons_self .. : u ∈ wd x left)
      have sl := fb_slice (v := v) (goal := goal) (left := left) (told := told) (k := k) (a6 := a6) (u := u) (r := r) (by omega)
      rw [← hr] at sl
      simp only
      by_cases he : (x :: xs).take u.length = u
      · rw [if_pos he]
        rw [decide_eq_true he] at sl
        have s2 := if_no (f := fRet (fVar 4)) (or_ff n1 sl)
        have s3 := fb_rem (v := v) (goal := goal) (told := told) (k := k) (a6 := a6) (u := u) (r := r) hl hum.1
        simp only [List.length_cons] at ht
        have s4 := fb_app (v := v) (goal := goal) (left := left.erase u) (told := told) (k := k) (a6 := a6) (fit := u :: r) (by omega)
        have s5 := fb_aug (v := v) (goal := goal) (left := left.erase u) (told := told ++ [k]) (k := k) (a6 := a6) (u := u) (r := r)
        have hb : B1_found_back (fbS v goal left told k a5 a6) = .ok .nx (fbS v goal (left.erase u) (told ++ [k]) (k + u.length) (some (.d (.list ((u :: r).map il)))) a6) := seq_to s1 (seq_to s2 (seq_to s3 (seq_to s4 s5)))
        have hup : 0 < u.length := List.length_pos_iff.mpr (hu u hum.1)
        have hul : u.length ≤ (x :: xs).length := by
          have := congrArg List.length he
          rw [List.length_take] at this
          omega
        have hdl : ((x :: xs).drop u.length).length + u.length = (x :: xs).length := by rw [List.length_drop]; omega
        have hvl := congrArg List.length hr
        rw [List.length_drop] at hvl
        simp only [List.length_cons] at hn hul hdl hvl
        have ih := found_loop (goal := goal) hv n (left.erase u) (k + u.length) (told ++ [k]) ((x :: xs).drop u.length) (some (.d (.list ((u :: r).map il)))) a6 (by rw [hr, List.drop_drop]) (by omega) (by omega) (Nat.le_trans (List.length_erase_le ..) hl) (fun w hw => hu w (List.mem_of_mem_erase hw)) (by rw [List.length_append, List.length_singleton]; omega)
        cases hf : fbk n (left.erase u) (k + u.length) ((x :: xs).drop u.length) with
        | inl j =>
          rw [hf] at ih
          obtain ⟨s', e⟩ := ih
          exact ⟨s', F_step c hb e⟩
        | inr bs =>
          rw [hf] at ih
          obtain ⟨s', c', e, e2⟩ := ih
          refine ⟨s', c', F_step c hb e, ?_⟩
          rw [e2, List.append_assoc]
          rfl
      · rw [if_neg he]
        rw [decide_eq_false he] at sl
        exact ⟨_, F_rt c (seq_to s1 (seq_stop (ifret_yes (or_ff n1 sl) rfl)))⟩
theorem found_ok {v goal : List Int} (hv : v.length ≤ 100) (hg : goal.length ≤ 1000) : g_found_back [.d (il v), .d (il goal)] [] = match fbk (v.length + 1) (uts goal) 0 v with
    | .inl j => .ok (.d (nD j)) []
    | .inr bs => .ok (.c 0) [.l (bs.map nD)] := by
  have ul := uts_len goal
  have lp := found_loop (v := v) (goal := goal) hv (v.length + 1) (uts goal) 0 [] v none none (by rw [List.drop_zero]) (Nat.zero_le _) (Nat.lt_succ_self _) (by omega) (fun u hu => (pk_uts hu).ne) (by simp; omega)
  have s1 : fAsg (fDef g_units_of (fCons (fVar 1) fNil)) (kName 2) ⟨[some (.d (il v)), some (.d (il goal)), none, none, none, none, none], []⟩ = .ok .nx ⟨[some (.d (il v)), some (.d (il goal)), some (.c 0), none, none, none, none], [.l ((uts goal).map il)]⟩ := asg_ok (new_def (C := []) (x := il goal) rfl (units_cell hg))
  have s2 : fAsg (fCell (fLst fNil)) (kName 3) ⟨[some (.d (il v)), some (.d (il goal)), some (.c 0), none, none, none, none], [.l ((uts goal).map il)]⟩ = .ok .nx ⟨[some (.d (il v)), some (.d (il goal)), some (.c 0), some (.c 1), none, none, none], [.l ((uts goal).map il), .l []]⟩ := by
    generalize (uts goal).map il = X
    generalize il v = V
    generalize il goal = G
    simp [x_bnd, x_ret, x_stuck, x_gets, x_fVar, x_fC, x_fOp, x_fNil, x_fCons, x_fCall, x_fDat, x_fCell, x_fLst, x_fTup, x_fTest, x_fTru, x_fAnd, x_fOr, x_fNot, x_fIf, x_asB, x_fAndV, x_fOrV, x_fNotV, x_fIsN, x_fNotN, x_frz, x_frzs0, x_frzs1, x_fFrz, x_fSeq, x_fNext, x_fExpr, x_fRet, x_fRetN, x_fAsg, x_kName, x_fPar, x_kNil, x_kCons, x_kTup, x_kSub, x_setIt, x_needL, x_upC, x_fApp, x_fPopAt, x_fPop, x_fSl, x_fNoP, x_fP, x_fDef, x_callD, x_fPerm, x_fIsi, x_fNeg, x_asL, x_asLt, x_asT, x_fItL, x_fItT, x_orI, x_fRng1, x_fRng2, x_fEnum, x_fZip, x_fFor, x_forL0, x_fAug, x_fYes, x_lcT, x_fRstT, x_fRstV, x_ite, oIx, cutC, kl, Ce.lone, x_fCellV, x_fAppV, x_needV, x_upV, oIxV, x_fDNew, x_fSetdL, x_needW, x_setdL, x_fSrtS, x_fToM, x_fItems, x_fGet2, x_fDSub, x_needD, oGet2, oDSub, dictOf, keyD, oSortG, oSortP, orF, oCatT, oStr, x_fCount, x_fIndex, x_fRev, x_fPar3, datL, dat, oAdd, orO, oI, oInt, oPowW, oIC, oMod, cPos, oDiv, cDiv, endF, oAddI, oSub, oLt, oLe, oGt, oGe, oMul, oMulG, oRepD, oRep, oI2, oMin2, oMax2, oMinL, oMaxL, oAll, oAny, oBools, oIn, oNotIn, oInD, oInSg, x_fChain, intsA, cellsOf, picks, renum, putB, Ce.alive, oSl, slOr, oSlD, oSlL, oLenG, orA, oLen, tru, permL, oSumL, oCatD, datO, oCat, oList, oRepr, oTuple, DL.isNon, oSlT, oSlS, oAddS, oEqG, oNeG, oEqS, oNeS, oEq, oNe, x_fRaise, x_fFrzL, x_frzL, x_fItemsI, x_fValsI, x_fKeysI, x_fDNewM, x_fDPut, x_putC, x_fL6, dsOf, oSortK, intKeys, x_fDSub, x_fTupC, x_fFrzV, x_fSrtU, x_fRng3, x_fFrzN, oIxT, callT, endT]
  have s3 : fAsg (fC (.int 0)) (kName 4) ⟨[some (.d (il v)), some (.d (il goal)), some (.c 0), some (.c 1), none, none, none], [.l ((uts goal).map il), .l []]⟩ = .ok .nx (fbS v goal (uts goal) [] 0 none none) := rfl
  cases hf : fbk (v.length + 1) (uts goal) 0 v with
  | inl j =>
    rw [hf] at lp
    obtain ⟨s', e⟩ := lp
    refine rt_body (v := .d (nD j)) rfl ?_
    simp only [List.map_cons, List.map_nil, List.cons_append, List.nil_append, List.replicate]
    unfold body_found_back
    refine rt_seq s1 (rt_seq s2 (rt_seq s3 ?_))
    rw [e]
    exact ⟨rfl, by simp [endF, cutC]⟩
  | inr bs =>
    rw [hf] at lp
    obtain ⟨s', c, e, e2⟩ := lp
    refine rt_body (v := .c 1) rfl ?_
    simp only [List.map_cons, List.map_nil, List.cons_append, List.nil_append, List.replicate]
    unfold body_found_back
    refine rt_seq s1 (rt_seq s2 (rt_seq s3 ?_))
    rw [e]
    refine ⟨rfl, ?_⟩
    rw [e2]
    simp [endF, cutC]
theorem def_ex1 {g : FD} {f : M (List Vl)} {s s1 : S} {x : D} {e : Ex} (hf : f s = .ok [.d x] s1) (hg : g [.d x] [] = .ex e []) : fDef g f s = .ex e s1 := by
  simp [x_fDef, x_bnd, hf, x_callD, cellsOf, picks, renum, hg, putB]
theorem mkF_ex {ar n : Nat} {body : M Fl} {xs : List Vl} {cs : List Ce} {e : Ex} {s : S} {sl : List (Option Vl)} (hx : xs.length = ar) (hsl : xs.map some ++ List.replicate (n - ar) none = sl) (h : body ⟨sl, cs⟩ = .ex e s) : mkF ar n body xs cs = .ex e (cutC cs.length s.ce) := by
  unfold mkF
  rw [if_pos hx, hsl, h]
theorem expr_at {f : M Vl} {s s1 : S} {x : Vl} (h : f s = .ok x s1) : fExpr f s = .ok .nx s1 := by
  simp only [x_fExpr, x_bnd, h, x_ret]
theorem expr_ex {f : M Vl} {s s1 : S} {e : Ex} (h : f s = .ex e s1) : fExpr f s = .ex e s1 := by
  simp only [x_fExpr, x_bnd, h]
theorem asg_ex {f : M Vl} {i : Nat} {s s1 : S} {e : Ex} (h : f s = .ex e s1) : fAsg f (kName i) s = .ex e s1 := by
  simp only [x_fAsg, x_bnd, h]
theorem seq_ex {f g : M Fl} {s s' : S} {e : Ex} (h : f s = .ex e s') : fSeq f g s = .ex e s' := by
  simp [fSeq, bnd, h]
theorem cons_3 {f g k : M Vl} {s s1 s2 s3 : S} {x y z : Vl} (h1 : f s = .ok x s1) (h2 : g s1 = .ok y s2) (h3 : k s2 = .ok z s3) : (fCons f (fCons g (fCons k fNil))) s = .ok [x, y, z] s3 := by
  simp only [x_fCons, x_bnd, h1, h2, h3, x_fNil, x_ret]
theorem new_def2 {g : FD} {f : M (List Vl)} {sl : List (Option Vl)} {C : List Ce} {x y : D} {xs : List D} (h1 : f ⟨sl, C⟩ = .ok [.d x, .d y] ⟨sl, C⟩) (hg : g [.d x, .d y] [] = .ok (.c 0) [.l xs]) : fDef g f ⟨sl, C⟩ = .ok (.c C.length) ⟨sl, C ++ [.l xs]⟩ := by
  unfold fDef
  simp only [bnd, h1]
  simp [callD, cellsOf, picks, renum, hg, putB]
theorem bounds_ok {bs : List Nat} (hv : v.length ≤ 100) (hg : goal.length ≤ 1000) (h : fbk (v.length + 1) (uts goal) 0 v = .inr bs) : g_bounds_of [.d (il v), .d (il goal)] [] = .ok (.c 0) [.l (bs.map nD)] := by
  have f := found_ok hv hg
  rw [h] at f
  have f' : g_found_back [.d (il v), .d (il goal)] [] = .ok (.c 0) [.l (bs.map nD)] := f
  have c := check_ok goal
  generalize il v = V at f' ⊢
  generalize il goal = G at f' c ⊢
  generalize bs.map nD = B at f' ⊢
  refine rt_body (v := .c 0) rfl ?_
  simp only [List.map_cons, List.map_nil, List.cons_append, List.nil_append, List.replicate]
  unfold body_bounds_of
  refine rt_seq (s' := ⟨[some (.d V), some (.d G), none], []⟩) (expr_at (def_at1 (cons_1 rfl) c)) ?_
  refine rt_seq (s' := ⟨[some (.d V), some (.d G), some (.c 0)], [.l B]⟩) (asg_ok (new_def2 (C := []) (cons_2 rfl rfl) f')) ?_
  refine rt_seq (s' := ⟨[some (.d V), some (.d G), some (.c 0)], [.l B]⟩) (by simp [x_bnd, x_ret, x_stuck, x_gets, x_fVar, x_fC, x_fOp, x_fNil, x_fCons, x_fCall, x_fDat, x_fCell, x_fLst, x_fTup, x_fTest, x_fTru, x_fAnd, x_fOr, x_fNot, x_fIf, x_asB, x_fAndV, x_fOrV, x_fNotV, x_fIsN, x_fNotN, x_frz, x_frzs0, x_frzs1, x_fFrz, x_fSeq, x_fNext, x_fExpr, x_fRet, x_fRetN, x_fAsg, x_kName, x_fPar, x_kNil, x_kCons, x_kTup, x_kSub, x_setIt, x_needL, x_upC, x_fApp, x_fPopAt, x_fPop, x_fSl, x_fNoP, x_fP, x_fDef, x_callD, x_fPerm, x_fIsi, x_fNeg, x_asL, x_asLt, x_asT, x_fItL, x_fItT, x_orI, x_fRng1, x_fRng2, x_fEnum, x_fZip, x_fFor, x_forL0, x_fAug, x_fYes, x_lcT, x_fRstT, x_fRstV, x_ite, oIx, cutC, kl, Ce.lone, x_fCellV, x_fAppV, x_needV, x_upV, oIxV, x_fDNew, x_fSetdL, x_needW, x_setdL, x_fSrtS, x_fToM, x_fItems, x_fGet2, x_fDSub, x_needD, oGet2, oDSub, dictOf, keyD, oSortG, oSortP, orF, oCatT, oStr, x_fCount, x_fIndex, x_fRev, x_fPar3, datL, dat, oAdd, orO, oI, oInt, oPowW, oIC, oMod, cPos, oDiv, cDiv, endF, oAddI, oSub, oLt, oLe, oGt, oGe, oMul, oMulG, oRepD, oRep, oI2, oMin2, oMax2, oMinL, oMaxL, oAll, oAny, oBools, oIn, oNotIn, oInD, oInSg, x_fChain, intsA, cellsOf, picks, renum, putB, Ce.alive, oSl, slOr, oSlD, oSlL, oLenG, orA, oLen, tru, permL, oSumL, oCatD, datO, oCat, oList, oRepr, oTuple, DL.isNon, oSlT, oSlS, oAddS, oEqG, oNeG, oEqS, oNeS, oEq, oNe, x_fRaise, x_fFrzL, x_frzL, x_fItemsI, x_fValsI, x_fKeysI, x_fDNewM, x_fDPut, x_putC, x_fL6, dsOf, oSortK, intKeys, x_fDSub, x_fTupC, x_fFrzV, x_fSrtU, x_fRng3, x_fFrzN, oIxT, callT, endT, tyVl, tyN, kb_ll]) ?_
  exact rt_ret (s' := ⟨[some (.d V), some (.d G), some (.c 0)], [.l B]⟩) rfl (by simp [endF, cutC])
theorem bounds_bad {x y : D} {e : Ex} (h : g_check_list [.d y] [] = .ex e []) : g_bounds_of [.d x, .d y] [] = .ex e [] := by
  refine mkF_ex (s := ⟨[some (.d x), some (.d y), none], []⟩) rfl rfl ?_
  unfold body_bounds_of
  exact seq_ex (expr_ex (def_ex1 (cons_1 rfl) h))
theorem next_at {v : D} {st st' : List D} {sl : List (Option Vl)} {T : List Ce} (h : g__law_next [.c 0] [.l st] = .ok (.d v) [.l st']) :
    fDef g__law_next (fCons (fVar 0) fNil) ⟨some (.c 0) :: sl, .l st :: T⟩ = .ok (.d v) ⟨some (.c 0) :: sl, .l st' :: T⟩ := by
  simp [x_bnd, x_ret, x_stuck, x_gets, x_fVar, x_fC, x_fOp, x_fNil, x_fCons, x_fCall, x_fDat, x_fCell, x_fLst, x_fTup, x_fTest, x_fTru, x_fAnd, x_fOr, x_fNot, x_fIf, x_asB, x_fAndV, x_fOrV, x_fNotV, x_fIsN, x_fNotN, x_frz, x_frzs0, x_frzs1, x_fFrz, x_fSeq, x_fNext, x_fExpr, x_fRet, x_fRetN, x_fAsg, x_kName, x_fPar, x_kNil, x_kCons, x_kTup, x_kSub, x_setIt, x_needL, x_upC, x_fApp, x_fPopAt, x_fPop, x_fSl, x_fNoP, x_fP, x_fDef, x_callD, x_fPerm, x_fIsi, x_fNeg, x_asL, x_asLt, x_asT, x_fItL, x_fItT, x_orI, x_fRng1, x_fRng2, x_fEnum, x_fZip, x_fFor, x_forL0, x_fAug, x_fYes, x_lcT, x_fRstT, x_fRstV, x_ite, oIx, cutC, kl, Ce.lone, x_fCellV, x_fAppV, x_needV, x_upV, oIxV, x_fDNew, x_fSetdL, x_needW, x_setdL, x_fSrtS, x_fToM, x_fItems, x_fGet2, x_fDSub, x_needD, oGet2, oDSub, dictOf, keyD, oSortG, oSortP, orF, oCatT, oStr, x_fCount, x_fIndex, x_fRev, x_fPar3, datL, dat, oAdd, orO, oI, oInt, oPowW, oIC, oMod, cPos, oDiv, cDiv, endF, oAddI, oSub, oLt, oLe, oGt, oGe, oMul, oMulG, oRepD, oRep, oI2, oMin2, oMax2, oMinL, oMaxL, oAll, oAny, oBools, oIn, oNotIn, oInD, oInSg, x_fChain, intsA, cellsOf, picks, renum, putB, Ce.alive, oSl, slOr, oSlD, oSlL, oLenG, orA, oLen, tru, permL, oSumL, oCatD, datO, oCat, oList, oRepr, oTuple, DL.isNon, oSlT, oSlS, oAddS, oEqG, oNeG, oEqS, oNeS, oEq, oNe, x_fRaise, x_fFrzL, x_frzL, x_fItemsI, x_fValsI, x_fKeysI, x_fDNewM, x_fDPut, x_putC, x_fL6, dsOf, oSortK, intKeys, x_fDSub, x_fTupC, x_fFrzV, x_fSrtU, x_fRng3, x_fFrzN, oIxT, callT, endT, x_callD, cellsOf, picks, Ce.lone, renum, h, putB, kl]
theorem mod_at {f g : M Vl} {s s1 s2 : S} {a b : Int} (h1 : f s = .ok (.d (.int a)) s1) (h2 : g s1 = .ok (.d (.int b)) s2) (hb : 0 < b) : fOp oMod f g s = .ok (.d (.int (a % b))) s2 := op_ok h1 h2 (by simp [oMod, oIC, cPos, hb])
theorem or_f {f g : M Bool} {s s1 : S} (h : f s = .ok false s1) : fOr f g s = g s1 := by simp only [x_fOr, x_bnd, h, Bool.false_eq_true, if_false]
theorem ret_at' {f : M Vl} {s s1 : S} {v : Vl} (h : f s = .ok v s1) : fRet f s = .ok (.rt v) s1 := by simp only [x_fRet, bnd, h, DL.ret]
theorem it_list {f : M Vl} {s : S} {xs : List D} (h : f s = .ok (.d (.list xs)) s) : orI (fItL f) (fItT f) s = .ok xs s := by
  simp [orI, fItL, bnd, h, x_frz, asL, DL.ret]
theorem turnK {k : Vl → M Unit} {b : M Fl} {s s1 : S} {x : Vl} {r : R Fl} (hk : k x s = .ok () s1) (hb : b s1 = r) : bnd (k x) (fun _ => b) s = r := by
  simp only [bnd, hk, hb]
/-! k75: what is refused, and how a lambda that is asked tells it -/
theorem kb_dl : kitB "dict" "list" = some false := by decide +kernel
abbrev badL (p : D) : Ex := ⟨"InvalidList", some ("place", p)⟩
/-- it is refused, with the place p -/
structure Rf (x p : D) : Prop where
  r : g_check_list [.d x] [] = .ex (badL p) []
/-- the second one is refused, the first one is not; or the first one is -/
def Rq (x y p : D) : Prop := Rf x p ∨ (g_check_list [.d x] [] = .ok (.d .none) [] ∧ Rf y p)
theorem rf_no {x : D} (hx : nolist x = true) : Rf x .none := ⟨check_no hx⟩
theorem rf_dict : Rf (.dict []) .none := ⟨by simp [g_check_list, mkF, body_check_list, x_bnd, x_ret, x_stuck, x_gets, x_fVar, x_fC, x_fOp, x_fNil, x_fCons, x_fCall, x_fDat, x_fCell, x_fLst, x_fTup, x_fTest, x_fTru, x_fAnd, x_fOr, x_fNot, x_fIf, x_asB, x_fAndV, x_fOrV, x_fNotV, x_fIsN, x_fNotN, x_frz, x_frzs0, x_frzs1, x_fFrz, x_fSeq, x_fNext, x_fExpr, x_fRet, x_fRetN, x_fAsg, x_kName, x_fPar, x_kNil, x_kCons, x_kTup, x_kSub, x_setIt, x_needL, x_upC, x_fApp, x_fPopAt, x_fPop, x_fSl, x_fNoP, x_fP, x_fDef, x_callD, x_fPerm, x_fIsi, x_fNeg, x_asL, x_asLt, x_asT, x_fItL, x_fItT, x_orI, x_fRng1, x_fRng2, x_fEnum, x_fZip, x_fFor, x_forL0, x_fAug, x_fYes, x_lcT, x_fRstT, x_fRstV, x_ite, oIx, cutC, kl, Ce.lone, x_fCellV, x_fAppV, x_needV, x_upV, oIxV, x_fDNew, x_fSetdL, x_needW, x_setdL, x_fSrtS, x_fToM, x_fItems, x_fGet2, x_fDSub, x_needD, oGet2, oDSub, dictOf, keyD, oSortG, oSortP, orF, oCatT, oStr, x_fCount, x_fIndex, x_fRev, x_fPar3, datL, dat, atI, ixN, oAdd, orO, oI, oInt, oPowW, oIC, oMod, cPos, oDiv, cDiv, endF, oAddI, oSub, oLt, oLe, oGt, oGe, oMul, oMulG, oRepD, oRep, oI2, oMin2, oMax2, oMinL, oMaxL, oAll, oAny, oBools, oIn, oNotIn, oInD, oInSg, x_fChain, intsA, cellsOf, picks, renum, putB, Ce.alive, oSl, slOr, oSlD, oSlL, oLenG, orA, oLen, tru, permL, oSumL, oCatD, datO, oCat, oList, oRepr, oTuple, DL.isNon, oSlT, oSlS, oAddS, oEqG, oNeG, oEqS, oNeS, oEq, oNe, x_fRaise, x_fFrzL, x_frzL, x_fItemsI, x_fValsI, x_fKeysI, x_fDNewM, x_fDPut, x_putC, x_fL6, dsOf, oSortK, intKeys, x_fDSub, x_fTupC, x_fFrzV, x_fSrtU, x_fRng3, x_fFrzN, oIxT, callT, endT, tyVl, tyN, kb_dl]⟩
theorem rf_bad (ns : List Int) {x : D} (rest : List D) (hx : odd x = true) : Rf (.list (ns.map .int ++ x :: rest)) (.int ns.length) := ⟨check_bad ns rest hx⟩
theorem def_x1 {g : FD} {f : M Vl} {s : S} {x : D} {e : Ex} (h1 : f s = .ok (.d x) s) (h : g [.d x] [] = .ex e []) : fDef g (fCons f fNil) s = .ex e s := by
  have c := cons_1 h1
  unfold fDef
  simp only [bnd, c]
  simp [callD, cellsOf, picks, renum, h, putB]
theorem def_o1 {g : FD} {f : M Vl} {s : S} {x z : D} (h1 : f s = .ok (.d x) s) (h : g [.d x] [] = .ok (.d z) []) : fDef g (fCons f fNil) s = .ok (.d z) s := by
  have c := cons_1 h1
  unfold fDef
  simp only [bnd, c]
  simp [callD, cellsOf, picks, renum, h, putB]
theorem def_x2' {g : FD} {f f2 : M Vl} {s : S} {x y : D} {e : Ex} (h1 : f s = .ok (.d x) s) (h2 : f2 s = .ok (.d y) s) (h : g [.d x, .d y] [] = .ex e []) : fDef g (fCons f (fCons f2 fNil)) s = .ex e s := by
  have c : fCons f (fCons f2 fNil) s = .ok [.d x, .d y] s := by simp only [fCons, bnd, h1, h2, fNil, DL.ret]
  unfold fDef
  simp only [bnd, c]
  simp [callD, cellsOf, picks, renum, h, putB]
theorem stop_x {f : M Vl} {s s' : S} {e : Ex} (h : f s = .ex e s') : fStop (fExpr f) s = .ex e s' := by
  simp only [fStop, fExpr, bnd, h]
theorem mkF_x {ar n : Nat} {body : M Fl} {xs : List Vl} {e : Ex} {sl : List (Option Vl)} (hx : xs.length = ar) (h : body ⟨xs.map some ++ List.replicate (n - ar) none, []⟩ = .ex e ⟨sl, []⟩) : mkF ar n body xs [] = .ex e [] := by
  unfold mkF
  rw [if_pos hx, h]
  rfl
section
variable {x y p : D}
theorem one_1 {n : Nat} (h : Rf x p) : mkF 1 n (fStop (fExpr (fDef g_check_list (fCons (fVar 0) fNil)))) [.d x] [] = .ex (badL p) [] :=
  mkF_x rfl (stop_x (def_x1 (f := fVar 0) (s := ⟨some (.d x) :: List.replicate (n - 1) none, []⟩) rfl h.r))
theorem one_2 {n : Nat} (h : Rf x p) : mkF 2 n (fStop (fExpr (fDef g_check_list (fCons (fVar 0) fNil)))) [.d x, .d y] [] = .ex (badL p) [] :=
  mkF_x rfl (stop_x (def_x1 (f := fVar 0) (s := ⟨some (.d x) :: some (.d y) :: List.replicate (n - 2) none, []⟩) rfl h.r))
theorem two_2 {n : Nat} (h : Rq x y p) : mkF 2 n (fSeq (fExpr (fDef g_check_list (fCons (fVar 0) fNil))) (fStop (fExpr (fDef g_check_list (fCons (fVar 1) fNil))))) [.d x, .d y] [] = .ex (badL p) [] := by
  refine mkF_x (sl := some (.d x) :: some (.d y) :: List.replicate (n - 2) none) rfl ?_
  show fSeq _ _ ⟨some (.d x) :: some (.d y) :: List.replicate (n - 2) none, []⟩ = _
  rcases h with h | ⟨h1, h⟩
  · have a := def_x1 (f := fVar 0) (s := ⟨some (.d x) :: some (.d y) :: List.replicate (n - 2) none, []⟩) rfl h.r
    simp only [fSeq, fExpr, bnd, a]
  · have a := def_o1 (f := fVar 0) (s := ⟨some (.d x) :: some (.d y) :: List.replicate (n - 2) none, []⟩) rfl h1
    have b := stop_x (def_x1 (f := fVar 1) (s := ⟨some (.d x) :: some (.d y) :: List.replicate (n - 2) none, []⟩) rfl h.r)
    simp only [fSeq, fExpr, bnd, a, DL.ret] at b ⊢
    exact b
theorem gen_1 {ok : Str → Bool} (hok : ok "InvalidList" = true) {n : Nat} {s : S} (h1 : (fVar 0) s = .ok (.d x) s) (h : Rf x p) : fListR ok (mkR 1 n (fStop (fExpr (fDef g_check_list (fCons (fVar 0) fNil))))) (fCons (fVar 0) fNil) s = .ex (badL p) s := by
  have a : mkR 1 n (fStop (fExpr (fDef g_check_list (fCons (fVar 0) fNil)))) [.d x] [] = .ex (badL p) [] := by
    have b := stop_x (def_x1 (f := fVar 0) (s := ⟨some (.d x) :: List.replicate (n - 1) none, []⟩) rfl h.r)
    unfold mkR
    rw [if_pos (show [Vl.d x].length = 1 from rfl)]
    show (match fStop (fExpr (fDef g_check_list (fCons (fVar 0) fNil))) ⟨some (.d x) :: List.replicate (n - 1) none, []⟩ with
      | .ex e s => FR.ex e (cutC 0 s.ce)
      | _ => .no) = _
    rw [b]
    rfl
  have c := cons_1 h1
  unfold fListR
  simp only [bnd, c]
  have d : callD (mkR 1 n (fStop (fExpr (fDef g_check_list (fCons (fVar 0) fNil))))) [.d x] s = .ex (badL p) s := by
    generalize mkR 1 n (fStop (fExpr (fDef g_check_list (fCons (fVar 0) fNil)))) = g at a
    simp [callD, cellsOf, picks, renum, a, putB]
  rw [d]
  simp only [hok]
  rfl
end
theorem fbk_self (v : List Int) : fbk (v.length + 1) (uts v) 0 v = .inr (offs 0 (uts v)) := by
  have hl : (uts v).length ≤ (uts v).flatten.length := by
    have hp : ∀ u ∈ uts v, u ≠ [] := fun u hu => (pk_uts hu).ne
    generalize uts v = ws at hp
    induction ws with
    | nil => simp
    | cons w ws ih =>
      have h0 := List.length_pos_iff.mpr (hp w (List.mem_cons_self ..))
      have := ih fun x hx => hp x (List.mem_cons_of_mem _ hx)
      simp only [List.length_cons, List.flatten_cons, List.length_append]
      omega
  rw [uts_flat] at hl
  have := fbk_all (uts v) (v.length + 1) 0 (uts v) (fun u hu => (pk_uts hu).ne) (fun u hu => (pk_uts hu).ne) (fun _ => rfl) (by omega)
  rw [uts_flat] at this
  exact this
/-- three lists, of which the good ones are the same one -/
inductive Rm (ns : List Int) (x y z p : D) : Prop
  | a (h : Rf x p)
  | b (e : x = il ns) (h : Rf y p)
  | c (e1 : x = il ns) (e2 : y = il ns) (h : Rf z p)
theorem stop_s {f : M Fl} {s s' : S} {e : Ex} (h : f s = .ex e s') : fStop f s = .ex e s' := by
  simp only [fStop, h]
theorem def_x2c {g : FD} {f f2 : M Vl} {s : S} {x y : D} {e : Ex} (h1 : f s = .ok (.d x) s) (h2 : f2 s = .ok (.d y) s) (h : g [.d x, .d y] [] = .ex e []) : fDef g (fCons f (fCons f2 fNil)) s = .ex e s := def_x2' h1 h2 h
theorem def_o2 {g : FD} {f f2 : M Vl} {s : S} {x y z : D} (h1 : f s = .ok (.d x) s) (h2 : f2 s = .ok (.d y) s) (h : g [.d x, .d y] [] = .ok (.d z) []) : fDef g (fCons f (fCons f2 fNil)) s = .ok (.d z) s := by
  have c : fCons f (fCons f2 fNil) s = .ok [.d x, .d y] s := by simp only [fCons, bnd, h1, h2, fNil, DL.ret]
  unfold fDef
  simp only [bnd, c]
  simp [callD, cellsOf, picks, renum, h, putB]
theorem def_x3' {g : FD} {f f2 f3 : M Vl} {s : S} {x y z : D} {e : Ex} (h1 : f s = .ok (.d x) s) (h2 : f2 s = .ok (.d y) s) (h3 : f3 s = .ok (.d z) s) (h : g [.d x, .d y, .d z] [] = .ex e []) : fDef g (fCons f (fCons f2 (fCons f3 fNil))) s = .ex e s := by
  have c : fCons f (fCons f2 (fCons f3 fNil)) s = .ok [.d x, .d y, .d z] s := by simp only [fCons, bnd, h1, h2, h3, fNil, DL.ret]
  unfold fDef
  simp only [bnd, c]
  simp [callD, cellsOf, picks, renum, h, putB]
section
variable {x y z p : D} {ns : List Int}
theorem via2 {g : FD} {n : Nat} {e : Ex} (h : g [.d x, .d y] [] = .ex e []) : mkF 2 n (fStop (fExpr (fDef g (fCons (fVar 0) (fCons (fVar 1) fNil))))) [.d x, .d y] [] = .ex e [] :=
  mkF_x (sl := some (.d x) :: some (.d y) :: List.replicate (n - 2) none) rfl (stop_x (def_x2c (f := fVar 0) (f2 := fVar 1) (s := ⟨some (.d x) :: some (.d y) :: List.replicate (n - 2) none, []⟩) rfl rfl h))
theorem cut_x (h : Rf x p) : g_check_cut [.d x, .d y] [] = .ex (badL p) [] := one_2 h
theorem two_x (h : Rq x y p) : g_check_two [.d x, .d y] [] = .ex (badL p) [] := by
  refine mkF_x (sl := [some (.d x), some (.d y)]) rfl ?_
  show fSeq _ _ ⟨[some (.d x), some (.d y)], []⟩ = _
  rcases h with h | ⟨h1, h⟩
  · exact seq_ex (expr_ex (def_x1 (f := fVar 0) rfl h.r))
  · exact seq_to (expr_at (def_o1 (f := fVar 0) rfl h1)) (expr_ex (def_x1 (f := fVar 1) rfl h.r))
theorem two_ok : g_check_two [.d (il ns), .d (il ns)] [] = .ok (.d .none) [] := by
  have c := check_ok ns
  generalize il ns = V at c
  have a : body_check_two ⟨[some (.d V), some (.d V)], []⟩ = .ok .nx ⟨[some (.d V), some (.d V)], []⟩ :=
    seq_to (expr_at (def_o1 (f := fVar 0) rfl c)) (expr_at (def_o1 (f := fVar 1) rfl c))
  show mkF 2 2 body_check_two [.d V, .d V] [] = _
  unfold mkF
  rw [if_pos (show [Vl.d V, Vl.d V].length = 2 from rfl)]
  show (match body_check_two ⟨[some (.d V), some (.d V)], []⟩ with
    | .ok .nx s => FR.ok (.d .none) (cutC 0 s.ce)
    | .ok (.rt v) s => endF 0 v s.ce
    | .ex e s => .ex e (cutC 0 s.ce)
    | _ => .no) = _
  rw [a]
  rfl
theorem joinx {n : Nat} (hn : ns.length ≤ 100) (h : Rm ns x y z p) : mkF 3 (n + 3) (fSeq (fExpr (fDef g_check_list (fCons (fVar 0) fNil))) (fSeq (fAsg (fDef g_bounds_of (fCons (fVar 0) (fCons (fVar 1) fNil))) (kName 3)) (fStop (fAsg (fDef g_bounds_of (fCons (fVar 0) (fCons (fVar 2) fNil))) (kName 4))))) [.d x, .d y, .d z] [] = .ex (badL p) [] := by
  cases h with
  | a h => exact mkF_x (sl := some (.d x) :: some (.d y) :: some (.d z) :: List.replicate n none) rfl (seq_ex (expr_ex (def_x1 (f := fVar 0) (s := ⟨some (.d x) :: some (.d y) :: some (.d z) :: List.replicate n none, []⟩) rfl h.r)))
  | b e h =>
    have b := bounds_bad (x := il ns) h.r
    have c := check_ok ns
    rw [← e] at b c
    refine mkF_x (sl := some (.d x) :: some (.d y) :: some (.d z) :: List.replicate n none) rfl ?_
    show fSeq _ _ ⟨some (.d x) :: some (.d y) :: some (.d z) :: List.replicate n none, []⟩ = _
    exact seq_to (expr_at (def_o1 (f := fVar 0) rfl c)) (seq_ex (asg_ex (def_x2c (f := fVar 0) (f2 := fVar 1) rfl rfl b)))
  | c e1 e2 h =>
    have b := bounds_bad (x := il ns) h.r
    have c := check_ok ns
    have d := bounds_ok hn (by omega) (fbk_self ns)
    have e3 := e2
    rw [← e1] at e3 b c d
    generalize (offs 0 (uts ns)).map nD = L at d
    have d' : g_bounds_of [.d x, .d y] [] = .ok (.c 0) [.l L] := by rw [e3]; exact d
    refine (mkF_ex (sl := some (.d x) :: some (.d y) :: some (.d z) :: List.replicate n none) (s := ⟨(some (.d x) :: some (.d y) :: some (.d z) :: List.replicate n none).set 3 (some (.c 0)), [.l L]⟩) rfl rfl ?_).trans rfl
    refine seq_to (expr_at (def_o1 (f := fVar 0) rfl c)) (seq_to (asg_ok (new_def2 (C := []) (cons_2 (x := .d x) (y := .d y) rfl rfl) d')) (stop_s (asg_ex ?_)))
    refine def_x2c (f := fVar 0) (f2 := fVar 2) ?_ ?_ b
    · cases n <;> rfl
    · cases n <;> rfl
theorem both_x (hn : ns.length ≤ 100) (h : Rm ns x y z p) : g_both [.d x, .d y, .d z] [] = .ex (badL p) [] := joinx (n := 3) hn h
theorem either_x (hn : ns.length ≤ 100) (h : Rm ns x y z p) : g_either [.d x, .d y, .d z] [] = .ex (badL p) [] := joinx (n := 2) hn h
theorem median_x (h : Rm ns x y z p) : g_median [.d x, .d y, .d z] [] = .ex (badL p) [] := by
  refine mkF_x (sl := [some (.d x), some (.d y), some (.d z)]) rfl ?_
  show fSeq _ _ ⟨[some (.d x), some (.d y), some (.d z)], []⟩ = _
  cases h with
  | a h => exact seq_ex (expr_ex (def_x2c (f := fVar 0) (f2 := fVar 1) rfl rfl (two_x (.inl h))))
  | b e h => exact seq_ex (expr_ex (def_x2c (f := fVar 0) (f2 := fVar 1) rfl rfl (two_x (.inr ⟨by rw [e]; exact check_ok ns, h⟩))))
  | c e1 e2 h => exact seq_to (expr_at (def_o2 (f := fVar 0) (f2 := fVar 1) rfl rfl (by rw [e1, e2]; exact two_ok))) (stop_x (def_x1 (f := fVar 2) rfl h.r))
theorem three_x (h : Rm ns x y z p) : g_three_way [.d x, .d y, .d z] [] = .ex (badL p) [] := by
  refine mkF_x (sl := [some (.d x), some (.d y), some (.d z), none, none, none, none, none, none]) rfl ?_
  show fSeq _ _ ⟨[some (.d x), some (.d y), some (.d z), none, none, none, none, none, none], []⟩ = _
  cases h with
  | a h => exact seq_ex (expr_ex (def_x1 (f := fVar 0) rfl h.r))
  | b e h => exact seq_to (expr_at (def_o1 (f := fVar 0) rfl (by rw [e]; exact check_ok ns))) (stop_x (def_x2c (f := fVar 1) (f2 := fVar 2) rfl rfl (two_x (.inl h))))
  | c e1 e2 h => exact seq_to (expr_at (def_o1 (f := fVar 0) rfl (by rw [e1]; exact check_ok ns))) (stop_x (def_x2c (f := fVar 1) (f2 := fVar 2) rfl rfl (two_x (.inr ⟨by rw [e2]; exact check_ok ns, h⟩))))
theorem of_x (h : Rf x p) : gX g_check_list [.d x] [] = .ex (badL p) [] := by
  unfold gX
  rw [h.r]
end
theorem ask_of {t : Th} {z : LamD × M Vl} {s : S} {n : Nat} {e : Ex} {s' : S} (h0 : s.sl[0]? = some (some (.c n))) (hc : s.ce[n]? = some (.th t)) (hz : tabF_[t.k]? = some z) (hq : t.q = z.1.q0 ++ "<lambda>" ∧ t.N = z.1.N ∧ t.ar = z.1.ar ∧ t.e = z.1.e ∧ t.sc = z.1.sc) (hr : z.2 ⟨t.cap.map fun x => x.map Vl.d, []⟩ = .ex e s') : fAskT 0 tabF_ s = .ex e s := by
  unfold fAskT
  simp only [h0, hc, hz]
  rw [if_pos hq, hr]
/-- this lambda, asked, is refused with p -/
structure Tells (t : Th) (p : D) : Prop where
  a : ∀ (s : S) (n : Nat), s.sl[0]? = some (some (.c n)) → s.ce[n]? = some (.th t) → fAskT 0 tabF_ s = .ex (badL p) s
def thS (x : D) : List Th := thL q__law_single N__law_single [some x, none] 0 (lamAt s__law_single 0 :: [lamAt s__law_single 1, lamAt s__law_single 2, lamAt s__law_single 3, lamAt s__law_single 4, lamAt s__law_single 5, lamAt s__law_single 6, lamAt s__law_single 7, lamAt s__law_single 8, lamAt s__law_single 9, lamAt s__law_single 10, lamAt s__law_single 11, lamAt s__law_single 12])
def thM (x y z : D) : List Th := thL q__law_more N__law_more [some x, some y, some z, none] 13 (lamAt s__law_more 0 :: [lamAt s__law_more 1, lamAt s__law_more 2, lamAt s__law_more 3])
def thT (x y : D) : List Th := thL q__law_back N__law_back [some x, some y, none] 17 (lamAt s__law_back 0 :: [lamAt s__law_back 1, lamAt s__law_back 2, lamAt s__law_back 3, lamAt s__law_back 4, lamAt s__law_back 5, lamAt s__law_back 6, lamAt s__law_back 7, lamAt s__law_back 8, lamAt s__law_back 9, lamAt s__law_back 10])
theorem thS_tells {x p : D} (h : Rf x p) : ∀ t ∈ thS x, Tells t p := fun t ht => by
  have v0 : (fVar 0) ⟨[some (.d x), none], []⟩ = .ok (.d x) ⟨[some (.d x), none], []⟩ := rfl
  have w : ∀ c : D, (fC c) ⟨[some (.d x), none], []⟩ = .ok (.d c) ⟨[some (.d x), none], []⟩ := fun _ => rfl
  simp only [thS, thL, List.mem_cons, List.not_mem_nil, or_false] at ht
  rcases ht with rfl | rfl | rfl | rfl | rfl | rfl | rfl | rfl | rfl | rfl | rfl | rfl | rfl
  · exact ⟨fun s n h0 hc => ask_of (z := (ld0__law_single, L0__law_single)) h0 hc rfl ⟨rfl, rfl, rfl, rfl, rfl⟩ (def_x2c (s := ⟨[some (.d x), none], []⟩) v0 (w _) (via2 (cut_x h)))⟩
  · exact ⟨fun s n h0 hc => ask_of (z := (ld1__law_single, L1__law_single)) h0 hc rfl ⟨rfl, rfl, rfl, rfl, rfl⟩ (def_x2c (s := ⟨[some (.d x), none], []⟩) v0 (w _) (via2 (cut_x h)))⟩
  · exact ⟨fun s n h0 hc => ask_of (z := (ld2__law_single, L2__law_single)) h0 hc rfl ⟨rfl, rfl, rfl, rfl, rfl⟩ (def_x2c (s := ⟨[some (.d x), none], []⟩) v0 (w _) (via2 (cut_x h)))⟩
  · exact ⟨fun s n h0 hc => ask_of (z := (ld3__law_single, L3__law_single)) h0 hc rfl ⟨rfl, rfl, rfl, rfl, rfl⟩ (def_x1 (s := ⟨[some (.d x), none], []⟩) v0 (one_1 h))⟩
  · exact ⟨fun s n h0 hc => ask_of (z := (ld4__law_single, L4__law_single)) h0 hc rfl ⟨rfl, rfl, rfl, rfl, rfl⟩ (def_x1 (s := ⟨[some (.d x), none], []⟩) v0 (one_1 h))⟩
  · exact ⟨fun s n h0 hc => ask_of (z := (ld5__law_single, L5__law_single)) h0 hc rfl ⟨rfl, rfl, rfl, rfl, rfl⟩ (gen_1 (s := ⟨[some (.d x), none], []⟩) rfl v0 h)⟩
  · exact ⟨fun s n h0 hc => ask_of (z := (ld6__law_single, L6__law_single)) h0 hc rfl ⟨rfl, rfl, rfl, rfl, rfl⟩ (def_x1 (s := ⟨[some (.d x), none], []⟩) v0 (one_1 h))⟩
  · exact ⟨fun s n h0 hc => ask_of (z := (ld7__law_single, L7__law_single)) h0 hc rfl ⟨rfl, rfl, rfl, rfl, rfl⟩ (def_x1 (s := ⟨[some (.d x), none], []⟩) v0 (one_1 h))⟩
  · exact ⟨fun s n h0 hc => ask_of (z := (ld8__law_single, L8__law_single)) h0 hc rfl ⟨rfl, rfl, rfl, rfl, rfl⟩ (gen_1 (s := ⟨[some (.d x), none], []⟩) rfl v0 h)⟩
  · exact ⟨fun s n h0 hc => ask_of (z := (ld9__law_single, L9__law_single)) h0 hc rfl ⟨rfl, rfl, rfl, rfl, rfl⟩ (def_x1 (s := ⟨[some (.d x), none], []⟩) v0 (one_1 h))⟩
  · exact ⟨fun s n h0 hc => ask_of (z := (ld10__law_single, L10__law_single)) h0 hc rfl ⟨rfl, rfl, rfl, rfl, rfl⟩ (def_x1 (s := ⟨[some (.d x), none], []⟩) v0 (of_x h))⟩
  · exact ⟨fun s n h0 hc => ask_of (z := (ld11__law_single, L11__law_single)) h0 hc rfl ⟨rfl, rfl, rfl, rfl, rfl⟩ (def_x1 (s := ⟨[some (.d x), none], []⟩) v0 (one_1 h))⟩
  · exact ⟨fun s n h0 hc => ask_of (z := (ld12__law_single, L12__law_single)) h0 hc rfl ⟨rfl, rfl, rfl, rfl, rfl⟩ (def_x1 (s := ⟨[some (.d x), none], []⟩) v0 (one_1 h))⟩
theorem thM_tells {x y z p : D} {ns : List Int} (hn : ns.length ≤ 100) (h : Rm ns x y z p) : ∀ t ∈ thM x y z, Tells t p := fun t ht => by
  have v0 : (fVar 0) ⟨[some (.d x), some (.d y), some (.d z), none], []⟩ = .ok (.d x) ⟨[some (.d x), some (.d y), some (.d z), none], []⟩ := rfl
  have v1 : (fVar 1) ⟨[some (.d x), some (.d y), some (.d z), none], []⟩ = .ok (.d y) ⟨[some (.d x), some (.d y), some (.d z), none], []⟩ := rfl
  have v2 : (fVar 2) ⟨[some (.d x), some (.d y), some (.d z), none], []⟩ = .ok (.d z) ⟨[some (.d x), some (.d y), some (.d z), none], []⟩ := rfl
  have w : ∀ c : D, (fC c) ⟨[some (.d x), some (.d y), some (.d z), none], []⟩ = .ok (.d c) ⟨[some (.d x), some (.d y), some (.d z), none], []⟩ := fun _ => rfl
  simp only [thM, thL, List.mem_cons, List.not_mem_nil, or_false] at ht
  rcases ht with rfl | rfl | rfl | rfl
  · exact ⟨fun s n h0 hc => ask_of (z := (ld0__law_more, L0__law_more)) h0 hc rfl ⟨rfl, rfl, rfl, rfl, rfl⟩ (def_x3' (s := ⟨[some (.d x), some (.d y), some (.d z), none], []⟩) v0 v1 v2 (both_x hn h))⟩
  · exact ⟨fun s n h0 hc => ask_of (z := (ld1__law_more, L1__law_more)) h0 hc rfl ⟨rfl, rfl, rfl, rfl, rfl⟩ (def_x3' (s := ⟨[some (.d x), some (.d y), some (.d z), none], []⟩) v0 v1 v2 (either_x hn h))⟩
  · exact ⟨fun s n h0 hc => ask_of (z := (ld2__law_more, L2__law_more)) h0 hc rfl ⟨rfl, rfl, rfl, rfl, rfl⟩ (def_x3' (s := ⟨[some (.d x), some (.d y), some (.d z), none], []⟩) v0 v1 v2 (median_x h))⟩
  · exact ⟨fun s n h0 hc => ask_of (z := (ld3__law_more, L3__law_more)) h0 hc rfl ⟨rfl, rfl, rfl, rfl, rfl⟩ (def_x3' (s := ⟨[some (.d x), some (.d y), some (.d z), none], []⟩) v0 v1 v2 (three_x h))⟩
theorem thT_tells {x y p : D} (h : Rq x y p) : ∀ t ∈ thT x y, Tells t p := fun t ht => by
  have v0 : (fVar 0) ⟨[some (.d x), some (.d y), none], []⟩ = .ok (.d x) ⟨[some (.d x), some (.d y), none], []⟩ := rfl
  have v1 : (fVar 1) ⟨[some (.d x), some (.d y), none], []⟩ = .ok (.d y) ⟨[some (.d x), some (.d y), none], []⟩ := rfl
  have w : ∀ c : D, (fC c) ⟨[some (.d x), some (.d y), none], []⟩ = .ok (.d c) ⟨[some (.d x), some (.d y), none], []⟩ := fun _ => rfl
  simp only [thT, thL, List.mem_cons, List.not_mem_nil, or_false] at ht
  rcases ht with rfl | rfl | rfl | rfl | rfl | rfl | rfl | rfl | rfl | rfl | rfl
  · exact ⟨fun s n h0 hc => ask_of (z := (ld0__law_back, L0__law_back)) h0 hc rfl ⟨rfl, rfl, rfl, rfl, rfl⟩ (def_x2c (s := ⟨[some (.d x), some (.d y), none], []⟩) v0 v1 (two_2 h))⟩
  · exact ⟨fun s n h0 hc => ask_of (z := (ld1__law_back, L1__law_back)) h0 hc rfl ⟨rfl, rfl, rfl, rfl, rfl⟩ (def_x2c (s := ⟨[some (.d x), some (.d y), none], []⟩) v0 v1 (via2 (two_x h)))⟩
  · exact ⟨fun s n h0 hc => ask_of (z := (ld2__law_back, L2__law_back)) h0 hc rfl ⟨rfl, rfl, rfl, rfl, rfl⟩ (def_x2c (s := ⟨[some (.d x), some (.d y), none], []⟩) v0 v1 (via2 (two_x h)))⟩
  · exact ⟨fun s n h0 hc => ask_of (z := (ld3__law_back, L3__law_back)) h0 hc rfl ⟨rfl, rfl, rfl, rfl, rfl⟩ (def_x2c (s := ⟨[some (.d x), some (.d y), none], []⟩) v0 v1 (via2 (two_x h)))⟩
  · exact ⟨fun s n h0 hc => ask_of (z := (ld4__law_back, L4__law_back)) h0 hc rfl ⟨rfl, rfl, rfl, rfl, rfl⟩ (def_x2c (s := ⟨[some (.d x), some (.d y), none], []⟩) v0 v1 (via2 (two_x h)))⟩
  · exact ⟨fun s n h0 hc => ask_of (z := (ld5__law_back, L5__law_back)) h0 hc rfl ⟨rfl, rfl, rfl, rfl, rfl⟩ (def_x2c (s := ⟨[some (.d x), some (.d y), none], []⟩) v0 v1 (via2 (two_x h)))⟩
  · exact ⟨fun s n h0 hc => ask_of (z := (ld6__law_back, L6__law_back)) h0 hc rfl ⟨rfl, rfl, rfl, rfl, rfl⟩ (def_x2c (s := ⟨[some (.d x), some (.d y), none], []⟩) v0 v1 (via2 (two_x h)))⟩
  · exact ⟨fun s n h0 hc => ask_of (z := (ld7__law_back, L7__law_back)) h0 hc rfl ⟨rfl, rfl, rfl, rfl, rfl⟩ (def_x2c (s := ⟨[some (.d x), some (.d y), none], []⟩) v0 v1 (via2 (two_x h)))⟩
  · exact ⟨fun s n h0 hc => ask_of (z := (ld8__law_back, L8__law_back)) h0 hc rfl ⟨rfl, rfl, rfl, rfl, rfl⟩ (def_x2c (s := ⟨[some (.d x), some (.d y), none], []⟩) v0 v1 (via2 (two_x h)))⟩
  · exact ⟨fun s n h0 hc => ask_of (z := (ld9__law_back, L9__law_back)) h0 hc rfl ⟨rfl, rfl, rfl, rfl, rfl⟩ (def_x2c (s := ⟨[some (.d x), some (.d y), none], []⟩) v0 v1 (via2 (two_x h)))⟩
  · exact ⟨fun s n h0 hc => ask_of (z := (ld10__law_back, L10__law_back)) h0 hc rfl ⟨rfl, rfl, rfl, rfl, rfl⟩ (def_x2c (s := ⟨[some (.d x), some (.d y), none], []⟩) v0 v1 (via2 (two_x h)))⟩
/-! the def that asks -/
section
variable {t : Th} {cs : List Ce} {p : D}
theorem isE_at {b : Bool} {s : S} {j : Nat} (h1 : s.sl[1]? = some (some (.c j))) (h2 : s.ce[j]? = some (.x (badL p))) : fIsE (ansL [("NoneType", false)] [("InvalidList", b)]) (fVar 1) s = .ok (.d (.bool b)) s := by
  simp [fIsE, bnd, fVar, h1, gets, tyE, h2, ansL, csL_self, badL]
theorem atX_at {s : S} {j : Nat} (h1 : s.sl[1]? = some (some (.c j))) (h2 : s.ce[j]? = some (.x (badL p))) : fAtX "place" ["InvalidList"] (fVar 1) s = .ok (.d p) s := by
  simp [fAtX, bnd, fVar, h1, gets, h2, badL]
theorem datL_c {s : S} {j : Nat} {xs : List D} (h : s.ce[j]? = some (.l xs)) : datL s (.c j) = some xs := by
  simp [datL, dat, h]
theorem cat_at {f g : M Vl} {s : S} {j : Nat} {xs ys : List D} (hf : f s = .ok (.c j) s) (h : s.ce[j]? = some (.l xs)) (hg : g s = .ok (.d (.list ys)) s) (hl : xs.length + ys.length ≤ 1000000) : fOp oCat f g s = .ok (xs ++ ys) s := by
  have a := datL_c h
  have b : datL s (.d (.list ys)) = some ys := rfl
  simp [fOp, bnd, hf, hg, gets, oCat, a, b, hl]
theorem apd_at {fo fa : M Vl} {s : S} {j : Nat} {xs : List D} {d : D} (hf : fo s = .ok (.c j) s) (h : s.ce[j]? = some (.l xs)) (hg : fa s = .ok (.d d) s) (hl : xs.length < 1000000) : fApp fo fa s = .ok (.d .none) { s with ce := s.ce.set j (.l (xs ++ [d])) } := by
  have a := datL_c h
  simp [fApp, bnd, hf, needL, a, hg, frz, upC, h, hl]
theorem in_at {s : S} {j : Nat} {xs : List D} {a : D} (h : s.ce[j]? = some (.l xs)) (h1 : okE a = true) (h2 : okE (.list xs) = true) : oIn (.d a) (.c j) s = some (.d (.bool (xs.any fun z => PyData.eqv z a))) := by
  have b : dat s (.c j) = some (.list xs) := by simp [dat, h]
  have c : dat s (.d a) = some a := rfl
  simp [oIn, orO, oInD, b, c, h1, h2]
theorem cell_at {f : M (List D)} {s : S} {xs : List D} (h : f s = .ok xs s) : fCell f s = .ok (.c s.ce.length) ⟨s.sl, s.ce ++ [.l xs]⟩ := by
  simp [fCell, bnd, h]
abbrev KT (n : Nat) (a1 a3 : Option Vl) (E : List Ce) : S := ⟨[some (.c n), a1, none, a3], E⟩
abbrev FI : M Vl := fIsE (ansL [("NoneType", false)] [("InvalidList", false)]) (fVar 1)
abbrev FB : D := .bool false
theorem one_at {f : M Vl} {s : S} {x : D} (hf : f s = .ok (.d x) s) : fDat (fLst (fCons f fNil)) s = .ok (.d (.list [x])) s := by
  have c := cons_1 hf
  simp [fDat, fLst, bnd, c, frzs, frz, DL.ret]
theorem two_lst {f g : M Vl} {s : S} {x y : D} (h1 : f s = .ok (.d x) s) (h2 : g s = .ok (.d y) s) : fLst (fCons f (fCons g fNil)) s = .ok [x, y] s := by
  simp [fLst, fCons, bnd, h1, h2, fNil, DL.ret, frzs, frz]
theorem kstep {n m xa j : Nat} {E E' : List Ce} {L ys : List D} {f : M Vl} (hL : E[j]? = some (.l L)) (hd : f (KT n (some (.c xa)) (some (.c j)) E) = .ok (.d (.list ys)) (KT n (some (.c xa)) (some (.c j)) E)) (hl : L.length + ys.length ≤ 1000000) (hm : E.length = m) (hE : E ++ [.l (L ++ ys)] = E') :
    fAsg (fCell (fOp oCat (fVar 3) f)) (kName 3) (KT n (some (.c xa)) (some (.c j)) E) = .ok .nx (KT n (some (.c xa)) (some (.c m)) E') := by
  subst hm hE
  exact asg_ok (cell_at (cat_at rfl hL hd hl))
theorem at_C (C R : List Ce) (k : Nat) : (C ++ R)[C.length + k]? = R[k]? := by
  rw [List.getElem?_append_right (by omega)]
  congr 1
  omega
theorem at_0 (C R : List Ce) : (C ++ R)[C.length]? = R[0]? := at_C C R 0
theorem kept_ok (hp : okR p = true) (ask : Tells t p) : ∃ E, g__law_kept [.c cs.length] (cs ++ [.th t]) = .ok (.d (.str p.shown)) (cs ++ .th t :: E) := by
  have hC : (cs ++ [Ce.th t])[cs.length]? = some (.th t) := at_0 cs [.th t]
  generalize hCC : cs ++ [Ce.th t] = C at hC
  have a := ask.a (KT cs.length (some (.d .none)) none C) cs.length rfl hC
  have e2 : fTry (csL [("InvalidList", true)]) 2 1 (fExpr (fAskT 0 tabF_)) (KT cs.length (some (.d .none)) none C) = .ok .nx (KT cs.length (some (.c C.length)) none (C ++ [.x (badL p)])) := by
    have b : fExpr (fAskT 0 tabF_) (KT cs.length (some (.d .none)) none C) = .ex (badL p) (KT cs.length (some (.d .none)) none C) := by simp only [fExpr, bnd, a]
    rw [x_fTry_ex (e := badL p) (s' := KT cs.length (some (.d .none)) none C) _ b (csL_self _ _ _)]
    rfl
  have is : ∀ (b : Bool) (a3 : Option Vl) (R : List Ce), fIsE (ansL [("NoneType", false)] [("InvalidList", b)]) (fVar 1) (KT cs.length (some (.c C.length)) a3 (C ++ .x (badL p) :: R)) = .ok (.d (.bool b)) (KT cs.length (some (.c C.length)) a3 (C ++ .x (badL p) :: R)) := fun b a3 R =>
    isE_at (p := p) rfl (at_0 C _)
  have e3 : fAsg (fCell (fLst (fCons FI (fCons FI fNil)))) (kName 3) (KT cs.length (some (.c C.length)) none (C ++ [.x (badL p)])) = .ok .nx (KT cs.length (some (.c C.length)) (some (.c (C.length + 1))) (C ++ [.x (badL p), .l [FB, FB]])) := by
    have := asg_ok (i := 3) (cell_at (two_lst (is false none []) (is false none [])))
    simp only [List.length_append, List.length_cons, List.length_nil, Nat.zero_add, List.append_assoc, List.cons_append, List.nil_append] at this
    exact this
  have e4 := kstep (m := C.length + 2) (E' := C ++ [.x (badL p), .l [FB, FB], .l [FB, FB, FB]]) (at_C C [.x (badL p), .l [FB, FB]] 1) (one_at (is false (some (.c (C.length + 1))) [.l [FB, FB]])) (by decide) (by simp) (by simp)
  have e5 := kstep (m := C.length + 3) (E' := C ++ [.x (badL p), .l [FB, FB], .l [FB, FB, FB], .l [FB, FB, FB, FB, FB]]) (at_C C [.x (badL p), .l [FB, FB], .l [FB, FB, FB]] 2) (dlst2_at (is false (some (.c (C.length + 2))) [.l [FB, FB], .l [FB, FB, FB]]) (is false (some (.c (C.length + 2))) [.l [FB, FB], .l [FB, FB, FB]])) (by decide) (by simp) (by simp)
  have e6 := kstep (m := C.length + 4) (E' := C ++ [.x (badL p), .l [FB, FB], .l [FB, FB, FB], .l [FB, FB, FB, FB, FB], .l [FB, FB, FB, FB, FB, FB]]) (at_C C [.x (badL p), .l [FB, FB], .l [FB, FB, FB], .l [FB, FB, FB, FB, FB]] 3) (one_at (is false (some (.c (C.length + 3))) [.l [FB, FB], .l [FB, FB, FB], .l [FB, FB, FB, FB, FB]])) (by decide) (by simp) (by simp)
  have e7 : fExpr (fApp (fVar 3) FI) (KT cs.length (some (.c C.length)) (some (.c (C.length + 4))) (C ++ [.x (badL p), .l [FB, FB], .l [FB, FB, FB], .l [FB, FB, FB, FB, FB], .l [FB, FB, FB, FB, FB, FB]])) = .ok .nx (KT cs.length (some (.c C.length)) (some (.c (C.length + 4))) (C ++ [.x (badL p), .l [FB, FB], .l [FB, FB, FB], .l [FB, FB, FB, FB, FB], .l [FB, FB, FB, FB, FB, FB, FB]])) := by
    refine expr_at (x := .d .none) ?_
    have g := apd_at (fo := fVar 3) (s := KT cs.length (some (.c C.length)) (some (.c (C.length + 4))) (C ++ [.x (badL p), .l [FB, FB], .l [FB, FB, FB], .l [FB, FB, FB, FB, FB], .l [FB, FB, FB, FB, FB, FB]])) rfl (at_C C _ 4) (is false (some (.c (C.length + 4))) [.l [FB, FB], .l [FB, FB, FB], .l [FB, FB, FB, FB, FB], .l [FB, FB, FB, FB, FB, FB]]) (by decide)
    refine g.trans ?_
    refine congrArg (fun z => R.ok (Vl.d .none) (KT cs.length (some (.c C.length)) (some (.c (C.length + 4))) z)) ?_
    show (C ++ _).set (C.length + 4) _ = _
    rw [List.set_append_right _ _ (by omega), show C.length + 4 - C.length = 4 by omega]
    rfl
  have l7 := at_C C [.x (badL p), .l [FB, FB], .l [FB, FB, FB], .l [FB, FB, FB, FB, FB], .l [FB, FB, FB, FB, FB, FB, FB]] 4
  have i7 := is true (some (.c (C.length + 4))) [.l [FB, FB], .l [FB, FB, FB], .l [FB, FB, FB, FB, FB], .l [FB, FB, FB, FB, FB, FB, FB]]
  have x7 := at_0 C [.x (badL p), .l [FB, FB], .l [FB, FB, FB], .l [FB, FB, FB, FB, FB], .l [FB, FB, FB, FB, FB, FB, FB]]
  generalize hX : C ++ [Ce.x (badL p), .l [FB, FB], .l [FB, FB, FB], .l [FB, FB, FB, FB, FB], .l [FB, FB, FB, FB, FB, FB, FB]] = X at e7 l7 i7 x7
  have n7 : fNot (fTru (fIsE (ansL [("NoneType", false)] [("InvalidList", true)]) (fVar 1))) (KT cs.length (some (.c C.length)) (some (.c (C.length + 4))) X) = .ok false (KT cs.length (some (.c C.length)) (some (.c (C.length + 4))) X) := by
    simp only [fNot, x_fTru, bnd, i7, gets, tru]
    rfl
  have t7 : fTest (fOp oIn (fC (.bool true)) (fVar 3)) (KT cs.length (some (.c C.length)) (some (.c (C.length + 4))) X) = .ok false (KT cs.length (some (.c C.length)) (some (.c (C.length + 4))) X) := by
    refine test_ok (op_ok rfl rfl ?_)
    exact in_at (s := KT cs.length (some (.c C.length)) (some (.c (C.length + 4))) X) l7 (by decide +kernel) (by decide +kernel)
  have e8 : (fIf (fOr (fTest (fOp oIn (fC (.bool true)) (fVar 3))) (fOr (fNot (fTru (fIsE (ansL [("NoneType", false)] [("InvalidList", true)]) (fVar 1)))) (fNot (fTru (fIsE (ansL [("NoneType", false)] [("InvalidList", true)]) (fVar 1)))))) (fRet (fC (.str "other"))) fNext) (KT cs.length (some (.c C.length)) (some (.c (C.length + 4))) X) = .ok .nx (KT cs.length (some (.c C.length)) (some (.c (C.length + 4))) X) :=
    (if_f ((or_f t7).trans ((or_f n7).trans n7))).trans rfl
  have e9 : fRet (fCall oRepr (fCons (fAtX "place" ["InvalidList"] (fVar 1)) fNil)) (KT cs.length (some (.c C.length)) (some (.c (C.length + 4))) X) = .ok (.rt (.d (.str p.shown))) (KT cs.length (some (.c C.length)) (some (.c (C.length + 4))) X) :=
    ret_at' (call1_at (o := oRepr) (atX_at rfl x7) (by simp [oRepr, dat, hp]))
  have key : body__law_kept ⟨[some (.c cs.length), none, none, none], C⟩ = .ok (.rt (.d (.str p.shown))) (KT cs.length (some (.c C.length)) (some (.c (C.length + 4))) X) := by
    unfold body__law_kept
    exact seq_to rfl (seq_to e2 (seq_to e3 (seq_to e4 (seq_to e5 (seq_to e6 (seq_to e7 (seq_to e8 e9)))))))
  refine ⟨[.x (badL p), .l [FB, FB], .l [FB, FB, FB], .l [FB, FB, FB, FB, FB], .l [FB, FB, FB, FB, FB, FB, FB]], ?_⟩
  show mkA 1 4 body__law_kept [.c cs.length] C = _
  unfold mkA
  rw [if_pos (show [Vl.c cs.length].length = 1 from rfl)]
  show (match body__law_kept ⟨[some (.c cs.length), none, none, none], C⟩ with
    | .ok .nx s => FR.ok (.d .none) s.ce
    | .ok (.rt v) s => .ok v s.ce
    | .ex e s => .ex e s.ce
    | _ => .no) = _
  rw [key]
  show FR.ok _ X = _
  rw [← hX, ← hCC]
  simp
end
/-! k75: the law's right -/
abbrev tT (th : Str → Addr) : List Ce := [.tb (th "_law_single") q__law_single, .tb (th "_law_more") q__law_more, .tb (th "_law_back") q__law_back]
def AllT (F : List Ce) : Prop := ∀ c ∈ F, kl c = c
theorem AllT.app {F G : List Ce} (h : AllT F) (k : AllT G) : AllT (F ++ G) := fun c hc => by
  rcases List.mem_append.mp hc with q | q
  · exact h c q
  · exact k c q
theorem allT_nil : AllT [] := fun _ h => by cases h
theorem allT_one (t : List Th) : AllT [.tl t] := fun c hc => by rw [List.mem_singleton.mp hc]; rfl
theorem allT_f (xs : List D) : AllT [.f xs] := fun c hc => by rw [List.mem_singleton.mp hc]; rfl
abbrev CS (th : Str → Addr) (st : List D) (F : List Ce) : List Ce := .l st :: (tT th ++ F)
theorem cs_kl {th : Str → Addr} {st : List D} {F : List Ce} (h : AllT F) : (CS th st F).map kl = CS th st F := by
  have a : F.map kl = F := (List.map_congr_left fun c hc => h c hc).trans (List.map_id F)
  show kl (.l st) :: (kl _ :: kl _ :: kl _ :: F.map kl) = _
  rw [a]
  rfl
theorem cs_cut {th : Str → Addr} {st : List D} {F : List Ce} (h : AllT F) (E : List Ce) : cutC (CS th st F).length (CS th st F ++ E) = CS th st F := by
  unfold cutC
  rw [List.take_left]
  exact cs_kl h
theorem cs_app {th : Str → Addr} {st : List D} {F E : List Ce} : CS th st F ++ E = CS th st (F ++ E) := by simp
/-- an expression for a list of lambdas, each told with p -/
structure Gv (th : Str → Addr) (st : List D) (sl : List (Option Vl)) (F0 : List Ce) (p : D) (n : Nat) (f : M Vl) : Prop where
  a : ∀ F1, AllT F1 → ∃ i ts F2, AllT F2 ∧ f ⟨sl, CS th st (F0 ++ F1)⟩ = .ok (.c i) ⟨sl, CS th st (F0 ++ (F1 ++ F2))⟩ ∧ (CS th st (F0 ++ (F1 ++ F2)))[i]? = some (.tl ts) ∧ (∀ t ∈ ts, Tells t p) ∧ ts.length ≤ n
section
variable {th : Str → Addr} {st : List D} {sl : List (Option Vl)} {F0 : List Ce} {p : D}
theorem last_get (C : List Ce) (c : Ce) : (C ++ [c])[C.length]? = some c := by rw [List.getElem?_append_right (Nat.le_refl _), Nat.sub_self]; rfl
theorem gv_new {f : M Vl} {ts : List Th} (h : ∀ F, f ⟨sl, CS th st F⟩ = .ok (.c (CS th st F).length) ⟨sl, CS th st F ++ [.tl ts]⟩) (ht : ∀ t ∈ ts, Tells t p) (hn : ts.length ≤ 20) : Gv th st sl F0 p 20 f := ⟨fun F1 _ => by
  refine ⟨(CS th st (F0 ++ F1)).length, ts, [.tl ts], allT_one ts, ?_, ?_, ht, hn⟩
  · rw [h, cs_app, List.append_assoc]
  · rw [← List.append_assoc, ← cs_app]
    exact last_get _ _⟩
theorem gv_var {i j : Nat} {ts : List Th} {n : Nat} (hs : sl[i]? = some (some (.c j))) (hc : (CS th st F0)[j]? = some (.tl ts)) (ht : ∀ t ∈ ts, Tells t p) (hn : ts.length ≤ n) : Gv th st sl F0 p n (fVar i) := ⟨fun F1 _ => by
  refine ⟨j, ts, [], allT_nil, ?_, ?_, ht, hn⟩
  · rw [List.append_nil]
    simp [fVar, hs]
  · rw [← cs_app, List.getElem?_append_left (List.getElem?_eq_some_iff.mp hc).1]
    exact hc⟩
theorem gv_cat {f g : M Vl} {n m : Nat} (hf : Gv th st sl F0 p n f) (hg : Gv th st sl F0 p m g) (hl : n + m ≤ 1000000) : Gv th st sl F0 p (n + m) (fCatT f g) := ⟨fun F1 h1 => by
  obtain ⟨i, ts, F2, k1, e1, c1, t1, n1⟩ := hf.a F1 h1
  obtain ⟨j, us, F3, k2, e2, c2, t2, n2⟩ := hg.a (F1 ++ F2) (h1.app k1)
  have c1' : (CS th st (F0 ++ (F1 ++ F2 ++ F3)))[i]? = some (.tl ts) := by
    rw [← List.append_assoc F0, ← cs_app, List.getElem?_append_left (List.getElem?_eq_some_iff.mp c1).1]
    exact c1
  have e := fCatT_at e1 e2 c1' c2 (by omega)
  refine ⟨(CS th st (F0 ++ (F1 ++ F2 ++ F3))).length, ts ++ us, F2 ++ (F3 ++ [.tl (ts ++ us)]), k1.app (k2.app (allT_one _)), ?_, ?_, fun t ht => ?_, by rw [List.length_append]; omega⟩
  · rw [e]
    show R.ok _ (⟨sl, CS th st (F0 ++ (F1 ++ F2 ++ F3)) ++ [.tl (ts ++ us)]⟩ : S) = _
    rw [cs_app]
    simp only [List.append_assoc]
  · have := last_get (CS th st (F0 ++ (F1 ++ F2 ++ F3))) (.tl (ts ++ us))
    rw [cs_app] at this
    simp only [List.append_assoc] at this ⊢
    exact this
  · rcases List.mem_append.mp ht with q | q
    · exact t1 t q
    · exact t2 t q⟩
theorem gv_asg {f : M Vl} {n k : Nat} (h : Gv th st sl F0 p n f) : ∃ i ts F2, AllT F2 ∧ fAsg f (kName k) ⟨sl, CS th st F0⟩ = .ok .nx ⟨sl.set k (some (.c i)), CS th st (F0 ++ F2)⟩ ∧ (CS th st (F0 ++ F2))[i]? = some (.tl ts) ∧ (∀ t ∈ ts, Tells t p) ∧ ts.length ≤ n := by
  obtain ⟨i, ts, F2, k1, e1, c1, t1, n1⟩ := h.a [] allT_nil
  rw [List.append_nil, List.nil_append] at e1
  rw [List.nil_append] at c1
  exact ⟨i, ts, F2, k1, asg_ok e1, c1, t1, n1⟩
theorem gMk_1 {P : Addr} {q : Str} {N : List Str} {k0 : Nat} {ls : List (Arguments × Expr × Scope)} {x : D} {C : List Ce} (hC : Ce.tb P q ∈ C) : gMk P q N 1 k0 ls [.d x] C = .ok (.c C.length) (C ++ [.tl (thL q N (datas (some (.d x) :: List.replicate (N.length - 1) none)) k0 ls)]) := by
  unfold gMk
  rw [if_pos ⟨hC, rfl, fun y hy => ⟨x, List.mem_singleton.mp hy⟩⟩]
  rfl
theorem gMk_2 {P : Addr} {q : Str} {N : List Str} {k0 : Nat} {ls : List (Arguments × Expr × Scope)} {x y : D} {C : List Ce} (hC : Ce.tb P q ∈ C) : gMk P q N 2 k0 ls [.d x, .d y] C = .ok (.c C.length) (C ++ [.tl (thL q N (datas (some (.d x) :: some (.d y) :: List.replicate (N.length - 2) none)) k0 ls)]) := by
  unfold gMk
  rw [if_pos ⟨hC, rfl, fun z hz => by
    simp only [List.mem_cons, List.not_mem_nil, or_false] at hz
    rcases hz with rfl | rfl
    · exact ⟨x, rfl⟩
    · exact ⟨y, rfl⟩⟩]
  rfl
theorem gv_single {f : M Vl} {x : D} (hf : ∀ F, f ⟨sl, CS th st F⟩ = .ok (.d x) ⟨sl, CS th st F⟩) (h : Rf x p) : Gv th st sl F0 p 20 (fDefA (g__law_single th) (fCons f fNil)) := by
  refine gv_new (ts := thS x) (fun F => ?_) (thS_tells h) (by simp [thS, thL])
  have c := cons_1 (hf F)
  simp only [fDefA, bnd, c, callA]
  rw [show g__law_single th [.d x] (CS th st F) = _ from gMk_1 (by simp)]
  rfl
theorem gMk_3 {P : Addr} {q : Str} {N : List Str} {k0 : Nat} {ls : List (Arguments × Expr × Scope)} {x y z : D} {C : List Ce} (hC : Ce.tb P q ∈ C) : gMk P q N 3 k0 ls [.d x, .d y, .d z] C = .ok (.c C.length) (C ++ [.tl (thL q N (datas (some (.d x) :: some (.d y) :: some (.d z) :: List.replicate (N.length - 3) none)) k0 ls)]) := by
  unfold gMk
  rw [if_pos ⟨hC, rfl, fun v hv => by
    simp only [List.mem_cons, List.not_mem_nil, or_false] at hv
    rcases hv with rfl | rfl | rfl
    · exact ⟨x, rfl⟩
    · exact ⟨y, rfl⟩
    · exact ⟨z, rfl⟩⟩]
  rfl
theorem gv_back {f g : M Vl} {x y : D} (hf : ∀ F, f ⟨sl, CS th st F⟩ = .ok (.d x) ⟨sl, CS th st F⟩) (hg : ∀ F, g ⟨sl, CS th st F⟩ = .ok (.d y) ⟨sl, CS th st F⟩) (h : Rq x y p) : Gv th st sl F0 p 20 (fDefA (g__law_back th) (fCons f (fCons g fNil))) := by
  refine gv_new (ts := thT x y) (fun F => ?_) (thT_tells h) (by simp [thT, thL])
  have c := cons_2 (hf F) (hg F)
  simp only [fDefA, bnd, c, callA]
  rw [show g__law_back th [.d x, .d y] (CS th st F) = _ from gMk_2 (by simp)]
  rfl
theorem gv_more {f g k : M Vl} {x y z : D} {ns : List Int} (hf : ∀ F, f ⟨sl, CS th st F⟩ = .ok (.d x) ⟨sl, CS th st F⟩) (hg : ∀ F, g ⟨sl, CS th st F⟩ = .ok (.d y) ⟨sl, CS th st F⟩) (hk : ∀ F, k ⟨sl, CS th st F⟩ = .ok (.d z) ⟨sl, CS th st F⟩) (hn : ns.length ≤ 100) (h : Rm ns x y z p) : Gv th st sl F0 p 20 (fDefA (g__law_more th) (fCons f (fCons g (fCons k fNil)))) := by
  refine gv_new (ts := thM x y z) (fun F => ?_) (thM_tells hn h) (by simp [thM, thL])
  have c := cons_3 (hf F) (hg F) (hk F)
  simp only [fDefA, bnd, c, callA]
  rw [show g__law_more th [.d x, .d y, .d z] (CS th st F) = _ from gMk_3 (by simp)]
  rfl
end
abbrev SL (ns : List Int) (a3 a4 a5 a6 a7 : Option Vl) : List (Option Vl) := [some (.c 0), some (.d (il ns)), some (.c 4), a3, a4, a5, a6, a7, none]
/-- a wrong thing, with its place -/
def Wr (y : D) : Prop := ∃ x p, y = .tuple [x, p] ∧ Rf x p ∧ okR p = true
theorem ne_str' (a : Str) (s : S) : oNeG (.d (.str a)) (.d (.str a)) s = some (.d (.bool false)) := by
  rw [str_ne, decide_eq_true rfl]; rfl
theorem turn_asks {th : Str → Addr} {st : List D} {ns : List Int} {a3 a4 a5 a6 a7 : Option Vl} {F : List Ce} {y : D} (hn : ns.length ≤ 100) (hF : AllT F) (hy : Wr y) :
    ∃ b5 b6 b7 F', AllT F' ∧ bnd (K3__law_right th (.d y)) (fun _ => B3__law_right th) ⟨SL ns a3 a4 a5 a6 a7, CS th st F⟩ = .ok .nx ⟨SL ns a3 a4 b5 b6 b7, CS th st F'⟩ := by
  obtain ⟨x, p, rfl, hr, hp⟩ := hy
  have good : ∀ y, Rf y p → Rq (il ns) y p := fun y h => .inr ⟨check_ok ns, h⟩
  have nil : ∀ y, Rf y p → Rq (.list []) y p := fun y h => .inr ⟨check_ok [], h⟩
  have s1 : ∀ (a : Option Vl) (i : Nat) (z : D), (SL ns a3 a4 (some (.d x)) (some (.d p)) a)[i]? = some (some (.d z)) → ∀ F, (fVar i) ⟨SL ns a3 a4 (some (.d x)) (some (.d p)) a, CS th st F⟩ = .ok (.d z) ⟨SL ns a3 a4 (some (.d x)) (some (.d p)) a, CS th st F⟩ := fun a i z h F => by
    simp [fVar, h]
  have vx := fun a => s1 a 5 x rfl
  have vg := fun a => s1 a 1 (il ns) rfl
  have vn : ∀ (a : Option Vl) F, (fC .none) ⟨SL ns a3 a4 (some (.d x)) (some (.d p)) a, CS th st F⟩ = .ok (.d .none) ⟨SL ns a3 a4 (some (.d x)) (some (.d p)) a, CS th st F⟩ := fun _ _ => rfl
  have ve : ∀ (a : Option Vl) F, (fDat (fLst fNil)) ⟨SL ns a3 a4 (some (.d x)) (some (.d p)) a, CS th st F⟩ = .ok (.d (.list [])) ⟨SL ns a3 a4 (some (.d x)) (some (.d p)) a, CS th st F⟩ := fun _ _ => rfl
  obtain ⟨i, ts, F2, k2, e2, c2, t2, n2⟩ := gv_asg (k := 7) (gv_cat (gv_cat (gv_cat (gv_cat (gv_single (F0 := F) (th := th) (st := st) (vx a7) hr) (gv_back (vx a7) (vn a7) (.inl hr)) (by decide)) (gv_back (vg a7) (vx a7) (good _ hr)) (by decide)) (gv_back (vx a7) (vx a7) (.inl hr)) (by decide)) (gv_back (vx a7) (ve a7) (.inl hr)) (by decide))
  have v7 := gv_var (sl := SL ns a3 a4 (some (.d x)) (some (.d p)) (some (.c i))) (i := 7) rfl c2 t2 n2
  obtain ⟨j, us, F3, k3, e3, c3, t3, n3⟩ := gv_asg (k := 7) (gv_cat (gv_cat v7 (gv_more (vx (some (.c i))) (ve (some (.c i))) (ve (some (.c i))) hn (.a hr)) (by decide)) (gv_more (vx (some (.c i))) (vx (some (.c i))) (vx (some (.c i))) hn (.a hr)) (by decide))
  have w7 := gv_var (sl := SL ns a3 a4 (some (.d x)) (some (.d p)) (some (.c j))) (i := 7) rfl c3 t3 n3
  obtain ⟨l, ws, F4, k4, e4, c4, t4, n4⟩ := gv_asg (k := 7) (gv_cat (gv_cat (gv_cat w7 (gv_more (vx (some (.c j))) (vn (some (.c j))) (vn (some (.c j))) hn (.a hr)) (by decide)) (gv_more (vg (some (.c j))) (vx (some (.c j))) (vn (some (.c j))) hn (.b rfl hr)) (by decide)) (gv_more (vg (some (.c j))) (vg (some (.c j))) (vx (some (.c j))) hn (.c rfl rfl hr)) (by decide))
  have kF : AllT (F ++ F2 ++ F3 ++ F4) := ((hF.app k2).app k3).app k4
  generalize F ++ F2 ++ F3 ++ F4 = G at kF c4 e4
  refine ⟨some (.d x), some (.d p), some (.c l), G, kF, ?_⟩
  refine turnK (s1 := ⟨SL ns a3 a4 (some (.d x)) (some (.d p)) a7, CS th st F⟩) ktup2_at ?_
  refine seq_to e2 (seq_to e3 (seq_to e4 (if_no ?_)))
  have lc : fLcT (fVar 7) 8 (T2__law_right th) ⟨SL ns a3 a4 (some (.d x)) (some (.d p)) (some (.c l)), CS th st G⟩ = .ok (.d (.list [])) ⟨SL ns a3 a4 (some (.d x)) (some (.d p)) (some (.c l)), CS th st G⟩ := by
    refine fLcT_at (j := l) (ts := ws) rfl c4 rfl fun t ht => ?_
    obtain ⟨E, hE⟩ := kept_ok (cs := CS th st G) hp (t4 t ht)
    refine ⟨⟨[some (.c 0), some (.d (il ns)), some (.c 4), a3, a4, some (.d x), some (.d p), some (.c l), some (.c (CS th st G).length)], CS th st G ++ .th t :: E⟩, ?_, cs_cut kF _⟩
    have c1 : fDefA g__law_kept (fCons (fVar 8) fNil) ⟨[some (.c 0), some (.d (il ns)), some (.c 4), a3, a4, some (.d x), some (.d p), some (.c l), some (.c (CS th st G).length)], CS th st G ++ [.th t]⟩ = .ok (.d (.str p.shown)) ⟨[some (.c 0), some (.d (il ns)), some (.c 4), a3, a4, some (.d x), some (.d p), some (.c l), some (.c (CS th st G).length)], CS th st G ++ .th t :: E⟩ := by
      generalize CS th st G = C at hE
      have c : fCons (fVar 8) fNil ⟨[some (.c 0), some (.d (il ns)), some (.c 4), a3, a4, some (.d x), some (.d p), some (.c l), some (.c C.length)], C ++ [.th t]⟩ = .ok [.c C.length] ⟨[some (.c 0), some (.d (il ns)), some (.c 4), a3, a4, some (.d x), some (.d p), some (.c l), some (.c C.length)], C ++ [.th t]⟩ := cons_1 rfl
      simp only [fDefA, bnd, c, callA, hE]
    have c2 : fCall oRepr (fCons (fVar 6) fNil) ⟨[some (.c 0), some (.d (il ns)), some (.c 4), a3, a4, some (.d x), some (.d p), some (.c l), some (.c (CS th st G).length)], CS th st G ++ .th t :: E⟩ = .ok (.d (.str p.shown)) ⟨[some (.c 0), some (.d (il ns)), some (.c 4), a3, a4, some (.d x), some (.d p), some (.c l), some (.c (CS th st G).length)], CS th st G ++ .th t :: E⟩ :=
      call1_at (x := .d p) rfl (by simp [oRepr, dat, hp])
    exact test_ok (op_ok c1 c2 (ne_str' _ _))
  exact test_ok (op_ok lc (show fDat (fLst fNil) _ = .ok (.d (.list [])) _ from rfl) (ne_il2 [] [] _))
theorem asks_loop {th : Str → Addr} {st : List D} {ns : List Int} {a3 a4 : Option Vl} (hn : ns.length ≤ 100) : ∀ (ys : List D) (F : List Ce) (a5 a6 a7 : Option Vl), AllT F → (∀ y ∈ ys, Wr y) →
    ∃ b5 b6 b7 F', AllT F' ∧ forL (K3__law_right th) (B3__law_right th) ys ⟨SL ns a3 a4 a5 a6 a7, CS th st F⟩ = .ok .nx ⟨SL ns a3 a4 b5 b6 b7, CS th st F'⟩
  | [], F, a5, a6, a7, hF, _ => ⟨a5, a6, a7, F, hF, rfl⟩
  | y :: ys, F, a5, a6, a7, hF, hy => by
    obtain ⟨b5, b6, b7, F1, h1, e1⟩ := turn_asks (th := th) (st := st) (ns := ns) (a3 := a3) (a4 := a4) (a5 := a5) (a6 := a6) (a7 := a7) hn hF (hy y (List.mem_cons_self ..))
    obtain ⟨c5, c6, c7, F2, h2, e2⟩ := asks_loop hn ys F1 b5 b6 b7 h1 fun z hz => hy z (List.mem_cons_of_mem _ hz)
    exact ⟨c5, c6, c7, F2, h2, (forL_step e1).trans e2⟩
/-! what is wrong -/
theorem okR_none : okR .none = true := by decide +kernel
theorem okR_nat {n : Nat} (h : n ≤ 100) : okR (.int n) = true := by
  have : ∀ n : Fin 101, okR (.int (n.val : Int)) = true := by decide +kernel
  exact this ⟨n, by omega⟩
theorem add_dd {x y : List D} (h : x.length + y.length ≤ 1000000) (s : S) : oAdd (.d (.list x)) (.d (.list y)) s = some (.d (.list (x ++ y))) := by
  simp [oAdd, orO, oI, oI2, oAddI, oIC, oCatD, oCat, datO, datL, dat, h]
theorem add_at {f g : M Vl} {s : S} {x y : List D} (hf : f s = .ok (.d (.list x)) s) (hg : g s = .ok (.d (.list y)) s) (h : x.length + y.length ≤ 1000000) : fOp oAdd f g s = .ok (.d (.list (x ++ y))) s := op_ok hf hg (add_dd h s)
theorem addi_at {f : M Vl} {s : S} {x : Int} (hf : f s = .ok (.d (.int x)) s) : fOp oAdd f (fC (.int 1)) s = .ok (.d (.int (x + 1))) s := op_ok hf rfl (by simp [oAdd, orO, oI, oI2, oAddI, oIC, oCatD, oCat, datO, datL, dat])
theorem int_at {f : M Vl} {s s1 : S} {x : Int} (hf : f s = .ok (.d (.int x)) s1) : fCall oInt (fCons f fNil) s = .ok (.d (.int x)) s1 := call1_at hf (by simp [oInt])
theorem slt_at {f g : M Vl} {s : S} {x : List D} {i : Nat} (hf : f s = .ok (.d (.list x)) s) (hg : g s = .ok (.d (.int i)) s) : fSl oSl f fNoP (fP g) s = .ok (.d (.list (x.take i))) s := by
  have c := cutJ x i
  simp [fSl, fNoP, fP, bnd, hf, hg, gets, DL.ret, oSl, slOr, oSlD, oSlL, datL, dat, c]
theorem sld_at {f g : M Vl} {s : S} {x : List D} {i : Nat} (hf : f s = .ok (.d (.list x)) s) (hg : g s = .ok (.d (.int i)) s) : fSl oSl f (fP g) fNoP s = .ok (.d (.list (x.drop i))) s := by
  have c := cutI x i
  simp [fSl, fNoP, fP, bnd, hf, hg, gets, DL.ret, oSl, slOr, oSlD, oSlL, datL, dat, c]
theorem turn_wrong {th : Str → Addr} {n : Nat} {st : List D} {ns : List Int} {W : List D} {a3 a4 : Option Vl} {x : D} (hn : ns.length ≤ 8) (hW : ∀ y ∈ W, Wr y) (hl : W.length ≤ 1000) (hx : odd x = true) (h : Dr (n + 1) st) :
    ∃ st' W' b3 b4, bnd (K1__law_right th (.d x)) (fun _ => B1__law_right th) ⟨SL ns a3 a4 none none none, CS th st [.l W]⟩ = .ok .nx ⟨SL ns b3 b4 none none none, CS th st' [.l W']⟩ ∧ (∀ y ∈ W', Wr y) ∧ W'.length = W.length + 1 ∧ Dr n st' := by
  obtain ⟨v, st', g1, v0, v1, d1⟩ := next_ok h
  have pos : (0 : Int) < (ns.length : Int) + 1 := by omega
  have q0 : 0 ≤ v % ((ns.length : Int) + 1) := Int.emod_nonneg _ (by omega)
  have q1 : v % ((ns.length : Int) + 1) < (ns.length : Int) + 1 := Int.emod_lt_of_pos _ pos
  obtain ⟨k, hk⟩ : ∃ k : Nat, v % ((ns.length : Int) + 1) = (k : Int) := ⟨(v % ((ns.length : Int) + 1)).toNat, by omega⟩
  have hkn : k ≤ ns.length := by omega
  let A : D := .list ((ns.map PyData.int).take k ++ [x] ++ (ns.map PyData.int).drop k ++ [.none])
  refine ⟨st', W ++ [.tuple [A, .int k]], some (.d x), some (.d (.int k)), ?_, ?_, by simp, d1⟩
  · refine turnK (s1 := ⟨SL ns (some (.d x)) a4 none none none, CS th st [.l W]⟩) rfl ?_
    have m1 : fAsg (fOp oMod (fCall oInt (fCons (fDef g__law_next (fCons (fVar 0) fNil)) fNil)) (fOp oAdd (fCall oLenG (fCons (fVar 1) fNil)) (fC (.int 1)))) (kName 4) ⟨SL ns (some (.d x)) a4 none none none, CS th st [.l W]⟩ = .ok .nx ⟨SL ns (some (.d x)) (some (.d (.int k))) none none none, CS th st' [.l W]⟩ := by
      have l1 := len_at (f := fVar 1) (s := ⟨SL ns (some (.d x)) a4 none none none, CS th st' [.l W]⟩) (xs := ns.map PyData.int) rfl
      rw [List.length_map] at l1
      have m := mod_at (int_at (next_at (sl := [some (.d (il ns)), some (.c 4), some (.d x), a4, none, none, none, none]) (T := tT th ++ [.l W]) g1)) (addi_at l1) pos
      rw [hk] at m
      exact asg_ok m
    refine seq_to m1 ?_
    have s4 : (fVar 4) ⟨SL ns (some (.d x)) (some (.d (.int k))) none none none, CS th st' [.l W]⟩ = .ok (.d (.int k)) ⟨SL ns (some (.d x)) (some (.d (.int k))) none none none, CS th st' [.l W]⟩ := rfl
    have s3 : (fVar 3) ⟨SL ns (some (.d x)) (some (.d (.int k))) none none none, CS th st' [.l W]⟩ = .ok (.d x) ⟨SL ns (some (.d x)) (some (.d (.int k))) none none none, CS th st' [.l W]⟩ := rfl
    have s2 : (fVar 2) ⟨SL ns (some (.d x)) (some (.d (.int k))) none none none, CS th st' [.l W]⟩ = .ok (.c 4) ⟨SL ns (some (.d x)) (some (.d (.int k))) none none none, CS th st' [.l W]⟩ := rfl
    have s1 : (fVar 1) ⟨SL ns (some (.d x)) (some (.d (.int k))) none none none, CS th st' [.l W]⟩ = .ok (.d (.list (ns.map PyData.int))) ⟨SL ns (some (.d x)) (some (.d (.int k))) none none none, CS th st' [.l W]⟩ := rfl
    have f0 : (fC .none) ⟨SL ns (some (.d x)) (some (.d (.int k))) none none none, CS th st' [.l W]⟩ = .ok (.d .none) ⟨SL ns (some (.d x)) (some (.d (.int k))) none none none, CS th st' [.l W]⟩ := rfl
    have b1 := add_at (add_at (add_at (slt_at s1 s4) (one_at s3) (by simp; omega)) (sld_at s1 s4) (by simp; omega)) (one_at f0) (by simp; omega)
    exact expr_at (apd_at (xs := W) s2 rfl (tup2_at b1 s4) (by omega))
  · intro y hy
    rcases List.mem_append.mp hy with q | q
    · exact hW y q
    · cases List.mem_singleton.mp q
      refine ⟨A, .int k, rfl, ?_, okR_nat (by omega)⟩
      have e : A = .list ((ns.take k).map .int ++ x :: ((ns.map PyData.int).drop k ++ [.none])) := by
        show PyData.list _ = _
        rw [← List.map_take]
        simp
      have := rf_bad (ns.take k) ((ns.map PyData.int).drop k ++ [.none]) hx
      rw [← e, List.length_take, Nat.min_eq_left hkn] at this
      exact this
theorem wrong_loop {th : Str → Addr} {n : Nat} {ns : List Int} (hn : ns.length ≤ 8) : ∀ (xs : List D) (W : List D) (st : List D) (a3 a4 : Option Vl), (∀ y ∈ W, Wr y) → W.length + xs.length ≤ 1000 → (∀ x ∈ xs, odd x = true) → Dr (n + xs.length) st →
    ∃ st' W' b3 b4, forL (K1__law_right th) (B1__law_right th) xs ⟨SL ns a3 a4 none none none, CS th st [.l W]⟩ = .ok .nx ⟨SL ns b3 b4 none none none, CS th st' [.l W']⟩ ∧ (∀ y ∈ W', Wr y) ∧ Dr n st'
  | [], W, st, a3, a4, hW, _, _, hd => ⟨st, W, a3, a4, rfl, hW, hd⟩
  | x :: xs, W, st, a3, a4, hW, hl, hx, hd => by
    simp only [List.length_cons] at hl
    obtain ⟨st1, W1, b3, b4, e1, w1, l1, d1⟩ := turn_wrong (th := th) (n := n + xs.length) (a3 := a3) (a4 := a4) hn hW (by omega) (hx x (List.mem_cons_self ..)) (hd.mono (by simp; omega))
    obtain ⟨st2, W2, c3, c4, e2, w2, d2⟩ := wrong_loop (th := th) (n := n) hn xs W1 st1 b3 b4 w1 (by omega) (fun z hz => hx z (List.mem_cons_of_mem _ hz)) d1
    exact ⟨st2, W2, c3, c4, (forL_step e1).trans e2, w2, d2⟩
theorem list_at {v : D} {m : Int} {st st' : List D} {sl : List (Option Vl)} {T : List Ce} (h : g__law_list [.c 0, .d (.int m)] [.l st] = .ok (.d v) [.l st']) :
    fDef g__law_list (fCons (fVar 0) (fCons (fC (.int m)) fNil)) ⟨some (.c 0) :: sl, .l st :: T⟩ = .ok (.d v) ⟨some (.c 0) :: sl, .l st' :: T⟩ := by
  simp [x_bnd, x_ret, x_stuck, x_gets, x_fVar, x_fC, x_fOp, x_fNil, x_fCons, x_fCall, x_fDat, x_fCell, x_fLst, x_fTup, x_fTest, x_fTru, x_fAnd, x_fOr, x_fNot, x_fIf, x_asB, x_fAndV, x_fOrV, x_fNotV, x_fIsN, x_fNotN, x_frz, x_frzs0, x_frzs1, x_fFrz, x_fSeq, x_fNext, x_fExpr, x_fRet, x_fRetN, x_fAsg, x_kName, x_fPar, x_kNil, x_kCons, x_kTup, x_kSub, x_setIt, x_needL, x_upC, x_fApp, x_fPopAt, x_fPop, x_fSl, x_fNoP, x_fP, x_fDef, x_callD, x_fPerm, x_fIsi, x_fNeg, x_asL, x_asLt, x_asT, x_fItL, x_fItT, x_orI, x_fRng1, x_fRng2, x_fEnum, x_fZip, x_fFor, x_forL0, x_fAug, x_fYes, x_lcT, x_fRstT, x_fRstV, x_ite, oIx, cutC, kl, Ce.lone, x_fCellV, x_fAppV, x_needV, x_upV, oIxV, x_fDNew, x_fSetdL, x_needW, x_setdL, x_fSrtS, x_fToM, x_fItems, x_fGet2, x_fDSub, x_needD, oGet2, oDSub, dictOf, keyD, oSortG, oSortP, orF, oCatT, oStr, x_fCount, x_fIndex, x_fRev, x_fPar3, datL, dat, oAdd, orO, oI, oInt, oPowW, oIC, oMod, cPos, oDiv, cDiv, endF, oAddI, oSub, oLt, oLe, oGt, oGe, oMul, oMulG, oRepD, oRep, oI2, oMin2, oMax2, oMinL, oMaxL, oAll, oAny, oBools, oIn, oNotIn, oInD, oInSg, x_fChain, intsA, cellsOf, picks, renum, putB, Ce.alive, oSl, slOr, oSlD, oSlL, oLenG, orA, oLen, tru, permL, oSumL, oCatD, datO, oCat, oList, oRepr, oTuple, DL.isNon, oSlT, oSlS, oAddS, oEqG, oNeG, oEqS, oNeS, oEq, oNe, x_fRaise, x_fFrzL, x_frzL, x_fItemsI, x_fValsI, x_fKeysI, x_fDNewM, x_fDPut, x_putC, x_fL6, dsOf, oSortK, intKeys, x_fDSub, x_fTupC, x_fFrzV, x_fSrtU, x_fRng3, x_fFrzN, oIxT, callT, endT, x_callD, cellsOf, picks, Ce.lone, renum, h, putB, kl]
abbrev NL (ns : List Int) : List D := [.none, .int 5, .str "", .str "12", .tuple (ns.map .int), .dict [], .bool true]
abbrev OD : List D := [.none, .bool true, .str "1", .list [.int 1], .tuple [.int 2]]
theorem consd {f : M Vl} {g : M (List Vl)} {s : S} {x : D} {xs : List D} (h1 : f s = .ok (.d x) s) (h2 : g s = .ok (xs.map Vl.d) s) : fCons f g s = .ok ((x :: xs).map Vl.d) s := by
  simp only [fCons, bnd, h1, h2, DL.ret, List.map_cons]
theorem frzs_d : ∀ (xs : List D) (s : S), frzs (xs.map Vl.d) s = .ok xs s
  | [], _ => rfl
  | x :: xs, s => by
    have ih := frzs_d xs s
    simp only [List.map_cons, frzs, bnd, frz, ih, DL.ret]
theorem dlst_at {f : M (List Vl)} {s : S} {xs : List D} (h : f s = .ok (xs.map Vl.d) s) (hl : xs.length ≤ 1000000) : fDat (fLst f) s = .ok (.d (.list xs)) s := by
  have e := frzs_d xs s
  simp only [fDat, fLst, bnd, h, List.length_map, if_pos hl, e, DL.ret]
theorem nl_lc {th : Str → Addr} {st : List D} {ns : List Int} (a : D) : ∀ (xs : List D), lcL (K0__law_right th) (T0__law_right th) (E0__law_right th) xs ⟨[some (.c 0), some (.d (il ns)), none, none, none, none, none, none, none], CS th st []⟩ = .ok (xs.map fun x => .tuple [x, .none]) ⟨[some (.c 0), some (.d (il ns)), none, none, none, none, none, none, none], CS th st []⟩
  | [] => rfl
  | x :: xs => by
    have ih := nl_lc (th := th) (st := st) (ns := ns) a xs
    have e : lcT (K0__law_right th) (T0__law_right th) (E0__law_right th) x ⟨[some (.c 0), some (.d (il ns)), none, none, none, none, none, none, none], CS th st []⟩ = .ok (some (.tuple [x, .none])) ⟨[some (.c 0), some (.d (il ns)), none, some (.d x), none, none, none, none, none], CS th st []⟩ := by
      refine (lcT_at (k := K0__law_right th) (e := E0__law_right th) (x := x) (s := ⟨[some (.c 0), some (.d (il ns)), none, none, none, none, none, none, none], CS th st []⟩) (s1 := ⟨[some (.c 0), some (.d (il ns)), none, some (.d x), none, none, none, none, none], CS th st []⟩) rfl (tup2_at (x := x) (y := .none) rfl rfl)).trans ?_
      rw [show cutC (CS th st []).length (CS th st []) = CS th st [] by have := cs_cut (th := th) (st := st) allT_nil []; rwa [List.append_nil] at this]
    have c : cutC (CS th st []).length (CS th st []) = CS th st [] := by have := cs_cut (th := th) (st := st) allT_nil []; rwa [List.append_nil] at this
    simp only [lcL, e, c, ih]
    rfl
theorem rt_end {ar n : Nat} {body : M Fl} {xs : List Vl} {cs : List Ce} {d : D} {s : S} (hx : xs.length = ar) (h : body ⟨xs.map some ++ List.replicate (n - ar) none, cs⟩ = .ok (.rt (.d d)) s) : mkF ar n body xs cs = .ok (.d d) (cutC cs.length s.ce) := by
  unfold mkF
  rw [if_pos hx, h]
  rfl
theorem wrong_asg {th : Str → Addr} {st : List D} {ns : List Int} {I : M (List D)} {K : Vl → M Unit} {T : M Bool} {E : M Vl} {N L : List D} (hI : I ⟨[some (.c 0), some (.d (il ns)), none, none, none, none, none, none, none], CS th st []⟩ = .ok N ⟨[some (.c 0), some (.d (il ns)), none, none, none, none, none, none, none], CS th st []⟩) (hl : N.length ≤ 1000000)
    (hn : lcL K T E N ⟨[some (.c 0), some (.d (il ns)), none, none, none, none, none, none, none], CS th st []⟩ = .ok L ⟨[some (.c 0), some (.d (il ns)), none, none, none, none, none, none, none], CS th st []⟩) :
    fAsg (fCell (fLc I K T E [3])) (kName 2) ⟨[some (.c 0), some (.d (il ns)), none, none, none, none, none, none, none], CS th st []⟩ = .ok .nx ⟨SL ns none none none none none, CS th st [.l L]⟩ := by
  have e : fLc I K T E [3] ⟨[some (.c 0), some (.d (il ns)), none, none, none, none, none, none, none], CS th st []⟩ = .ok L ⟨[some (.c 0), some (.d (il ns)), none, none, none, none, none, none, none], CS th st []⟩ := fLc_ok (vs := [3]) hI hl hn
  have q := asg_ok (i := 2) (cell_at e)
  exact q
theorem right_ok {th : Str → Addr} {n : Nat} {st : List D} (h : Dr (n + 200) st) : ∃ st', g__law_right th [.c 0] (.l st :: tT th) = .ok (.d (.bool true)) (.l st' :: tT th) ∧ Dr n st' := by
  obtain ⟨ns, st1, g1, l1, _, d1⟩ := list_ok (n := n + 5) (m := 8) (st := st) (by decide) (by decide) (h.mono (by omega))
  have hn : ns.length ≤ 8 := by omega
  have w0 : ∀ y ∈ (NL ns).map (fun x => PyData.tuple [x, .none]), Wr y := fun y hy => by
    obtain ⟨x, hx, rfl⟩ := List.mem_map.mp hy
    refine ⟨x, .none, rfl, ?_, okR_none⟩
    simp only [List.mem_cons, List.not_mem_nil, or_false] at hx
    rcases hx with rfl | rfl | rfl | rfl | rfl | rfl | rfl
    · exact rf_no rfl
    · exact rf_no rfl
    · exact rf_no rfl
    · exact rf_no rfl
    · exact rf_no rfl
    · exact rf_dict
    · exact rf_no rfl
  obtain ⟨st2, W, b3, b4, e3, w3, d2⟩ := wrong_loop (th := th) (n := n) hn OD ((NL ns).map fun x => .tuple [x, .none]) st1 none none w0 (by simp) (by decide) d1
  obtain ⟨b5, b6, b7, F, hF, e4⟩ := asks_loop (th := th) (st := st2) (ns := ns) (a3 := b3) (a4 := b4) (by omega) W [.f W] none none none (allT_f W) w3
  refine ⟨st2, ?_, d2⟩
  have a1 : fAsg (fDef g__law_list (fCons (fVar 0) (fCons (fC (.int 8)) fNil))) (kName 1) ⟨[some (.c 0), none, none, none, none, none, none, none, none], CS th st []⟩ = .ok .nx ⟨[some (.c 0), some (.d (il ns)), none, none, none, none, none, none, none], CS th st1 []⟩ := asg_ok (list_at g1)
  have a2 : fAsg (fCell (fLc (I0__law_right th) (K0__law_right th) (T0__law_right th) (E0__law_right th) [3])) (kName 2) ⟨[some (.c 0), some (.d (il ns)), none, none, none, none, none, none, none], CS th st1 []⟩ = .ok .nx ⟨SL ns none none none none none, CS th st1 [.l ((NL ns).map fun x => .tuple [x, .none])]⟩ := by
    have hI : I0__law_right th ⟨[some (.c 0), some (.d (il ns)), none, none, none, none, none, none, none], CS th st1 []⟩ = .ok (NL ns) ⟨[some (.c 0), some (.d (il ns)), none, none, none, none, none, none, none], CS th st1 []⟩ := by
      refine it_list ?_
      have t : fCall oTuple (fCons (fVar 1) fNil) ⟨[some (.c 0), some (.d (il ns)), none, none, none, none, none, none, none], CS th st1 []⟩ = .ok (.d (.tuple (ns.map .int))) ⟨[some (.c 0), some (.d (il ns)), none, none, none, none, none, none, none], CS th st1 []⟩ := call1_at (x := .d (il ns)) rfl rfl
      exact dlst_at (consd rfl (consd rfl (consd rfl (consd rfl (consd t (consd rfl (consd rfl (xs := []) rfl))))))) (by simp)
    exact wrong_asg hI (by simp) (nl_lc .none (NL ns))
  have a3 : fFor (I1__law_right th) (K1__law_right th) (B1__law_right th) ⟨SL ns none none none none none, CS th st1 [.l ((NL ns).map fun x => .tuple [x, .none])]⟩ = .ok .nx ⟨SL ns b3 b4 none none none, CS th st2 [.l W]⟩ := by
    refine fFor_ok (xs := OD) (it_list ?_) e3
    exact dlst_at (consd rfl (consd rfl (consd rfl (consd rfl (consd rfl (xs := []) rfl))))) (by simp)
  have a4 : fFor (I3__law_right th) (K3__law_right th) (B3__law_right th) ⟨SL ns b3 b4 none none none, CS th st2 [.l W]⟩ = .ok .nx ⟨SL ns b3 b4 b5 b6 b7, CS th st2 F⟩ := by
    have hI : I3__law_right th ⟨SL ns b3 b4 none none none, CS th st2 [.l W]⟩ = .ok W ⟨SL ns b3 b4 none none none, CS th st2 [.f W]⟩ := by
      have f : fFrz (fVar 2) ⟨SL ns b3 b4 none none none, CS th st2 [.l W]⟩ = .ok (.d (.list W)) ⟨SL ns b3 b4 none none none, CS th st2 [.f W]⟩ := by
        have c := cs_cut (th := th) (st := st2) (allT_f W) []
        rw [List.append_nil] at c
        have c2 := cs_kl (th := th) (st := st2) (allT_f W)
        simp [x_bnd, x_ret, x_stuck, x_gets, x_fVar, x_fC, x_fOp, x_fNil, x_fCons, x_fCall, x_fDat, x_fCell, x_fLst, x_fTup, x_fTest, x_fTru, x_fAnd, x_fOr, x_fNot, x_fIf, x_asB, x_fAndV, x_fOrV, x_fNotV, x_fIsN, x_fNotN, x_frz, x_frzs0, x_frzs1, x_fFrz, x_fSeq, x_fNext, x_fExpr, x_fRet, x_fRetN, x_fAsg, x_kName, x_fPar, x_kNil, x_kCons, x_kTup, x_kSub, x_setIt, x_needL, x_upC, x_fApp, x_fPopAt, x_fPop, x_fSl, x_fNoP, x_fP, x_fDef, x_callD, x_fPerm, x_fIsi, x_fNeg, x_asL, x_asLt, x_asT, x_fItL, x_fItT, x_orI, x_fRng1, x_fRng2, x_fEnum, x_fZip, x_fFor, x_forL0, x_fAug, x_fYes, x_lcT, x_fRstT, x_fRstV, x_ite, oIx, cutC, kl, Ce.lone, x_fCellV, x_fAppV, x_needV, x_upV, oIxV, x_fDNew, x_fSetdL, x_needW, x_setdL, x_fSrtS, x_fToM, x_fItems, x_fGet2, x_fDSub, x_needD, oGet2, oDSub, dictOf, keyD, oSortG, oSortP, orF, oCatT, oStr, x_fCount, x_fIndex, x_fRev, x_fPar3, datL, dat, oAdd, orO, oI, oInt, oPowW, oIC, oMod, cPos, oDiv, cDiv, endF, oAddI, oSub, oLt, oLe, oGt, oGe, oMul, oMulG, oRepD, oRep, oI2, oMin2, oMax2, oMinL, oMaxL, oAll, oAny, oBools, oIn, oNotIn, oInD, oInSg, x_fChain, intsA, cellsOf, picks, renum, putB, Ce.alive, oSl, slOr, oSlD, oSlL, oLenG, orA, oLen, tru, permL, oSumL, oCatD, datO, oCat, oList, oRepr, oTuple, DL.isNon, oSlT, oSlS, oAddS, oEqG, oNeG, oEqS, oNeS, oEq, oNe, x_fRaise, x_fFrzL, x_frzL, x_fItemsI, x_fValsI, x_fKeysI, x_fDNewM, x_fDPut, x_putC, x_fL6, dsOf, oSortK, intKeys, x_fDSub, x_fTupC, x_fFrzV, x_fSrtU, x_fRng3, x_fFrzN, oIxT, callT, endT, frz, kl]
      simp [orI, fItL, bnd, f, x_frz, asL, DL.ret]
    exact fFor_ok (xs := W) hI e4
  have key : body__law_right th ⟨[some (.c 0), none, none, none, none, none, none, none, none], .l st :: tT th⟩ = .ok (.rt (.d (.bool true))) ⟨SL ns b3 b4 b5 b6 b7, CS th st2 F⟩ := by
    unfold body__law_right
    exact seq_to a1 (seq_to a2 (seq_to a3 (seq_to a4 rfl)))
  have r := rt_end (ar := 1) (n := 9) (xs := [.c 0]) rfl key
  have c : cutC (Ce.l st :: tT th).length (CS th st2 F) = .l st2 :: tT th := by
    have := cs_cut (th := th) (st := st2) allT_nil F
    rw [cs_app] at this
    exact this
  rw [c] at r
  exact r
theorem right_call {th : Str → Addr} {st st' : List D} {sl : List (Option Vl)} (h : g__law_right th [.c 0] (.l st :: tT th) = .ok (.d (.bool true)) (.l st' :: tT th)) :
    callDT (g__law_right th) [.c 3] ⟨sl, tT th ++ [.l st]⟩ = .ok (.d (.bool true)) ⟨sl, tT th ++ [.l st']⟩ := by
  show callD (fun ys cs => g__law_right th (ys.take 1) cs) [.c 3, .c 0, .c 1, .c 2] ⟨sl, _⟩ = _
  generalize g__law_right th = g at h
  simp [callD, cellsOf, picks, renum, Ce.lone, h, putB, kl]
theorem new_defC {g : FD} {f : M (List Vl)} {sl : List (Option Vl)} {C : List Ce} {x : D} {xs : List D} (h1 : f ⟨sl, C⟩ = .ok [.d x] ⟨sl, C⟩) (hg : g [.d x] [] = .ok (.c 0) [.l xs]) : fDef g f ⟨sl, C⟩ = .ok (.c C.length) ⟨sl, C ++ [.l xs]⟩ := by
  unfold fDef
  simp only [bnd, h1]
  simp [callD, cellsOf, picks, renum, hg, putB]
theorem law_step (th : Str → Addr) (c : Int) : ∃ s', fb_law th ⟨(List.replicate N_law.length none).set 1 (some (.d (.int c))), tbs (TS_ th)⟩ = .ok false s' ∧ ∃ tl, s'.ce = tbs (TS_ th) ++ tl := by
  obtain ⟨st', e, _⟩ := right_ok (th := th) (n := 0) (st := drInit c) ((dr_init c).mono (by decide))
  refine ⟨⟨[none, some (.d (.int c))], tT th ++ [.l st']⟩, ?_, [.l st'], rfl⟩
  show fb_law th ⟨[none, some (.d (.int c))], tT th⟩ = _
  have d := new_defC (sl := [none, some (.d (.int c))]) (C := tT th) (x := .int c) (f := fCons (fVar 1) fNil) (cons_1 rfl) (draws_ok c)
  have cc : fCons (fDef g__law_draws (fCons (fVar 1) fNil)) fNil ⟨[none, some (.d (.int c))], tT th⟩ = .ok [.c 3] ⟨[none, some (.d (.int c))], tT th ++ [.l (drInit c)]⟩ := cons_1 d
  have e2 : fDefT (g__law_right th) (fCons (fDef g__law_draws (fCons (fVar 1) fNil)) fNil) ⟨[none, some (.d (.int c))], tT th⟩ = .ok (.d (.bool true)) ⟨[none, some (.d (.int c))], tT th ++ [.l st']⟩ := by
    unfold fDefT
    simp only [bnd, cc]
    exact right_call e
  unfold fb_law
  simp [fNot, fTru, bnd, e2, gets, tru, DL.ret]

end R
end Fsec

section Zsec
set_option maxRecDepth 100000
open PySem PySem.Spec PyProof.Rows L2 DL
namespace R
theorem all_mk {l : PySem.W.OpenLaw} {w : World} {K : PySem.W.Frag} {h : Heap} {mg : Str → Option Value} {fa f0 f1 f2 f3 f4 f5 f6 f7 f8 f9 f10 f11 f12 f13 f14 f15 f16 f17 f18 f19 f20 f21 f22 f23 f24 f25 f26 f27 f28 f29 f30 f31 f32 f33 f34 f35 f36 f37 f38 f39 f40 f41 f42 : Addr} (X : K.In h) (G : h.Ns mainGlobals mg) (hfa : mg "law" = some (.ref fa))
    {od0 an0 od1 an1 od2 an2 od3 an3 od4 an4 od5 an5 od6 an6 od7 an7 od8 an8 od9 an9 od10 an10 od11 an11 od12 an12 od13 an13 od14 an14 od15 an15 od16 an16 od17 an17 od18 an18 od19 an19 od20 an20 od21 an21 od22 an22 od23 an23 od24 an24 od25 an25 od26 an26 od27 an27 od28 an28 od29 an29 od30 an30 od31 an31 od32 an32 od33 an33 od34 an34 od35 an35 od36 an36 od37 an37 od38 an38 od39 an39 od40 an40 od41 an41 od42 an42 : Option Addr} {sl0 sl1 sl2 sl3 sl4 sl5 sl6 sl7 sl8 sl9 sl10 sl11 sl12 sl13 sl14 sl15 sl16 sl17 sl18 sl19 sl20 sl21 sl22 sl23 sl24 sl25 sl26 sl27 sl28 sl29 sl30 sl31 sl32 sl33 sl34 sl35 sl36 sl37 sl38 sl39 sl40 sl41 sl42 : Array (Option Value)} {oc0 kV0 dc0 pm0 cd0 ct0 oc1 kV1 dc1 pm1 cd1 ct1 oc2 kV2 dc2 pm2 cd2 ct2 oc3 kV3 dc3 pm3 cd3 ct3 oc4 kV4 dc4 pm4 cd4 ct4 oc5 kV5 dc5 pm5 cd5 ct5 oc6 kV6 dc6 pm6 cd6 ct6 oc7 kV7 dc7 pm7 cd7 ct7 oc8 kV8 dc8 pm8 cd8 ct8 oc9 kV9 dc9 pm9 cd9 ct9 oc10 kV10 dc10 pm10 cd10 ct10 oc11 kV11 dc11 pm11 cd11 ct11 oc12 kV12 dc12 pm12 cd12 ct12 oc13 kV13 dc13 pm13 cd13 ct13 oc14 kV14 dc14 pm14 cd14 ct14 oc15 kV15 dc15 pm15 cd15 ct15 oc16 kV16 dc16 pm16 cd16 ct16 oc17 kV17 dc17 pm17 cd17 ct17 oc18 kV18 dc18 pm18 cd18 ct18 oc19 kV19 dc19 pm19 cd19 ct19 oc20 kV20 dc20 pm20 cd20 ct20 oc21 kV21 dc21 pm21 cd21 ct21 oc22 kV22 dc22 pm22 cd22 ct22 oc23 kV23 dc23 pm23 cd23 ct23 oc24 kV24 dc24 pm24 cd24 ct24 oc25 kV25 dc25 pm25 cd25 ct25 oc26 kV26 dc26 pm26 cd26 ct26 oc27 kV27 dc27 pm27 cd27 ct27 oc28 kV28 dc28 pm28 cd28 ct28 oc29 kV29 dc29 pm29 cd29 ct29 oc30 kV30 dc30 pm30 cd30 ct30 oc31 kV31 dc31 pm31 cd31 ct31 oc32 kV32 dc32 pm32 cd32 ct32 oc33 kV33 dc33 pm33 cd33 ct33 oc34 kV34 dc34 pm34 cd34 ct34 oc35 kV35 dc35 pm35 cd35 ct35 oc36 kV36 dc36 pm36 cd36 ct36 oc37 kV37 dc37 pm37 cd37 ct37 oc38 kV38 dc38 pm38 cd38 ct38 oc39 kV39 dc39 pm39 cd39 ct39 oc40 kV40 dc40 pm40 cd40 ct40 oc41 kV41 dc41 pm41 cd41 ct41 oc42 kV42 dc42 pm42 cd42 ct42 : Value}
    (a0 : PySem.W.nsIn K mainGlobals "is_whole" = some (some (.ref f0))) (l0 : K.lookup f0 = some ⟨oc0, od0, .func (PySem.W.fnOf "is_whole" "is_whole" (defArgs s_is_whole) (defBody s_is_whole) (defScope s_is_whole) .none kV0 dc0 pm0 an0 cd0 ct0), sl0⟩) (c0 : PySem.W.codeIn K cd0 "is_whole" = true) (k0 : PySem.W.keepIn K (.ref f0) = true)
    (a1 : PySem.W.nsIn K mainGlobals "check_list" = some (some (.ref f1))) (l1 : K.lookup f1 = some ⟨oc1, od1, .func (PySem.W.fnOf "check_list" "check_list" (defArgs s_check_list) (defBody s_check_list) (defScope s_check_list) .none kV1 dc1 pm1 an1 cd1 ct1), sl1⟩) (c1 : PySem.W.codeIn K cd1 "check_list" = true) (k1 : PySem.W.keepIn K (.ref f1) = true)
    (a2 : PySem.W.nsIn K mainGlobals "units_of" = some (some (.ref f2))) (l2 : K.lookup f2 = some ⟨oc2, od2, .func (PySem.W.fnOf "units_of" "units_of" (defArgs s_units_of) (defBody s_units_of) (defScope s_units_of) .none kV2 dc2 pm2 an2 cd2 ct2), sl2⟩) (c2 : PySem.W.codeIn K cd2 "units_of" = true) (k2 : PySem.W.keepIn K (.ref f2) = true)
    (a3 : PySem.W.nsIn K mainGlobals "check_cut" = some (some (.ref f3))) (l3 : K.lookup f3 = some ⟨oc3, od3, .func (PySem.W.fnOf "check_cut" "check_cut" (defArgs s_check_cut) (defBody s_check_cut) (defScope s_check_cut) .none kV3 dc3 pm3 an3 cd3 ct3), sl3⟩) (c3 : PySem.W.codeIn K cd3 "check_cut" = true) (k3 : PySem.W.keepIn K (.ref f3) = true)
    (a4 : PySem.W.nsIn K mainGlobals "cut" = some (some (.ref f4))) (l4 : K.lookup f4 = some ⟨oc4, od4, .func (PySem.W.fnOf "cut" "cut" (defArgs s_cut) (defBody s_cut) (defScope s_cut) .none kV4 dc4 pm4 an4 cd4 ct4), sl4⟩) (c4 : PySem.W.codeIn K cd4 "cut" = true) (k4 : PySem.W.keepIn K (.ref f4) = true)
    (a5 : PySem.W.nsIn K mainGlobals "boundaries" = some (some (.ref f5))) (l5 : K.lookup f5 = some ⟨oc5, od5, .func (PySem.W.fnOf "boundaries" "boundaries" (defArgs s_boundaries) (defBody s_boundaries) (defScope s_boundaries) .none kV5 dc5 pm5 an5 cd5 ct5), sl5⟩) (c5 : PySem.W.codeIn K cd5 "boundaries" = true) (k5 : PySem.W.keepIn K (.ref f5) = true)
    (a6 : PySem.W.nsIn K mainGlobals "parents" = some (some (.ref f6))) (l6 : K.lookup f6 = some ⟨oc6, od6, .func (PySem.W.fnOf "parents" "parents" (defArgs s_parents) (defBody s_parents) (defScope s_parents) .none kV6 dc6 pm6 an6 cd6 ct6), sl6⟩) (c6 : PySem.W.codeIn K cd6 "parents" = true) (k6 : PySem.W.keepIn K (.ref f6) = true)
    (a7 : PySem.W.nsIn K mainGlobals "least_places" = some (some (.ref f7))) (l7 : K.lookup f7 = some ⟨oc7, od7, .func (PySem.W.fnOf "least_places" "least_places" (defArgs s_least_places) (defBody s_least_places) (defScope s_least_places) .none kV7 dc7 pm7 an7 cd7 ct7), sl7⟩) (c7 : PySem.W.codeIn K cd7 "least_places" = true) (k7 : PySem.W.keepIn K (.ref f7) = true)
    (a8 : PySem.W.nsIn K mainGlobals "found_back" = some (some (.ref f8))) (l8 : K.lookup f8 = some ⟨oc8, od8, .func (PySem.W.fnOf "found_back" "found_back" (defArgs s_found_back) (defBody s_found_back) (defScope s_found_back) .none kV8 dc8 pm8 an8 cd8 ct8), sl8⟩) (c8 : PySem.W.codeIn K cd8 "found_back" = true) (k8 : PySem.W.keepIn K (.ref f8) = true)
    (a9 : PySem.W.nsIn K mainGlobals "read_back" = some (some (.ref f9))) (l9 : K.lookup f9 = some ⟨oc9, od9, .func (PySem.W.fnOf "read_back" "read_back" (defArgs s_read_back) (defBody s_read_back) (defScope s_read_back) .none kV9 dc9 pm9 an9 cd9 ct9), sl9⟩) (c9 : PySem.W.codeIn K cd9 "read_back" = true) (k9 : PySem.W.keepIn K (.ref f9) = true)
    (a10 : PySem.W.nsIn K mainGlobals "count_results" = some (some (.ref f10))) (l10 : K.lookup f10 = some ⟨oc10, od10, .func (PySem.W.fnOf "count_results" "count_results" (defArgs s_count_results) (defBody s_count_results) (defScope s_count_results) .none kV10 dc10 pm10 an10 cd10 ct10), sl10⟩) (c10 : PySem.W.codeIn K cd10 "count_results" = true) (k10 : PySem.W.keepIn K (.ref f10) = true)
    (a11 : PySem.W.nsIn K mainGlobals "each_result" = some (some (.ref f11))) (l11 : K.lookup f11 = some ⟨oc11, od11, .func (PySem.W.fnOf "each_result" "each_result" (defArgs s_each_result) (defBody s_each_result) (defScope s_each_result) .none kV11 dc11 pm11 an11 cd11 ct11), sl11⟩) (c11 : PySem.W.codeIn K cd11 "each_result" = true) (k11 : PySem.W.keepIn K (.ref f11) = true)
    (a12 : PySem.W.nsIn K mainGlobals "bounds_of" = some (some (.ref f12))) (l12 : K.lookup f12 = some ⟨oc12, od12, .func (PySem.W.fnOf "bounds_of" "bounds_of" (defArgs s_bounds_of) (defBody s_bounds_of) (defScope s_bounds_of) .none kV12 dc12 pm12 an12 cd12 ct12), sl12⟩) (c12 : PySem.W.codeIn K cd12 "bounds_of" = true) (k12 : PySem.W.keepIn K (.ref f12) = true)
    (a13 : PySem.W.nsIn K mainGlobals "both" = some (some (.ref f13))) (l13 : K.lookup f13 = some ⟨oc13, od13, .func (PySem.W.fnOf "both" "both" (defArgs s_both) (defBody s_both) (defScope s_both) .none kV13 dc13 pm13 an13 cd13 ct13), sl13⟩) (c13 : PySem.W.codeIn K cd13 "both" = true) (k13 : PySem.W.keepIn K (.ref f13) = true)
    (a14 : PySem.W.nsIn K mainGlobals "either" = some (some (.ref f14))) (l14 : K.lookup f14 = some ⟨oc14, od14, .func (PySem.W.fnOf "either" "either" (defArgs s_either) (defBody s_either) (defScope s_either) .none kV14 dc14 pm14 an14 cd14 ct14), sl14⟩) (c14 : PySem.W.codeIn K cd14 "either" = true) (k14 : PySem.W.keepIn K (.ref f14) = true)
    (a15 : PySem.W.nsIn K mainGlobals "trees" = some (some (.ref f15))) (l15 : K.lookup f15 = some ⟨oc15, od15, .func (PySem.W.fnOf "trees" "trees" (defArgs s_trees) (defBody s_trees) (defScope s_trees) .none kV15 dc15 pm15 an15 cd15 ct15), sl15⟩) (c15 : PySem.W.codeIn K cd15 "trees" = true) (k15 : PySem.W.keepIn K (.ref f15) = true)
    (a16 : PySem.W.nsIn K mainGlobals "addresses" = some (some (.ref f16))) (l16 : K.lookup f16 = some ⟨oc16, od16, .func (PySem.W.fnOf "addresses" "addresses" (defArgs s_addresses) (defBody s_addresses) (defScope s_addresses) .none kV16 dc16 pm16 an16 cd16 ct16), sl16⟩) (c16 : PySem.W.codeIn K cd16 "addresses" = true) (k16 : PySem.W.keepIn K (.ref f16) = true)
    (a17 : PySem.W.nsIn K mainGlobals "check_two" = some (some (.ref f17))) (l17 : K.lookup f17 = some ⟨oc17, od17, .func (PySem.W.fnOf "check_two" "check_two" (defArgs s_check_two) (defBody s_check_two) (defScope s_check_two) .none kV17 dc17 pm17 an17 cd17 ct17), sl17⟩) (c17 : PySem.W.codeIn K cd17 "check_two" = true) (k17 : PySem.W.keepIn K (.ref f17) = true)
    (a18 : PySem.W.nsIn K mainGlobals "union" = some (some (.ref f18))) (l18 : K.lookup f18 = some ⟨oc18, od18, .func (PySem.W.fnOf "union" "union" (defArgs s_union) (defBody s_union) (defScope s_union) .none kV18 dc18 pm18 an18 cd18 ct18), sl18⟩) (c18 : PySem.W.codeIn K cd18 "union" = true) (k18 : PySem.W.keepIn K (.ref f18) = true)
    (a19 : PySem.W.nsIn K mainGlobals "intersection" = some (some (.ref f19))) (l19 : K.lookup f19 = some ⟨oc19, od19, .func (PySem.W.fnOf "intersection" "intersection" (defArgs s_intersection) (defBody s_intersection) (defScope s_intersection) .none kV19 dc19 pm19 an19 cd19 ct19), sl19⟩) (c19 : PySem.W.codeIn K cd19 "intersection" = true) (k19 : PySem.W.keepIn K (.ref f19) = true)
    (a20 : PySem.W.nsIn K mainGlobals "difference" = some (some (.ref f20))) (l20 : K.lookup f20 = some ⟨oc20, od20, .func (PySem.W.fnOf "difference" "difference" (defArgs s_difference) (defBody s_difference) (defScope s_difference) .none kV20 dc20 pm20 an20 cd20 ct20), sl20⟩) (c20 : PySem.W.codeIn K cd20 "difference" = true) (k20 : PySem.W.keepIn K (.ref f20) = true)
    (a21 : PySem.W.nsIn K mainGlobals "includes" = some (some (.ref f21))) (l21 : K.lookup f21 = some ⟨oc21, od21, .func (PySem.W.fnOf "includes" "includes" (defArgs s_includes) (defBody s_includes) (defScope s_includes) .none kV21 dc21 pm21 an21 cd21 ct21), sl21⟩) (c21 : PySem.W.codeIn K cd21 "includes" = true) (k21 : PySem.W.keepIn K (.ref f21) = true)
    (a22 : PySem.W.nsIn K mainGlobals "missing" = some (some (.ref f22))) (l22 : K.lookup f22 = some ⟨oc22, od22, .func (PySem.W.fnOf "missing" "missing" (defArgs s_missing) (defBody s_missing) (defScope s_missing) .none kV22 dc22 pm22 an22 cd22 ct22), sl22⟩) (c22 : PySem.W.codeIn K cd22 "missing" = true) (k22 : PySem.W.keepIn K (.ref f22) = true)
    (a23 : PySem.W.nsIn K mainGlobals "matches" = some (some (.ref f23))) (l23 : K.lookup f23 = some ⟨oc23, od23, .func (PySem.W.fnOf "matches" "matches" (defArgs s_matches) (defBody s_matches) (defScope s_matches) .none kV23 dc23 pm23 an23 cd23 ct23), sl23⟩) (c23 : PySem.W.codeIn K cd23 "matches" = true) (k23 : PySem.W.keepIn K (.ref f23) = true)
    (a24 : PySem.W.nsIn K mainGlobals "count_between" = some (some (.ref f24))) (l24 : K.lookup f24 = some ⟨oc24, od24, .func (PySem.W.fnOf "count_between" "count_between" (defArgs s_count_between) (defBody s_count_between) (defScope s_count_between) .none kV24 dc24 pm24 an24 cd24 ct24), sl24⟩) (c24 : PySem.W.codeIn K cd24 "count_between" = true) (k24 : PySem.W.keepIn K (.ref f24) = true)
    (a25 : PySem.W.nsIn K mainGlobals "residue" = some (some (.ref f25))) (l25 : K.lookup f25 = some ⟨oc25, od25, .func (PySem.W.fnOf "residue" "residue" (defArgs s_residue) (defBody s_residue) (defScope s_residue) .none kV25 dc25 pm25 an25 cd25 ct25), sl25⟩) (c25 : PySem.W.codeIn K cd25 "residue" = true) (k25 : PySem.W.keepIn K (.ref f25) = true)
    (a26 : PySem.W.nsIn K mainGlobals "distance" = some (some (.ref f26))) (l26 : K.lookup f26 = some ⟨oc26, od26, .func (PySem.W.fnOf "distance" "distance" (defArgs s_distance) (defBody s_distance) (defScope s_distance) .none kV26 dc26 pm26 an26 cd26 ct26), sl26⟩) (c26 : PySem.W.codeIn K cd26 "distance" = true) (k26 : PySem.W.keepIn K (.ref f26) = true)
    (a27 : PySem.W.nsIn K mainGlobals "path" = some (some (.ref f27))) (l27 : K.lookup f27 = some ⟨oc27, od27, .func (PySem.W.fnOf "path" "path" (defArgs s_path) (defBody s_path) (defScope s_path) .none kV27 dc27 pm27 an27 cd27 ct27), sl27⟩) (c27 : PySem.W.codeIn K cd27 "path" = true) (k27 : PySem.W.keepIn K (.ref f27) = true)
    (a28 : PySem.W.nsIn K mainGlobals "median" = some (some (.ref f28))) (l28 : K.lookup f28 = some ⟨oc28, od28, .func (PySem.W.fnOf "median" "median" (defArgs s_median) (defBody s_median) (defScope s_median) .none kV28 dc28 pm28 an28 cd28 ct28), sl28⟩) (c28 : PySem.W.codeIn K cd28 "median" = true) (k28 : PySem.W.keepIn K (.ref f28) = true)
    (a29 : PySem.W.nsIn K mainGlobals "three_way" = some (some (.ref f29))) (l29 : K.lookup f29 = some ⟨oc29, od29, .func (PySem.W.fnOf "three_way" "three_way" (defArgs s_three_way) (defBody s_three_way) (defScope s_three_way) .none kV29 dc29 pm29 an29 cd29 ct29), sl29⟩) (c29 : PySem.W.codeIn K cd29 "three_way" = true) (k29 : PySem.W.keepIn K (.ref f29) = true)
    (a30 : PySem.W.nsIn K mainGlobals "count_sources" = some (some (.ref f30))) (l30 : K.lookup f30 = some ⟨oc30, od30, .func (PySem.W.fnOf "count_sources" "count_sources" (defArgs s_count_sources) (defBody s_count_sources) (defScope s_count_sources) .none kV30 dc30 pm30 an30 cd30 ct30), sl30⟩) (c30 : PySem.W.codeIn K cd30 "count_sources" = true) (k30 : PySem.W.keepIn K (.ref f30) = true)
    (a31 : PySem.W.nsIn K mainGlobals "sources_by_places" = some (some (.ref f31))) (l31 : K.lookup f31 = some ⟨oc31, od31, .func (PySem.W.fnOf "sources_by_places" "sources_by_places" (defArgs s_sources_by_places) (defBody s_sources_by_places) (defScope s_sources_by_places) .none kV31 dc31 pm31 an31 cd31 ct31), sl31⟩) (c31 : PySem.W.codeIn K cd31 "sources_by_places" = true) (k31 : PySem.W.keepIn K (.ref f31) = true)
    (a32 : PySem.W.nsIn K mainGlobals "each_source" = some (some (.ref f32))) (l32 : K.lookup f32 = some ⟨oc32, od32, .func (PySem.W.fnOf "each_source" "each_source" (defArgs s_each_source) (defBody s_each_source) (defScope s_each_source) .none kV32 dc32 pm32 an32 cd32 ct32), sl32⟩) (c32 : PySem.W.codeIn K cd32 "each_source" = true) (k32 : PySem.W.keepIn K (.ref f32) = true)
    (a33 : PySem.W.nsIn K mainGlobals "format_list" = some (some (.ref f33))) (l33 : K.lookup f33 = some ⟨oc33, od33, .func (PySem.W.fnOf "format_list" "format_list" (defArgs s_format_list) (defBody s_format_list) (defScope s_format_list) .none kV33 dc33 pm33 an33 cd33 ct33), sl33⟩) (c33 : PySem.W.codeIn K cd33 "format_list" = true) (k33 : PySem.W.keepIn K (.ref f33) = true)
    (a34 : PySem.W.nsIn K mainGlobals "_law_draws" = some (some (.ref f34))) (l34 : K.lookup f34 = some ⟨oc34, od34, .func (PySem.W.fnOf "_law_draws" "_law_draws" (defArgs s__law_draws) (defBody s__law_draws) (defScope s__law_draws) .none kV34 dc34 pm34 an34 cd34 ct34), sl34⟩) (c34 : PySem.W.codeIn K cd34 "_law_draws" = true) (k34 : PySem.W.keepIn K (.ref f34) = true)
    (a35 : PySem.W.nsIn K mainGlobals "_law_next" = some (some (.ref f35))) (l35 : K.lookup f35 = some ⟨oc35, od35, .func (PySem.W.fnOf "_law_next" "_law_next" (defArgs s__law_next) (defBody s__law_next) (defScope s__law_next) .none kV35 dc35 pm35 an35 cd35 ct35), sl35⟩) (c35 : PySem.W.codeIn K cd35 "_law_next" = true) (k35 : PySem.W.keepIn K (.ref f35) = true)
    (a36 : PySem.W.nsIn K mainGlobals "_law_list" = some (some (.ref f36))) (l36 : K.lookup f36 = some ⟨oc36, od36, .func (PySem.W.fnOf "_law_list" "_law_list" (defArgs s__law_list) (defBody s__law_list) (defScope s__law_list) .none kV36 dc36 pm36 an36 cd36 ct36), sl36⟩) (c36 : PySem.W.codeIn K cd36 "_law_list" = true) (k36 : PySem.W.keepIn K (.ref f36) = true)
    (a37 : PySem.W.nsIn K mainGlobals "_law_kept" = some (some (.ref f37))) (l37 : K.lookup f37 = some ⟨oc37, od37, .func (PySem.W.fnOf "_law_kept" "_law_kept" (defArgs s__law_kept) (defBody s__law_kept) (defScope s__law_kept) .none kV37 dc37 pm37 an37 cd37 ct37), sl37⟩) (c37 : PySem.W.codeIn K cd37 "_law_kept" = true) (k37 : PySem.W.keepIn K (.ref f37) = true)
    (a38 : PySem.W.nsIn K mainGlobals "_law_single" = some (some (.ref f38))) (l38 : K.lookup f38 = some ⟨oc38, od38, .func (PySem.W.fnOf "_law_single" "_law_single" (defArgs s__law_single) (defBody s__law_single) (defScope s__law_single) .none kV38 dc38 pm38 an38 cd38 ct38), sl38⟩) (c38 : PySem.W.codeIn K cd38 "_law_single" = true) (k38 : PySem.W.keepIn K (.ref f38) = true)
    (a39 : PySem.W.nsIn K mainGlobals "_law_more" = some (some (.ref f39))) (l39 : K.lookup f39 = some ⟨oc39, od39, .func (PySem.W.fnOf "_law_more" "_law_more" (defArgs s__law_more) (defBody s__law_more) (defScope s__law_more) .none kV39 dc39 pm39 an39 cd39 ct39), sl39⟩) (c39 : PySem.W.codeIn K cd39 "_law_more" = true) (k39 : PySem.W.keepIn K (.ref f39) = true)
    (a40 : PySem.W.nsIn K mainGlobals "_law_back" = some (some (.ref f40))) (l40 : K.lookup f40 = some ⟨oc40, od40, .func (PySem.W.fnOf "_law_back" "_law_back" (defArgs s__law_back) (defBody s__law_back) (defScope s__law_back) .none kV40 dc40 pm40 an40 cd40 ct40), sl40⟩) (c40 : PySem.W.codeIn K cd40 "_law_back" = true) (k40 : PySem.W.keepIn K (.ref f40) = true)
    (a41 : PySem.W.nsIn K mainGlobals "_law_right" = some (some (.ref f41))) (l41 : K.lookup f41 = some ⟨oc41, od41, .func (PySem.W.fnOf "_law_right" "_law_right" (defArgs s__law_right) (defBody s__law_right) (defScope s__law_right) .none kV41 dc41 pm41 an41 cd41 ct41), sl41⟩) (c41 : PySem.W.codeIn K cd41 "_law_right" = true) (k41 : PySem.W.keepIn K (.ref f41) = true)
    (a42 : PySem.W.nsIn K mainGlobals "law" = some (some (.ref f42))) (l42 : K.lookup f42 = some ⟨oc42, od42, .func (PySem.W.fnOf "law" "law" (defArgs s_law) (defBody s_law) (defScope s_law) .none kV42 dc42 pm42 an42 cd42 ct42), sl42⟩) (c42 : PySem.W.codeIn K cd42 "law" = true) (k42 : PySem.W.keepIn K (.ref f42) = true)
    {cmC0 cmP0 cmF0 : Addr} {cmR0 : List Value} {cmod0 cman0 : Option Addr} {cmsl0 : Array (Option Value)} {cmoc0 cmkV0 cmdc0 cmpm0 cmcd0 cmct0 : Value} (cma0 : PySem.W.nsIn K mainGlobals "MergeList" = some (some (.ref cmC0))) (cmb0 : PySem.W.readsIn K cmC0 (.type "type") = true) (cmc0 : PySem.W.specialIn K (.ref cmC0) "__getattribute__" = some (some (.builtin "type.__getattribute__"))) (cmd0 : PySem.W.findCls K (.ref cmC0) (.type "type") "of" = some (.get (.builtin "classmethod.__get__") (.ref cmP0) .none (.ref cmC0))) (cme0 : PySem.W.recIn K cmP0 "classmethod" = some (.ref cmF0 :: cmR0)) (cmf0 : PySem.W.fnIn K cmF0 = true) (cmg0 : K.lookup cmF0 = some ⟨cmoc0, cmod0, .func (PySem.W.fnOf "of" "MergeList.of" (defArgs s_MergeList_of) (defBody s_MergeList_of) (defScope s_MergeList_of) .none cmkV0 cmdc0 cmpm0 cman0 cmcd0 cmct0), cmsl0⟩) (cmh0 : PySem.W.codeIn K cmcd0 "MergeList.of" = true) (cmi0 : PySem.W.keepIn K (.ref cmF0) = true)
    (z0 : PySem.W.nsIn K mainGlobals "ValueError" = some none)
    (z1 : PySem.W.nsIn K mainGlobals "bool" = some none)
    (z2 : PySem.W.nsIn K mainGlobals "enumerate" = some none)
    (z3 : PySem.W.nsIn K mainGlobals "int" = some none)
    (z4 : PySem.W.nsIn K mainGlobals "isinstance" = some none)
    (z5 : PySem.W.nsIn K mainGlobals "len" = some none)
    (z6 : PySem.W.nsIn K mainGlobals "list" = some none)
    (z7 : PySem.W.nsIn K mainGlobals "range" = some none)
    (z8 : PySem.W.nsIn K mainGlobals "repr" = some none)
    (z9 : PySem.W.nsIn K mainGlobals "tuple" = some none)
    {Cx0 Ix0 N0 : Addr} {nm0 q0 : Str} {bs0 : List Value} {sn0 : List Str} {sub0 : List Value} {ab0 : Bool} {col0 : Option Bool} {dd0 : Option Addr} {m00 m10 m20 m30 m50 : Option Value} {odx0 anx0 : Option Addr} {slx0 : Array (Option Value)} {ocx0 kVx0 dcx0 pmx0 cdx0 ctx0 : Value}
    (xa0 : PySem.W.nsIn K mainGlobals "ClosedSide" = some (some (.ref Cx0))) (xL0 : K.lookup Cx0 = some (excClassObj nm0 q0 Cx0 N0 bs0 [.type "ValueError", .type "Exception", .type "BaseException", .type "object"] true sn0 sub0 ab0 col0 dd0 m00 m10 m20 m30 m50 "ValueError.__new__"))
    (xsa0 : PySem.W.findIn K (.ref Cx0) "__setattr__" = some (some (.builtin "object.__setattr__"))) (xga0 : PySem.W.findIn K (.ref Cx0) "__getattribute__" = some (some (.builtin "BaseException.__getattribute__"))) (xgg0 : PySem.W.findIn K (.ref Cx0) "__getattr__" = some none) (xnf0 : PySem.W.findIn K (.ref Cx0) "side" = some none)
    (xi0 : PySem.W.findIn K (.ref Cx0) "__init__" = some (some (.ref Ix0))) (xti0 : PySem.W.typeIn K (.ref Ix0) = some (.type "function")) (xl0 : K.lookup Ix0 = some ⟨ocx0, odx0, .func (PySem.W.fnOf "__init__" "ClosedSide.__init__" (defArgs s_ClosedSide) (defBody s_ClosedSide) (defScope s_ClosedSide) .none kVx0 dcx0 pmx0 anx0 cdx0 ctx0), slx0⟩) (xc0 : PySem.W.codeIn K cdx0 "ClosedSide.__init__" = true) (xki0 : PySem.W.keepIn K (.ref Ix0) = true)
    (xk0 : PySem.W.keepIn K (.ref Cx0) = true) (xe0 : PySem.W.subIn K (.ref Cx0) (.type "BaseException") = some true) (xt0 : PySem.W.typeIn K (.ref Cx0) = some (.type "type")) (xh0 : PySem.W.hasDictIn K Cx0 = true) (xic0 : PySem.W.isClsIn K Cx0 = true) (xca0 : PySem.W.findIn K (.ref Cx0) "__class__" = some (some (.builtin "object.__class__"))) (xmo0 : PySem.W.mroIn K Cx0 (.type "object") = some true)
    {Cx1 Ix1 N1 : Addr} {nm1 q1 : Str} {bs1 : List Value} {sn1 : List Str} {sub1 : List Value} {ab1 : Bool} {col1 : Option Bool} {dd1 : Option Addr} {m01 m11 m21 m31 m51 : Option Value} {odx1 anx1 : Option Addr} {slx1 : Array (Option Value)} {ocx1 kVx1 dcx1 pmx1 cdx1 ctx1 : Value}
    (xa1 : PySem.W.nsIn K mainGlobals "InvalidList" = some (some (.ref Cx1))) (xL1 : K.lookup Cx1 = some (excClassObj nm1 q1 Cx1 N1 bs1 [.type "ValueError", .type "Exception", .type "BaseException", .type "object"] true sn1 sub1 ab1 col1 dd1 m01 m11 m21 m31 m51 "ValueError.__new__"))
    (xsa1 : PySem.W.findIn K (.ref Cx1) "__setattr__" = some (some (.builtin "object.__setattr__"))) (xga1 : PySem.W.findIn K (.ref Cx1) "__getattribute__" = some (some (.builtin "BaseException.__getattribute__"))) (xgg1 : PySem.W.findIn K (.ref Cx1) "__getattr__" = some none) (xnf1 : PySem.W.findIn K (.ref Cx1) "place" = some none)
    (xi1 : PySem.W.findIn K (.ref Cx1) "__init__" = some (some (.ref Ix1))) (xti1 : PySem.W.typeIn K (.ref Ix1) = some (.type "function")) (xl1 : K.lookup Ix1 = some ⟨ocx1, odx1, .func (PySem.W.fnOf "__init__" "InvalidList.__init__" (defArgs s_InvalidList) (defBody s_InvalidList) (defScope s_InvalidList) .none kVx1 dcx1 pmx1 anx1 cdx1 ctx1), slx1⟩) (xc1 : PySem.W.codeIn K cdx1 "InvalidList.__init__" = true) (xki1 : PySem.W.keepIn K (.ref Ix1) = true)
    (xk1 : PySem.W.keepIn K (.ref Cx1) = true) (xe1 : PySem.W.subIn K (.ref Cx1) (.type "BaseException") = some true) (xt1 : PySem.W.typeIn K (.ref Cx1) = some (.type "type")) (xh1 : PySem.W.hasDictIn K Cx1 = true) (xic1 : PySem.W.isClsIn K Cx1 = true) (xca1 : PySem.W.findIn K (.ref Cx1) "__class__" = some (some (.builtin "object.__class__"))) (xmo1 : PySem.W.mroIn K Cx1 (.type "object") = some true)
    {Cx2 Ix2 N2 : Addr} {nm2 q2 : Str} {bs2 : List Value} {sn2 : List Str} {sub2 : List Value} {ab2 : Bool} {col2 : Option Bool} {dd2 : Option Addr} {m02 m12 m22 m32 m52 : Option Value} {odx2 anx2 : Option Addr} {slx2 : Array (Option Value)} {ocx2 kVx2 dcx2 pmx2 cdx2 ctx2 : Value}
    (xa2 : PySem.W.nsIn K mainGlobals "InvalidLists" = some (some (.ref Cx2))) (xL2 : K.lookup Cx2 = some (excClassObj nm2 q2 Cx2 N2 bs2 [.type "ValueError", .type "Exception", .type "BaseException", .type "object"] true sn2 sub2 ab2 col2 dd2 m02 m12 m22 m32 m52 "ValueError.__new__"))
    (xsa2 : PySem.W.findIn K (.ref Cx2) "__setattr__" = some (some (.builtin "object.__setattr__"))) (xga2 : PySem.W.findIn K (.ref Cx2) "__getattribute__" = some (some (.builtin "BaseException.__getattribute__"))) (xgg2 : PySem.W.findIn K (.ref Cx2) "__getattr__" = some none) (xnf2 : PySem.W.findIn K (.ref Cx2) "index" = some none)
    (xi2 : PySem.W.findIn K (.ref Cx2) "__init__" = some (some (.ref Ix2))) (xti2 : PySem.W.typeIn K (.ref Ix2) = some (.type "function")) (xl2 : K.lookup Ix2 = some ⟨ocx2, odx2, .func (PySem.W.fnOf "__init__" "InvalidLists.__init__" (defArgs s_InvalidLists) (defBody s_InvalidLists) (defScope s_InvalidLists) .none kVx2 dcx2 pmx2 anx2 cdx2 ctx2), slx2⟩) (xc2 : PySem.W.codeIn K cdx2 "InvalidLists.__init__" = true) (xki2 : PySem.W.keepIn K (.ref Ix2) = true)
    (xk2 : PySem.W.keepIn K (.ref Cx2) = true) (xe2 : PySem.W.subIn K (.ref Cx2) (.type "BaseException") = some true) (xt2 : PySem.W.typeIn K (.ref Cx2) = some (.type "type")) (xh2 : PySem.W.hasDictIn K Cx2 = true) (xic2 : PySem.W.isClsIn K Cx2 = true) (xca2 : PySem.W.findIn K (.ref Cx2) "__class__" = some (some (.builtin "object.__class__"))) (xmo2 : PySem.W.mroIn K Cx2 (.type "object") = some true)
    {Cx3 Ix3 N3 : Addr} {nm3 q3 : Str} {bs3 : List Value} {sn3 : List Str} {sub3 : List Value} {ab3 : Bool} {col3 : Option Bool} {dd3 : Option Addr} {m03 m13 m23 m33 m53 : Option Value} {odx3 anx3 : Option Addr} {slx3 : Array (Option Value)} {ocx3 kVx3 dcx3 pmx3 cdx3 ctx3 : Value}
    (xa3 : PySem.W.nsIn K mainGlobals "InvalidNumber" = some (some (.ref Cx3))) (xL3 : K.lookup Cx3 = some (excClassObj nm3 q3 Cx3 N3 bs3 [.type "ValueError", .type "Exception", .type "BaseException", .type "object"] true sn3 sub3 ab3 col3 dd3 m03 m13 m23 m33 m53 "ValueError.__new__"))
    (xsa3 : PySem.W.findIn K (.ref Cx3) "__setattr__" = some (some (.builtin "object.__setattr__"))) (xga3 : PySem.W.findIn K (.ref Cx3) "__getattribute__" = some (some (.builtin "BaseException.__getattribute__"))) (xgg3 : PySem.W.findIn K (.ref Cx3) "__getattr__" = some none) (xnf3 : PySem.W.findIn K (.ref Cx3) "number" = some none)
    (xi3 : PySem.W.findIn K (.ref Cx3) "__init__" = some (some (.ref Ix3))) (xti3 : PySem.W.typeIn K (.ref Ix3) = some (.type "function")) (xl3 : K.lookup Ix3 = some ⟨ocx3, odx3, .func (PySem.W.fnOf "__init__" "InvalidNumber.__init__" (defArgs s_InvalidNumber) (defBody s_InvalidNumber) (defScope s_InvalidNumber) .none kVx3 dcx3 pmx3 anx3 cdx3 ctx3), slx3⟩) (xc3 : PySem.W.codeIn K cdx3 "InvalidNumber.__init__" = true) (xki3 : PySem.W.keepIn K (.ref Ix3) = true)
    (xk3 : PySem.W.keepIn K (.ref Cx3) = true) (xe3 : PySem.W.subIn K (.ref Cx3) (.type "BaseException") = some true) (xt3 : PySem.W.typeIn K (.ref Cx3) = some (.type "type")) (xh3 : PySem.W.hasDictIn K Cx3 = true) (xic3 : PySem.W.isClsIn K Cx3 = true) (xca3 : PySem.W.findIn K (.ref Cx3) "__class__" = some (some (.builtin "object.__class__"))) (xmo3 : PySem.W.mroIn K Cx3 (.type "object") = some true)
    {Cx4 Ix4 N4 : Addr} {nm4 q4 : Str} {bs4 : List Value} {sn4 : List Str} {sub4 : List Value} {ab4 : Bool} {col4 : Option Bool} {dd4 : Option Addr} {m04 m14 m24 m34 m54 : Option Value} {odx4 anx4 : Option Addr} {slx4 : Array (Option Value)} {ocx4 kVx4 dcx4 pmx4 cdx4 ctx4 : Value}
    (xa4 : PySem.W.nsIn K mainGlobals "InvalidPlaces" = some (some (.ref Cx4))) (xL4 : K.lookup Cx4 = some (excClassObj nm4 q4 Cx4 N4 bs4 [.type "ValueError", .type "Exception", .type "BaseException", .type "object"] true sn4 sub4 ab4 col4 dd4 m04 m14 m24 m34 m54 "ValueError.__new__"))
    (xsa4 : PySem.W.findIn K (.ref Cx4) "__setattr__" = some (some (.builtin "object.__setattr__"))) (xga4 : PySem.W.findIn K (.ref Cx4) "__getattribute__" = some (some (.builtin "BaseException.__getattribute__"))) (xgg4 : PySem.W.findIn K (.ref Cx4) "__getattr__" = some none) (xnf4 : PySem.W.findIn K (.ref Cx4) "place" = some none)
    (xi4 : PySem.W.findIn K (.ref Cx4) "__init__" = some (some (.ref Ix4))) (xti4 : PySem.W.typeIn K (.ref Ix4) = some (.type "function")) (xl4 : K.lookup Ix4 = some ⟨ocx4, odx4, .func (PySem.W.fnOf "__init__" "InvalidPlaces.__init__" (defArgs s_InvalidPlaces) (defBody s_InvalidPlaces) (defScope s_InvalidPlaces) .none kVx4 dcx4 pmx4 anx4 cdx4 ctx4), slx4⟩) (xc4 : PySem.W.codeIn K cdx4 "InvalidPlaces.__init__" = true) (xki4 : PySem.W.keepIn K (.ref Ix4) = true)
    (xk4 : PySem.W.keepIn K (.ref Cx4) = true) (xe4 : PySem.W.subIn K (.ref Cx4) (.type "BaseException") = some true) (xt4 : PySem.W.typeIn K (.ref Cx4) = some (.type "type")) (xh4 : PySem.W.hasDictIn K Cx4 = true) (xic4 : PySem.W.isClsIn K Cx4 = true) (xca4 : PySem.W.findIn K (.ref Cx4) "__class__" = some (some (.builtin "object.__class__"))) (xmo4 : PySem.W.mroIn K Cx4 (.type "object") = some true)
    {Cx5 Ix5 N5 : Addr} {nm5 q5 : Str} {bs5 : List Value} {sn5 : List Str} {sub5 : List Value} {ab5 : Bool} {col5 : Option Bool} {dd5 : Option Addr} {m05 m15 m25 m35 m55 : Option Value} {odx5 anx5 : Option Addr} {slx5 : Array (Option Value)} {ocx5 kVx5 dcx5 pmx5 cdx5 ctx5 : Value}
    (xa5 : PySem.W.nsIn K mainGlobals "InvalidText" = some (some (.ref Cx5))) (xL5 : K.lookup Cx5 = some (excClassObj nm5 q5 Cx5 N5 bs5 [.type "ValueError", .type "Exception", .type "BaseException", .type "object"] true sn5 sub5 ab5 col5 dd5 m05 m15 m25 m35 m55 "ValueError.__new__"))
    (xsa5 : PySem.W.findIn K (.ref Cx5) "__setattr__" = some (some (.builtin "object.__setattr__"))) (xga5 : PySem.W.findIn K (.ref Cx5) "__getattribute__" = some (some (.builtin "BaseException.__getattribute__"))) (xgg5 : PySem.W.findIn K (.ref Cx5) "__getattr__" = some none) (xnf5 : PySem.W.findIn K (.ref Cx5) "place" = some none)
    (xi5 : PySem.W.findIn K (.ref Cx5) "__init__" = some (some (.ref Ix5))) (xti5 : PySem.W.typeIn K (.ref Ix5) = some (.type "function")) (xl5 : K.lookup Ix5 = some ⟨ocx5, odx5, .func (PySem.W.fnOf "__init__" "InvalidText.__init__" (defArgs s_InvalidText) (defBody s_InvalidText) (defScope s_InvalidText) .none kVx5 dcx5 pmx5 anx5 cdx5 ctx5), slx5⟩) (xc5 : PySem.W.codeIn K cdx5 "InvalidText.__init__" = true) (xki5 : PySem.W.keepIn K (.ref Ix5) = true)
    (xk5 : PySem.W.keepIn K (.ref Cx5) = true) (xe5 : PySem.W.subIn K (.ref Cx5) (.type "BaseException") = some true) (xt5 : PySem.W.typeIn K (.ref Cx5) = some (.type "type")) (xh5 : PySem.W.hasDictIn K Cx5 = true) (xic5 : PySem.W.isClsIn K Cx5 = true) (xca5 : PySem.W.findIn K (.ref Cx5) "__class__" = some (some (.builtin "object.__class__"))) (xmo5 : PySem.W.mroIn K Cx5 (.type "object") = some true)
    {Cx6 Ix6 N6 : Addr} {nm6 q6 : Str} {bs6 : List Value} {sn6 : List Str} {sub6 : List Value} {ab6 : Bool} {col6 : Option Bool} {dd6 : Option Addr} {m06 m16 m26 m36 m56 : Option Value} {odx6 anx6 : Option Addr} {slx6 : Array (Option Value)} {ocx6 kVx6 dcx6 pmx6 cdx6 ctx6 : Value}
    (xa6 : PySem.W.nsIn K mainGlobals "TooMany" = some (some (.ref Cx6))) (xL6 : K.lookup Cx6 = some (excClassObj nm6 q6 Cx6 N6 bs6 [.type "ValueError", .type "Exception", .type "BaseException", .type "object"] true sn6 sub6 ab6 col6 dd6 m06 m16 m26 m36 m56 "ValueError.__new__"))
    (xsa6 : PySem.W.findIn K (.ref Cx6) "__setattr__" = some (some (.builtin "object.__setattr__"))) (xga6 : PySem.W.findIn K (.ref Cx6) "__getattribute__" = some (some (.builtin "BaseException.__getattribute__"))) (xgg6 : PySem.W.findIn K (.ref Cx6) "__getattr__" = some none) (xnf6 : PySem.W.findIn K (.ref Cx6) "count" = some none)
    (xi6 : PySem.W.findIn K (.ref Cx6) "__init__" = some (some (.ref Ix6))) (xti6 : PySem.W.typeIn K (.ref Ix6) = some (.type "function")) (xl6 : K.lookup Ix6 = some ⟨ocx6, odx6, .func (PySem.W.fnOf "__init__" "TooMany.__init__" (defArgs s_TooMany) (defBody s_TooMany) (defScope s_TooMany) .none kVx6 dcx6 pmx6 anx6 cdx6 ctx6), slx6⟩) (xc6 : PySem.W.codeIn K cdx6 "TooMany.__init__" = true) (xki6 : PySem.W.keepIn K (.ref Ix6) = true)
    (xk6 : PySem.W.keepIn K (.ref Cx6) = true) (xe6 : PySem.W.subIn K (.ref Cx6) (.type "BaseException") = some true) (xt6 : PySem.W.typeIn K (.ref Cx6) = some (.type "type")) (xh6 : PySem.W.hasDictIn K Cx6 = true) (xic6 : PySem.W.isClsIn K Cx6 = true) (xca6 : PySem.W.findIn K (.ref Cx6) "__class__" = some (some (.builtin "object.__class__"))) (xmo6 : PySem.W.mroIn K Cx6 (.type "object") = some true)
    {Cx7 Ix7 N7 : Addr} {nm7 q7 : Str} {bs7 : List Value} {sn7 : List Str} {sub7 : List Value} {ab7 : Bool} {col7 : Option Bool} {dd7 : Option Addr} {m07 m17 m27 m37 m57 : Option Value} {odx7 anx7 : Option Addr} {slx7 : Array (Option Value)} {ocx7 kVx7 dcx7 pmx7 cdx7 ctx7 : Value}
    (xa7 : PySem.W.nsIn K mainGlobals "UnknownSide" = some (some (.ref Cx7))) (xL7 : K.lookup Cx7 = some (excClassObj nm7 q7 Cx7 N7 bs7 [.type "ValueError", .type "Exception", .type "BaseException", .type "object"] true sn7 sub7 ab7 col7 dd7 m07 m17 m27 m37 m57 "ValueError.__new__"))
    (xsa7 : PySem.W.findIn K (.ref Cx7) "__setattr__" = some (some (.builtin "object.__setattr__"))) (xga7 : PySem.W.findIn K (.ref Cx7) "__getattribute__" = some (some (.builtin "BaseException.__getattribute__"))) (xgg7 : PySem.W.findIn K (.ref Cx7) "__getattr__" = some none) (xnf7 : PySem.W.findIn K (.ref Cx7) "side" = some none)
    (xi7 : PySem.W.findIn K (.ref Cx7) "__init__" = some (some (.ref Ix7))) (xti7 : PySem.W.typeIn K (.ref Ix7) = some (.type "function")) (xl7 : K.lookup Ix7 = some ⟨ocx7, odx7, .func (PySem.W.fnOf "__init__" "UnknownSide.__init__" (defArgs s_UnknownSide) (defBody s_UnknownSide) (defScope s_UnknownSide) .none kVx7 dcx7 pmx7 anx7 cdx7 ctx7), slx7⟩) (xc7 : PySem.W.codeIn K cdx7 "UnknownSide.__init__" = true) (xki7 : PySem.W.keepIn K (.ref Ix7) = true)
    (xk7 : PySem.W.keepIn K (.ref Cx7) = true) (xe7 : PySem.W.subIn K (.ref Cx7) (.type "BaseException") = some true) (xt7 : PySem.W.typeIn K (.ref Cx7) = some (.type "type")) (xh7 : PySem.W.hasDictIn K Cx7 = true) (xic7 : PySem.W.isClsIn K Cx7 = true) (xca7 : PySem.W.findIn K (.ref Cx7) "__class__" = some (some (.builtin "object.__class__"))) (xmo7 : PySem.W.mroIn K Cx7 (.type "object") = some true)
    (xsp : PySem.W.specialIn K (.builtin "object.__class__") "__get__" = some (some (.builtin "getset_descriptor.__get__"))) (xtk : PySem.W.takesIn K (.builtin "object.__class__") = some true)
    (xm0 : PySem.W.exmOne K (.ref Cx1) (.ref Cx0) = some false)
    (xm1 : PySem.W.exmOne K (.ref Cx1) (.ref Cx1) = some true)
    (xm2 : PySem.W.exmOne K (.ref Cx1) (.ref Cx2) = some false)
    (xm3 : PySem.W.exmOne K (.ref Cx1) (.ref Cx3) = some false)
    (xm4 : PySem.W.exmOne K (.ref Cx1) (.ref Cx4) = some false)
    (xm5 : PySem.W.exmOne K (.ref Cx1) (.ref Cx5) = some false)
    (xns : PySem.W.subIn K (.ref Cx1) (.type "StopIteration") = some false)
    (xq0 : PySem.W.kitOne K (.ref Cx1) (.ref Cx0) = some false)
    (xq1 : PySem.W.kitOne K (.ref Cx1) (.ref Cx1) = some true)
    (xq2 : PySem.W.kitOne K (.ref Cx1) (.ref Cx2) = some false)
    (xq3 : PySem.W.kitOne K (.ref Cx1) (.ref Cx3) = some false)
    (xq4 : PySem.W.kitOne K (.ref Cx1) (.ref Cx4) = some false)
    (xq5 : PySem.W.kitOne K (.ref Cx1) (.ref Cx5) = some false)
    (xq6 : PySem.W.kitOne K (.ref Cx1) (.ref Cx6) = some false)
    (xq7 : PySem.W.kitOne K (.ref Cx1) (.ref Cx7) = some false)
    (xq8 : PySem.W.kitOne K (.ref Cx1) (.type "ValueError") = some true)
    (xq9 : PySem.W.kitOne K (.type "NoneType") (.ref Cx0) = some false)
    (xq10 : PySem.W.kitOne K (.type "NoneType") (.ref Cx1) = some false)
    (xq11 : PySem.W.kitOne K (.type "NoneType") (.ref Cx2) = some false)
    (xq12 : PySem.W.kitOne K (.type "NoneType") (.ref Cx3) = some false)
    (xq13 : PySem.W.kitOne K (.type "NoneType") (.ref Cx4) = some false)
    (xq14 : PySem.W.kitOne K (.type "NoneType") (.ref Cx5) = some false)
    (xq15 : PySem.W.kitOne K (.type "NoneType") (.ref Cx6) = some false)
    (xq16 : PySem.W.kitOne K (.type "NoneType") (.ref Cx7) = some false)
    (xq17 : PySem.W.kitOne K (.type "NoneType") (.type "ValueError") = some false)
    {cc38 tp38 : Addr} (ec38 : cd38 = .ref cc38) {kc38 : Value} {kd38 : Option Addr} {kf38 : Array Value} {ks38 : Array (Option Value)} (lt38 : K.lookup cc38 = some ⟨kc38, kd38, .fields kf38, ks38⟩) (pt38 : kf38[11]? = some (.ref tp38)) (hd38 : PySem.W.codeHdIn K cc38 tp38 = true) (nk38 : K.lookup tp38 = none) (et38 : h.get? tp38 = some (PySem.W.tabObj #[]))
    {cc39 tp39 : Addr} (ec39 : cd39 = .ref cc39) {kc39 : Value} {kd39 : Option Addr} {kf39 : Array Value} {ks39 : Array (Option Value)} (lt39 : K.lookup cc39 = some ⟨kc39, kd39, .fields kf39, ks39⟩) (pt39 : kf39[11]? = some (.ref tp39)) (hd39 : PySem.W.codeHdIn K cc39 tp39 = true) (nk39 : K.lookup tp39 = none) (et39 : h.get? tp39 = some (PySem.W.tabObj #[]))
    {cc40 tp40 : Addr} (ec40 : cd40 = .ref cc40) {kc40 : Value} {kd40 : Option Addr} {kf40 : Array Value} {ks40 : Array (Option Value)} (lt40 : K.lookup cc40 = some ⟨kc40, kd40, .fields kf40, ks40⟩) (pt40 : kf40[11]? = some (.ref tp40)) (hd40 : PySem.W.codeHdIn K cc40 tp40 = true) (nk40 : K.lookup tp40 = none) (et40 : h.get? tp40 = some (PySem.W.tabObj #[]))
    (ndp : [tp38, tp39, tp40].Nodup)
    (step : ∀ (th : Str → Addr) (c : Int), ∃ s', fb_law th ⟨(List.replicate N_law.length none).set 1 (some (.d (.int c))), tbs (TS_ th)⟩ = .ok false s' ∧ ∃ tl, s'.ce = tbs (TS_ th) ++ tl) :
    DL.LawT l.prog w K mg 13 63 "_law_script" fa h := by
  have e := hfa.symm.trans (PySem.W.mg_of X G a42)
  cases e
  let T : Top K mg := { f_is_whole := f0, fd_is_whole := _, F_is_whole := fun_mk (st := s_is_whole) l0 c0 k0, m_is_whole := PySem.W.mg_of X G a0, f_check_list := f1, fd_check_list := _, F_check_list := fun_mk (st := s_check_list) l1 c1 k1, m_check_list := PySem.W.mg_of X G a1, f_units_of := f2, fd_units_of := _, F_units_of := fun_mk (st := s_units_of) l2 c2 k2, m_units_of := PySem.W.mg_of X G a2, f_check_cut := f3, fd_check_cut := _, F_check_cut := fun_mk (st := s_check_cut) l3 c3 k3, m_check_cut := PySem.W.mg_of X G a3, f_cut := f4, fd_cut := _, F_cut := fun_mk (st := s_cut) l4 c4 k4, m_cut := PySem.W.mg_of X G a4, f_boundaries := f5, fd_boundaries := _, F_boundaries := fun_mk (st := s_boundaries) l5 c5 k5, m_boundaries := PySem.W.mg_of X G a5, f_parents := f6, fd_parents := _, F_parents := fun_mk (st := s_parents) l6 c6 k6, m_parents := PySem.W.mg_of X G a6, f_least_places := f7, fd_least_places := _, F_least_places := fun_mk (st := s_least_places) l7 c7 k7, m_least_places := PySem.W.mg_of X G a7, f_found_back := f8, fd_found_back := _, F_found_back := fun_mk (st := s_found_back) l8 c8 k8, m_found_back := PySem.W.mg_of X G a8, f_read_back := f9, fd_read_back := _, F_read_back := fun_mk (st := s_read_back) l9 c9 k9, m_read_back := PySem.W.mg_of X G a9, f_count_results := f10, fd_count_results := _, F_count_results := fun_mk (st := s_count_results) l10 c10 k10, m_count_results := PySem.W.mg_of X G a10, f_each_result := f11, fd_each_result := _, F_each_result := fun_mk (st := s_each_result) l11 c11 k11, m_each_result := PySem.W.mg_of X G a11, f_bounds_of := f12, fd_bounds_of := _, F_bounds_of := fun_mk (st := s_bounds_of) l12 c12 k12, m_bounds_of := PySem.W.mg_of X G a12, f_both := f13, fd_both := _, F_both := fun_mk (st := s_both) l13 c13 k13, m_both := PySem.W.mg_of X G a13, f_either := f14, fd_either := _, F_either := fun_mk (st := s_either) l14 c14 k14, m_either := PySem.W.mg_of X G a14, f_trees := f15, fd_trees := _, F_trees := fun_mk (st := s_trees) l15 c15 k15, m_trees := PySem.W.mg_of X G a15, f_addresses := f16, fd_addresses := _, F_addresses := fun_mk (st := s_addresses) l16 c16 k16, m_addresses := PySem.W.mg_of X G a16, f_check_two := f17, fd_check_two := _, F_check_two := fun_mk (st := s_check_two) l17 c17 k17, m_check_two := PySem.W.mg_of X G a17, f_union := f18, fd_union := _, F_union := fun_mk (st := s_union) l18 c18 k18, m_union := PySem.W.mg_of X G a18, f_intersection := f19, fd_intersection := _, F_intersection := fun_mk (st := s_intersection) l19 c19 k19, m_intersection := PySem.W.mg_of X G a19, f_difference := f20, fd_difference := _, F_difference := fun_mk (st := s_difference) l20 c20 k20, m_difference := PySem.W.mg_of X G a20, f_includes := f21, fd_includes := _, F_includes := fun_mk (st := s_includes) l21 c21 k21, m_includes := PySem.W.mg_of X G a21, f_missing := f22, fd_missing := _, F_missing := fun_mk (st := s_missing) l22 c22 k22, m_missing := PySem.W.mg_of X G a22, f_matches := f23, fd_matches := _, F_matches := fun_mk (st := s_matches) l23 c23 k23, m_matches := PySem.W.mg_of X G a23, f_count_between := f24, fd_count_between := _, F_count_between := fun_mk (st := s_count_between) l24 c24 k24, m_count_between := PySem.W.mg_of X G a24, f_residue := f25, fd_residue := _, F_residue := fun_mk (st := s_residue) l25 c25 k25, m_residue := PySem.W.mg_of X G a25, f_distance := f26, fd_distance := _, F_distance := fun_mk (st := s_distance) l26 c26 k26, m_distance := PySem.W.mg_of X G a26, f_path := f27, fd_path := _, F_path := fun_mk (st := s_path) l27 c27 k27, m_path := PySem.W.mg_of X G a27, f_median := f28, fd_median := _, F_median := fun_mk (st := s_median) l28 c28 k28, m_median := PySem.W.mg_of X G a28, f_three_way := f29, fd_three_way := _, F_three_way := fun_mk (st := s_three_way) l29 c29 k29, m_three_way := PySem.W.mg_of X G a29, f_count_sources := f30, fd_count_sources := _, F_count_sources := fun_mk (st := s_count_sources) l30 c30 k30, m_count_sources := PySem.W.mg_of X G a30, f_sources_by_places := f31, fd_sources_by_places := _, F_sources_by_places := fun_mk (st := s_sources_by_places) l31 c31 k31, m_sources_by_places := PySem.W.mg_of X G a31, f_each_source := f32, fd_each_source := _, F_each_source := fun_mk (st := s_each_source) l32 c32 k32, m_each_source := PySem.W.mg_of X G a32, f_format_list := f33, fd_format_list := _, F_format_list := fun_mk (st := s_format_list) l33 c33 k33, m_format_list := PySem.W.mg_of X G a33, f__law_draws := f34, fd__law_draws := _, F__law_draws := fun_mk (st := s__law_draws) l34 c34 k34, m__law_draws := PySem.W.mg_of X G a34, f__law_next := f35, fd__law_next := _, F__law_next := fun_mk (st := s__law_next) l35 c35 k35, m__law_next := PySem.W.mg_of X G a35, f__law_list := f36, fd__law_list := _, F__law_list := fun_mk (st := s__law_list) l36 c36 k36, m__law_list := PySem.W.mg_of X G a36, f__law_kept := f37, fd__law_kept := _, F__law_kept := fun_mk (st := s__law_kept) l37 c37 k37, m__law_kept := PySem.W.mg_of X G a37, f__law_single := f38, fd__law_single := _, F__law_single := fun_mk (st := s__law_single) l38 c38 k38, m__law_single := PySem.W.mg_of X G a38, f__law_more := f39, fd__law_more := _, F__law_more := fun_mk (st := s__law_more) l39 c39 k39, m__law_more := PySem.W.mg_of X G a39, f__law_back := f40, fd__law_back := _, F__law_back := fun_mk (st := s__law_back) l40 c40 k40, m__law_back := PySem.W.mg_of X G a40, f__law_right := f41, fd__law_right := _, F__law_right := fun_mk (st := s__law_right) l41 c41 k41, m__law_right := PySem.W.mg_of X G a41, f_law := fa, fd_law := _, F_law := fun_mk (st := s_law) l42 c42 k42, m_law := PySem.W.mg_of X G a42, f_MergeList_of := cmF0, fd_MergeList_of := _, F_MergeList_of := fun_mk (st := s_MergeList_of) cmg0 cmh0 cmi0, C_MergeList := cmC0, mc_MergeList := PySem.W.mg_of X G cma0, cr_MergeList := ⟨cmb0, cmc0⟩, p_MergeList_of := cmP0, cm_MergeList_of := ⟨cmd0, ⟨_, cme0⟩, cmf0⟩, m_ValueError := PySem.W.mg_none_of X G z0, m_bool := PySem.W.mg_none_of X G z1, m_enumerate := PySem.W.mg_none_of X G z2, m_int := PySem.W.mg_none_of X G z3, m_isinstance := PySem.W.mg_none_of X G z4, m_len := PySem.W.mg_none_of X G z5, m_list := PySem.W.mg_none_of X G z6, m_range := PySem.W.mg_none_of X G z7, m_repr := PySem.W.mg_none_of X G z8, m_tuple := PySem.W.mg_none_of X G z9, X_ClosedSide := { C := Cx0, fI := Ix0, fd := _, m := PySem.W.mg_of X G xa0, oc := ⟨⟨_, _, _, _, _, _, _, _, _, _, _, _, _, _, _, xL0, by decide +kernel⟩, xsa0, xe0, xt0, xk0⟩, nf := xnf0, iC := xi0, tI := xti0, F := fun_mk (st := s_ClosedSide) xl0 xc0 xki0, xa := ⟨xga0, xgg0, xe0, xh0, xt0, xic0, xca0, xsp, xtk, xmo0⟩ }, X_InvalidList := { C := Cx1, fI := Ix1, fd := _, m := PySem.W.mg_of X G xa1, oc := ⟨⟨_, _, _, _, _, _, _, _, _, _, _, _, _, _, _, xL1, by decide +kernel⟩, xsa1, xe1, xt1, xk1⟩, nf := xnf1, iC := xi1, tI := xti1, F := fun_mk (st := s_InvalidList) xl1 xc1 xki1, xa := ⟨xga1, xgg1, xe1, xh1, xt1, xic1, xca1, xsp, xtk, xmo1⟩ }, X_InvalidLists := { C := Cx2, fI := Ix2, fd := _, m := PySem.W.mg_of X G xa2, oc := ⟨⟨_, _, _, _, _, _, _, _, _, _, _, _, _, _, _, xL2, by decide +kernel⟩, xsa2, xe2, xt2, xk2⟩, nf := xnf2, iC := xi2, tI := xti2, F := fun_mk (st := s_InvalidLists) xl2 xc2 xki2, xa := ⟨xga2, xgg2, xe2, xh2, xt2, xic2, xca2, xsp, xtk, xmo2⟩ }, X_InvalidNumber := { C := Cx3, fI := Ix3, fd := _, m := PySem.W.mg_of X G xa3, oc := ⟨⟨_, _, _, _, _, _, _, _, _, _, _, _, _, _, _, xL3, by decide +kernel⟩, xsa3, xe3, xt3, xk3⟩, nf := xnf3, iC := xi3, tI := xti3, F := fun_mk (st := s_InvalidNumber) xl3 xc3 xki3, xa := ⟨xga3, xgg3, xe3, xh3, xt3, xic3, xca3, xsp, xtk, xmo3⟩ }, X_InvalidPlaces := { C := Cx4, fI := Ix4, fd := _, m := PySem.W.mg_of X G xa4, oc := ⟨⟨_, _, _, _, _, _, _, _, _, _, _, _, _, _, _, xL4, by decide +kernel⟩, xsa4, xe4, xt4, xk4⟩, nf := xnf4, iC := xi4, tI := xti4, F := fun_mk (st := s_InvalidPlaces) xl4 xc4 xki4, xa := ⟨xga4, xgg4, xe4, xh4, xt4, xic4, xca4, xsp, xtk, xmo4⟩ }, X_InvalidText := { C := Cx5, fI := Ix5, fd := _, m := PySem.W.mg_of X G xa5, oc := ⟨⟨_, _, _, _, _, _, _, _, _, _, _, _, _, _, _, xL5, by decide +kernel⟩, xsa5, xe5, xt5, xk5⟩, nf := xnf5, iC := xi5, tI := xti5, F := fun_mk (st := s_InvalidText) xl5 xc5 xki5, xa := ⟨xga5, xgg5, xe5, xh5, xt5, xic5, xca5, xsp, xtk, xmo5⟩ }, X_TooMany := { C := Cx6, fI := Ix6, fd := _, m := PySem.W.mg_of X G xa6, oc := ⟨⟨_, _, _, _, _, _, _, _, _, _, _, _, _, _, _, xL6, by decide +kernel⟩, xsa6, xe6, xt6, xk6⟩, nf := xnf6, iC := xi6, tI := xti6, F := fun_mk (st := s_TooMany) xl6 xc6 xki6, xa := ⟨xga6, xgg6, xe6, xh6, xt6, xic6, xca6, xsp, xtk, xmo6⟩ }, X_UnknownSide := { C := Cx7, fI := Ix7, fd := _, m := PySem.W.mg_of X G xa7, oc := ⟨⟨_, _, _, _, _, _, _, _, _, _, _, _, _, _, _, xL7, by decide +kernel⟩, xsa7, xe7, xt7, xk7⟩, nf := xnf7, iC := xi7, tI := xti7, F := fun_mk (st := s_UnknownSide) xl7 xc7 xki7, xa := ⟨xga7, xgg7, xe7, xh7, xt7, xic7, xca7, xsp, xtk, xmo7⟩ }, x_InvalidList_ClosedSide := xm0, x_InvalidList_InvalidList := xm1, x_InvalidList_InvalidLists := xm2, x_InvalidList_InvalidNumber := xm3, x_InvalidList_InvalidPlaces := xm4, x_InvalidList_InvalidText := xm5, ns_InvalidList := xns, k_InvalidList_ClosedSide := xq0, k_InvalidList_InvalidList := xq1, k_InvalidList_InvalidLists := xq2, k_InvalidList_InvalidNumber := xq3, k_InvalidList_InvalidPlaces := xq4, k_InvalidList_InvalidText := xq5, k_InvalidList_TooMany := xq6, k_InvalidList_UnknownSide := xq7, k_InvalidList_ValueError := xq8, k_NoneType_ClosedSide := xq9, k_NoneType_InvalidList := xq10, k_NoneType_InvalidLists := xq11, k_NoneType_InvalidNumber := xq12, k_NoneType_InvalidPlaces := xq13, k_NoneType_InvalidText := xq14, k_NoneType_TooMany := xq15, k_NoneType_UnknownSide := xq16, k_NoneType_ValueError := xq17, th := fun n => if n = "_law_single" then tp38 else if n = "_law_more" then tp39 else if n = "_law_back" then tp40 else 0, c__law_single := cc38, o__law_single := ec38, c__law_more := cc39, o__law_more := ec39, c__law_back := cc40, o__law_back := ec40 }
  have e0 : (TS_ T.th).map (·.1) = [tp38, tp39, tp40] := rfl
  have hs : ∀ p ∈ [(cc38, tp38), (cc39, tp39), (cc40, tp40)], h.get? p.2 = some (PySem.W.tabObj #[]) ∧ K.lookup p.2 = none ∧ PySem.W.CodeHd h p.1 p.2 := by
    intro p hp
    simp only [List.mem_cons, List.not_mem_nil, or_false] at hp
    rcases hp with rfl | rfl | rfl
    · exact ⟨et38, nk38, PySem.W.codeHd_of_K X hd38⟩
    · exact ⟨et39, nk39, PySem.W.codeHd_of_K X hd39⟩
    · exact ⟨et40, nk40, PySem.W.codeHd_of_K X hd40⟩
  refine ⟨PySem.W.fnOf "law" "law" (defArgs s_law) (defBody s_law) (defScope s_law) .none kV42 dc42 pm42 an42 cd42 ct42, [(cc38, tp38), (cc39, tp39), (cc40, tp40)], spLawT K (TS_ T.th), ⟨fun p hp => (hs p hp).1, fun p hp => (hs p hp).2.1, fun p hp => (hs p hp).2.2⟩, fun s v => .of_eq rfl, fun G a ns hl hT hS => ⟨⟨a, ns, rfl, hS, hl, fun _ => rfl⟩, fun p hp => ?_⟩, fun base hK hN hB => ok_law T ⟨hB (cc38, tp38) (by simp), hB (cc39, tp39) (by simp), hB (cc40, tp40) (by simp)⟩ (by rw [e0]; exact ndp) step⟩
  have hp : p.1 ∈ (TS_ T.th).map (·.1) := List.mem_map.mpr ⟨p, hp, rfl⟩
  rw [e0] at hp
  simp only [List.mem_cons, List.not_mem_nil, or_false] at hp
  rcases hp with hp | hp | hp
  · rw [hp]; exact hT (cc38, tp38) (by simp)
  · rw [hp]; exact hT (cc39, tp39) (by simp)
  · rw [hp]; exact hT (cc40, tp40) (by simp)
end R
open PySem PySem.W PyProof.Rows
set_option maxHeartbeats 0 in
theorem PySem.Challenge.cw_mergeunits_k75_lists_refused_beyond_merg_holds : PySem.Challenge.rw_mergeunits_k75_lists_refused_beyond_merg.Holds := by
  w_on; o_law; k_head; (case hw => w_witness2)
  k_fill
  refine DL.walk_gT (l := PySem.Challenge.rw_mergeunits_k75_lists_refused_beyond_merg) (n := 63) (k := 13) (x := "_law_script") rfl (by decide) rfl ⟨rfl, by decide, by decide⟩ (fun w h Y => PySem.W.km_in_of Y) ?F
  case F =>
    intro w mg fa h Y KX G hmg
    have hT8 := PySem.W.km_tabs_of Y
    refine' R.all_mk KX G hmg ?a0 ?l0 ?c0 ?k0 ?a1 ?l1 ?c1 ?k1 ?a2 ?l2 ?c2 ?k2 ?a3 ?l3 ?c3 ?k3 ?a4 ?l4 ?c4 ?k4 ?a5 ?l5 ?c5 ?k5 ?a6 ?l6 ?c6 ?k6 ?a7 ?l7 ?c7 ?k7 ?a8 ?l8 ?c8 ?k8 ?a9 ?l9 ?c9 ?k9 ?a10 ?l10 ?c10 ?k10 ?a11 ?l11 ?c11 ?k11 ?a12 ?l12 ?c12 ?k12 ?a13 ?l13 ?c13 ?k13 ?a14 ?l14 ?c14 ?k14 ?a15 ?l15 ?c15 ?k15 ?a16 ?l16 ?c16 ?k16 ?a17 ?l17 ?c17 ?k17 ?a18 ?l18 ?c18 ?k18 ?a19 ?l19 ?c19 ?k19 ?a20 ?l20 ?c20 ?k20 ?a21 ?l21 ?c21 ?k21 ?a22 ?l22 ?c22 ?k22 ?a23 ?l23 ?c23 ?k23 ?a24 ?l24 ?c24 ?k24 ?a25 ?l25 ?c25 ?k25 ?a26 ?l26 ?c26 ?k26 ?a27 ?l27 ?c27 ?k27 ?a28 ?l28 ?c28 ?k28 ?a29 ?l29 ?c29 ?k29 ?a30 ?l30 ?c30 ?k30 ?a31 ?l31 ?c31 ?k31 ?a32 ?l32 ?c32 ?k32 ?a33 ?l33 ?c33 ?k33 ?a34 ?l34 ?c34 ?k34 ?a35 ?l35 ?c35 ?k35 ?a36 ?l36 ?c36 ?k36 ?a37 ?l37 ?c37 ?k37 ?a38 ?l38 ?c38 ?k38 ?a39 ?l39 ?c39 ?k39 ?a40 ?l40 ?c40 ?k40 ?a41 ?l41 ?c41 ?k41 ?a42 ?l42 ?c42 ?k42 ?cma0 ?cmb0 ?cmc0 ?cmd0 ?cme0 ?cmf0 ?cmg0 ?cmh0 ?cmi0 ?z0 ?z1 ?z2 ?z3 ?z4 ?z5 ?z6 ?z7 ?z8 ?z9 ?xa0 ?xL0 ?xsa0 ?xga0 ?xgg0 ?xnf0 ?xi0 ?xti0 ?xl0 ?xc0 ?xki0 ?xk0 ?xe0 ?xt0 ?xh0 ?xic0 ?xca0 ?xmo0 ?xa1 ?xL1 ?xsa1 ?xga1 ?xgg1 ?xnf1 ?xi1 ?xti1 ?xl1 ?xc1 ?xki1 ?xk1 ?xe1 ?xt1 ?xh1 ?xic1 ?xca1 ?xmo1 ?xa2 ?xL2 ?xsa2 ?xga2 ?xgg2 ?xnf2 ?xi2 ?xti2 ?xl2 ?xc2 ?xki2 ?xk2 ?xe2 ?xt2 ?xh2 ?xic2 ?xca2 ?xmo2 ?xa3 ?xL3 ?xsa3 ?xga3 ?xgg3 ?xnf3 ?xi3 ?xti3 ?xl3 ?xc3 ?xki3 ?xk3 ?xe3 ?xt3 ?xh3 ?xic3 ?xca3 ?xmo3 ?xa4 ?xL4 ?xsa4 ?xga4 ?xgg4 ?xnf4 ?xi4 ?xti4 ?xl4 ?xc4 ?xki4 ?xk4 ?xe4 ?xt4 ?xh4 ?xic4 ?xca4 ?xmo4 ?xa5 ?xL5 ?xsa5 ?xga5 ?xgg5 ?xnf5 ?xi5 ?xti5 ?xl5 ?xc5 ?xki5 ?xk5 ?xe5 ?xt5 ?xh5 ?xic5 ?xca5 ?xmo5 ?xa6 ?xL6 ?xsa6 ?xga6 ?xgg6 ?xnf6 ?xi6 ?xti6 ?xl6 ?xc6 ?xki6 ?xk6 ?xe6 ?xt6 ?xh6 ?xic6 ?xca6 ?xmo6 ?xa7 ?xL7 ?xsa7 ?xga7 ?xgg7 ?xnf7 ?xi7 ?xti7 ?xl7 ?xc7 ?xki7 ?xk7 ?xe7 ?xt7 ?xh7 ?xic7 ?xca7 ?xmo7 ?xsp ?xtk ?xm0 ?xm1 ?xm2 ?xm3 ?xm4 ?xm5 ?xns ?xq0 ?xq1 ?xq2 ?xq3 ?xq4 ?xq5 ?xq6 ?xq7 ?xq8 ?xq9 ?xq10 ?xq11 ?xq12 ?xq13 ?xq14 ?xq15 ?xq16 ?xq17 ?ec38 ?lt38 ?pt38 ?hd38 ?nk38 (hT8 _ ?et38) ?ec39 ?lt39 ?pt39 ?hd39 ?nk39 (hT8 _ ?et39) ?ec40 ?lt40 ?pt40 ?hd40 ?nk40 (hT8 _ ?et40) ?ndp R.law_step
    (case a0 => k_is); (case l0 => k_is); (case c0 => k_is); (case k0 => k_is)
    (case a1 => k_is); (case l1 => k_is); (case c1 => k_is); (case k1 => k_is)
    (case a2 => k_is); (case l2 => k_is); (case c2 => k_is); (case k2 => k_is)
    (case a3 => k_is); (case l3 => k_is); (case c3 => k_is); (case k3 => k_is)
    (case a4 => k_is); (case l4 => k_is); (case c4 => k_is); (case k4 => k_is)
    (case a5 => k_is); (case l5 => k_is); (case c5 => k_is); (case k5 => k_is)
    (case a6 => k_is); (case l6 => k_is); (case c6 => k_is); (case k6 => k_is)
    (case a7 => k_is); (case l7 => k_is); (case c7 => k_is); (case k7 => k_is)
    (case a8 => k_is); (case l8 => k_is); (case c8 => k_is); (case k8 => k_is)
    (case a9 => k_is); (case l9 => k_is); (case c9 => k_is); (case k9 => k_is)
    (case a10 => k_is); (case l10 => k_is); (case c10 => k_is); (case k10 => k_is)
    (case a11 => k_is); (case l11 => k_is); (case c11 => k_is); (case k11 => k_is)
    (case a12 => k_is); (case l12 => k_is); (case c12 => k_is); (case k12 => k_is)
    (case a13 => k_is); (case l13 => k_is); (case c13 => k_is); (case k13 => k_is)
    (case a14 => k_is); (case l14 => k_is); (case c14 => k_is); (case k14 => k_is)
    (case a15 => k_is); (case l15 => k_is); (case c15 => k_is); (case k15 => k_is)
    (case a16 => k_is); (case l16 => k_is); (case c16 => k_is); (case k16 => k_is)
    (case a17 => k_is); (case l17 => k_is); (case c17 => k_is); (case k17 => k_is)
    (case a18 => k_is); (case l18 => k_is); (case c18 => k_is); (case k18 => k_is)
    (case a19 => k_is); (case l19 => k_is); (case c19 => k_is); (case k19 => k_is)
    (case a20 => k_is); (case l20 => k_is); (case c20 => k_is); (case k20 => k_is)
    (case a21 => k_is); (case l21 => k_is); (case c21 => k_is); (case k21 => k_is)
    (case a22 => k_is); (case l22 => k_is); (case c22 => k_is); (case k22 => k_is)
    (case a23 => k_is); (case l23 => k_is); (case c23 => k_is); (case k23 => k_is)
    (case a24 => k_is); (case l24 => k_is); (case c24 => k_is); (case k24 => k_is)
    (case a25 => k_is); (case l25 => k_is); (case c25 => k_is); (case k25 => k_is)
    (case a26 => k_is); (case l26 => k_is); (case c26 => k_is); (case k26 => k_is)
    (case a27 => k_is); (case l27 => k_is); (case c27 => k_is); (case k27 => k_is)
    (case a28 => k_is); (case l28 => k_is); (case c28 => k_is); (case k28 => k_is)
    (case a29 => k_is); (case l29 => k_is); (case c29 => k_is); (case k29 => k_is)
    (case a30 => k_is); (case l30 => k_is); (case c30 => k_is); (case k30 => k_is)
    (case a31 => k_is); (case l31 => k_is); (case c31 => k_is); (case k31 => k_is)
    (case a32 => k_is); (case l32 => k_is); (case c32 => k_is); (case k32 => k_is)
    (case a33 => k_is); (case l33 => k_is); (case c33 => k_is); (case k33 => k_is)
    (case a34 => k_is); (case l34 => k_is); (case c34 => k_is); (case k34 => k_is)
    (case a35 => k_is); (case l35 => k_is); (case c35 => k_is); (case k35 => k_is)
    (case a36 => k_is); (case l36 => k_is); (case c36 => k_is); (case k36 => k_is)
    (case a37 => k_is); (case l37 => k_is); (case c37 => k_is); (case k37 => k_is)
    (case a38 => k_is); (case l38 => k_is); (case c38 => k_is); (case k38 => k_is)
    (case a39 => k_is); (case l39 => k_is); (case c39 => k_is); (case k39 => k_is)
    (case a40 => k_is); (case l40 => k_is); (case c40 => k_is); (case k40 => k_is)
    (case a41 => k_is); (case l41 => k_is); (case c41 => k_is); (case k41 => k_is)
    (case a42 => k_is); (case l42 => k_is); (case c42 => k_is); (case k42 => k_is)
    (case cma0 => first | k_is | rfl)
    (case cmb0 => first | k_is | rfl)
    (case cmc0 => first | k_is | rfl)
    (case cmd0 => first | k_is | rfl)
    (case cme0 => first | k_is | rfl)
    (case cmf0 => first | k_is | rfl)
    (case cmg0 => first | k_is | rfl)
    (case cmh0 => first | k_is | rfl)
    (case cmi0 => first | k_is | rfl)
    (case z0 => k_is)
    (case z1 => k_is)
    (case z2 => k_is)
    (case z3 => k_is)
    (case z4 => k_is)
    (case z5 => k_is)
    (case z6 => k_is)
    (case z7 => k_is)
    (case z8 => k_is)
    (case z9 => k_is)
    (case ec38 => rfl); (case lt38 => k_is); (case pt38 => rfl); (case hd38 => kernel_rfl); (case nk38 => first | k_is | kernel_rfl); (case et38 => first | k_mem | decide | simp)
    (case ec39 => rfl); (case lt39 => k_is); (case pt39 => rfl); (case hd39 => kernel_rfl); (case nk39 => first | k_is | kernel_rfl); (case et39 => first | k_mem | decide | simp)
    (case ec40 => rfl); (case lt40 => k_is); (case pt40 => rfl); (case hd40 => kernel_rfl); (case nk40 => first | k_is | kernel_rfl); (case et40 => first | k_mem | decide | simp)
    (case ndp => decide)
    (case xa0 => k_is)
    (case xL0 => k_is)
    (case xsa0 => first | k_is | rfl | decide +kernel)
    (case xga0 => k_is)
    (case xgg0 => k_is)
    (case xnf0 => k_is)
    (case xi0 => k_is)
    (case xti0 => first | k_is | rfl | decide +kernel)
    (case xl0 => k_is)
    (case xc0 => k_is)
    (case xki0 => k_is)
    (case xk0 => k_is)
    (case xe0 => k_is)
    (case xt0 => first | k_is | rfl | decide +kernel)
    (case xh0 => k_is)
    (case xic0 => k_is)
    (case xca0 => k_is)
    (case xmo0 => first | k_is | rfl | decide +kernel)
    (case xa1 => k_is)
    (case xL1 => k_is)
    (case xsa1 => first | k_is | rfl | decide +kernel)
    (case xga1 => k_is)
    (case xgg1 => k_is)
    (case xnf1 => k_is)
    (case xi1 => k_is)
    (case xti1 => first | k_is | rfl | decide +kernel)
    (case xl1 => k_is)
    (case xc1 => k_is)
    (case xki1 => k_is)
    (case xk1 => k_is)
    (case xe1 => k_is)
    (case xt1 => first | k_is | rfl | decide +kernel)
    (case xh1 => k_is)
    (case xic1 => k_is)
    (case xca1 => k_is)
    (case xmo1 => first | k_is | rfl | decide +kernel)
    (case xa2 => k_is)
    (case xL2 => k_is)
    (case xsa2 => first | k_is | rfl | decide +kernel)
    (case xga2 => k_is)
    (case xgg2 => k_is)
    (case xnf2 => k_is)
    (case xi2 => k_is)
    (case xti2 => first | k_is | rfl | decide +kernel)
    (case xl2 => k_is)
    (case xc2 => k_is)
    (case xki2 => k_is)
    (case xk2 => k_is)
    (case xe2 => k_is)
    (case xt2 => first | k_is | rfl | decide +kernel)
    (case xh2 => k_is)
    (case xic2 => k_is)
    (case xca2 => k_is)
    (case xmo2 => first | k_is | rfl | decide +kernel)
    (case xa3 => k_is)
    (case xL3 => k_is)
    (case xsa3 => first | k_is | rfl | decide +kernel)
    (case xga3 => k_is)
    (case xgg3 => k_is)
    (case xnf3 => k_is)
    (case xi3 => k_is)
    (case xti3 => first | k_is | rfl | decide +kernel)
    (case xl3 => k_is)
    (case xc3 => k_is)
    (case xki3 => k_is)
    (case xk3 => k_is)
    (case xe3 => k_is)
    (case xt3 => first | k_is | rfl | decide +kernel)
    (case xh3 => k_is)
    (case xic3 => k_is)
    (case xca3 => k_is)
    (case xmo3 => first | k_is | rfl | decide +kernel)
    (case xa4 => k_is)
    (case xL4 => k_is)
    (case xsa4 => first | k_is | rfl | decide +kernel)
    (case xga4 => k_is)
    (case xgg4 => k_is)
    (case xnf4 => k_is)
    (case xi4 => k_is)
    (case xti4 => first | k_is | rfl | decide +kernel)
    (case xl4 => k_is)
    (case xc4 => k_is)
    (case xki4 => k_is)
    (case xk4 => k_is)
    (case xe4 => k_is)
    (case xt4 => first | k_is | rfl | decide +kernel)
    (case xh4 => k_is)
    (case xic4 => k_is)
    (case xca4 => k_is)
    (case xmo4 => first | k_is | rfl | decide +kernel)
    (case xa5 => k_is)
    (case xL5 => k_is)
    (case xsa5 => first | k_is | rfl | decide +kernel)
    (case xga5 => k_is)
    (case xgg5 => k_is)
    (case xnf5 => k_is)
    (case xi5 => k_is)
    (case xti5 => first | k_is | rfl | decide +kernel)
    (case xl5 => k_is)
    (case xc5 => k_is)
    (case xki5 => k_is)
    (case xk5 => k_is)
    (case xe5 => k_is)
    (case xt5 => first | k_is | rfl | decide +kernel)
    (case xh5 => k_is)
    (case xic5 => k_is)
    (case xca5 => k_is)
    (case xmo5 => first | k_is | rfl | decide +kernel)
    (case xa6 => k_is)
    (case xL6 => k_is)
    (case xsa6 => first | k_is | rfl | decide +kernel)
    (case xga6 => k_is)
    (case xgg6 => k_is)
    (case xnf6 => k_is)
    (case xi6 => k_is)
    (case xti6 => first | k_is | rfl | decide +kernel)
    (case xl6 => k_is)
    (case xc6 => k_is)
    (case xki6 => k_is)
    (case xk6 => k_is)
    (case xe6 => k_is)
    (case xt6 => first | k_is | rfl | decide +kernel)
    (case xh6 => k_is)
    (case xic6 => k_is)
    (case xca6 => k_is)
    (case xmo6 => first | k_is | rfl | decide +kernel)
    (case xa7 => k_is)
    (case xL7 => k_is)
    (case xsa7 => first | k_is | rfl | decide +kernel)
    (case xga7 => k_is)
    (case xgg7 => k_is)
    (case xnf7 => k_is)
    (case xi7 => k_is)
    (case xti7 => first | k_is | rfl | decide +kernel)
    (case xl7 => k_is)
    (case xc7 => k_is)
    (case xki7 => k_is)
    (case xk7 => k_is)
    (case xe7 => k_is)
    (case xt7 => first | k_is | rfl | decide +kernel)
    (case xh7 => k_is)
    (case xic7 => k_is)
    (case xca7 => k_is)
    (case xmo7 => first | k_is | rfl | decide +kernel)
    (case xsp => first | k_is | rfl | decide +kernel)
    (case xtk => first | k_is | rfl | decide +kernel)
    (case xm0 => first | k_is | rfl | decide +kernel)
    (case xm1 => first | k_is | rfl | decide +kernel)
    (case xm2 => first | k_is | rfl | decide +kernel)
    (case xm3 => first | k_is | rfl | decide +kernel)
    (case xm4 => first | k_is | rfl | decide +kernel)
    (case xm5 => first | k_is | rfl | decide +kernel)
    (case xns => k_is)
    (case xq0 => first | k_is | rfl | decide +kernel)
    (case xq1 => first | k_is | rfl | decide +kernel)
    (case xq2 => first | k_is | rfl | decide +kernel)
    (case xq3 => first | k_is | rfl | decide +kernel)
    (case xq4 => first | k_is | rfl | decide +kernel)
    (case xq5 => first | k_is | rfl | decide +kernel)
    (case xq6 => first | k_is | rfl | decide +kernel)
    (case xq7 => first | k_is | rfl | decide +kernel)
    (case xq8 => first | k_is | rfl | decide +kernel)
    (case xq9 => first | k_is | rfl | decide +kernel)
    (case xq10 => first | k_is | rfl | decide +kernel)
    (case xq11 => first | k_is | rfl | decide +kernel)
    (case xq12 => first | k_is | rfl | decide +kernel)
    (case xq13 => first | k_is | rfl | decide +kernel)
    (case xq14 => first | k_is | rfl | decide +kernel)
    (case xq15 => first | k_is | rfl | decide +kernel)
    (case xq16 => first | k_is | rfl | decide +kernel)
    (case xq17 => first | k_is | rfl | decide +kernel)

end Zsec

