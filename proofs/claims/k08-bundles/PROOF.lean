import PyProof.Rows.All
import HandS.ForMost
import HandS.Exc
import HandS.TryOnly
import HandS.ExcOwn
import HandS.ExcField
import HandS.ExcInit
import HandS.WordsExc
import HandS.Defaults
import HandS.Wide
import HandS.Lambda
import HandS.HeadHook2
import HandS.Deep
import HandS.TupAny
import HandS.TupMul
import HandS.IsInst
import HandS.Style
import KE.DataEq
import HandS.Iter
import HandS.Zip
import HandS.Comp
import KE.KExcSuper
import HandS.Head0
import HandS.HeadWalk
import HandS.CallLocal
import HandS.Head1
import HandS.Head2
import HandS.HeadEnd
import HandS.HeadHook1
import HandS.HeadHook3
import HandS.HeadHook4
import HandS.Zip0
import KE.SortData
import KE.DataMinMax
import HandS.SortKw
import HandS.Conv
import HandS.SetFor
import HandS.Strs
import HandS.TupSets
import KE.KTupSum
import KE.DatumIndex
import KE.KDictKeyed
import KE.KDictDisplayH
import KE.DataCmp
import KE.GoesEnum
import KE.GoesMore
import PyProof.TupleOfSeq
import PyProof.Rows.SortRev
import KE.KDictWalk
import KE.KDictZip
import PySem.Challenge.RW_cordwalk_k08_whole_bundles
import KE.DatumOrd
import KE.DatumMoreOrd
set_option Elab.async false
set_option linter.all false
set_option maxRecDepth 100000
set_option maxHeartbeats 0
/-! Pm1: plain values, plain environments; how they stand in the abstract heap. -/
namespace Pm
open PySem PySem.Spec PyProof.Rows L2

abbrev D := PyData
/-! ### data in a heap that only grows -/
def Ext (R R' : Hp) : Prop := ∀ a o, R a = some o → R' a = some o
theorem Ext.refl (R : Hp) : Ext R R := fun _ _ h => h
theorem Ext.trans {R R1 R2 : Hp} (a : Ext R R1) (b : Ext R1 R2) : Ext R R2 := fun c o h => b c o (a c o h)
theorem Ext.none {R R' : Hp} (a : Ext R R') {c : Addr} (h : R' c = Option.none) : R c = Option.none := by
  cases q : R c with
  | none => rfl
  | some o => rw [a c o q] at h; cases h
theorem Ext.put {R R' : Hp} (a : Ext R R') {c : Addr} {o : HO} (h : R c = Option.none) : Ext R (upd R' c o) := fun b u e => by
  rw [upd_ne (ne_of_none e h)]; exact a b u e
theorem ext_upd {R : Hp} {c : Addr} {o : HO} (h : R c = Option.none) : Ext R (upd R c o) := (Ext.refl R).put h
theorem Ext.both {R R' : Hp} (a : Ext R R') {c : Addr} {o : HO} : Ext (upd R c o) (upd R' c o) := fun b u e => by
  by_cases hb : b = c
  · subst hb; rw [upd_same] at e ⊢; exact e
  · rw [upd_ne hb] at e ⊢; exact a b u e
theorem Ext.rd {R R' : Hp} {a : Addr} {u : HO} (e : Ext R R') (h : Rd R a u) : Rd R' a u := by
  rcases h with h | ⟨o, h⟩
  · exact .inl (e _ _ h)
  · exact .inr ⟨o, e _ _ h⟩
theorem Ext.sql {K : PySem.W.Frag} {R R' : Hp} {a : Addr} {xs : List V} (e : Ext R R') (h : SqL K R a xs) : SqL K R' a xs := h.elim (fun h => .inl (e.rd h)) .inr
theorem Ext.sqt {K : PySem.W.Frag} {R R' : Hp} {a : Addr} {xs : List V} (e : Ext R R') (h : SqT K R a xs) : SqT K R' a xs := h.elim (fun h => .inl (e.rd h)) .inr

def keyD : Key → D
  | .inl i => .int i
  | .inr x => .str x
def keysD (ks : List Key) : D := .tuple (ks.map keyD)
/-- a dict at a, its keys as data, its values -/
def DicAt (R : Hp) (a : Addr) (kds : List D) (xs : List V) : Prop :=
  (∃ ks : List Key, ks.length = xs.length ∧ R a = some (.dK (ks.zip xs)) ∧ kds = ks.map keyD) ∨ (∃ ks : List (List Key), ks.length = xs.length ∧ R a = some (.dT (ks.zip xs)) ∧ kds = ks.map keysD)
theorem Ext.dic {R R' : Hp} {a : Addr} {kds : List D} {xs : List V} (e : Ext R R') (h : DicAt R a kds xs) : DicAt R' a kds xs := by
  rcases h with ⟨ks, h1, h2, h3⟩ | ⟨ks, h1, h2, h3⟩
  · exact .inl ⟨ks, h1, e _ _ h2, h3⟩
  · exact .inr ⟨ks, h1, e _ _ h2, h3⟩
mutual
/-- v reads as d in R -/
def Dq (K : PySem.W.Frag) (R : Hp) : D → V → Prop
  | .none, v => v = .non
  | .bool b, v => v = .bl b
  | .int i, v => v = .int i
  | .str x, v => v = .str x
  | .list ds, v => ∃ a xs, v = .ref a ∧ R a = some (.lst xs) ∧ DqA K R ds xs
  | .tuple ds, v => ∃ a xs, v = .ref a ∧ R a = some (.tup xs) ∧ DqA K R ds xs
  | .dict kvs, v => ∃ a xs, v = .ref a ∧ DicAt R a (kvs.map (·.1)) xs ∧ DqV K R kvs xs
def DqA (K : PySem.W.Frag) (R : Hp) : List D → List V → Prop
  | [], xs => xs = []
  | d :: ds, xs => ∃ x r, xs = x :: r ∧ Dq K R d x ∧ DqA K R ds r
def DqV (K : PySem.W.Frag) (R : Hp) : List (D × D) → List V → Prop
  | [], xs => xs = []
  | (_, d) :: ds, xs => ∃ x r, xs = x :: r ∧ Dq K R d x ∧ DqV K R ds r
end
section
variable {K : PySem.W.Frag} {R R' : Hp}
theorem dq_none {v : V} : Dq K R .none v ↔ v = .non := by rw [Dq]
theorem dq_bool {b : Bool} {v : V} : Dq K R (.bool b) v ↔ v = .bl b := by rw [Dq]
theorem dq_int {i : Int} {v : V} : Dq K R (.int i) v ↔ v = .int i := by rw [Dq]
theorem dq_str {x : Str} {v : V} : Dq K R (.str x) v ↔ v = .str x := by rw [Dq]
theorem dq_list {ds : List D} {v : V} : Dq K R (.list ds) v ↔ ∃ a xs, v = .ref a ∧ R a = some (.lst xs) ∧ DqA K R ds xs := by rw [Dq]
theorem dq_tuple {ds : List D} {v : V} : Dq K R (.tuple ds) v ↔ ∃ a xs, v = .ref a ∧ R a = some (.tup xs) ∧ DqA K R ds xs := by rw [Dq]
theorem dq_dict {kvs : List (D × D)} {v : V} : Dq K R (.dict kvs) v ↔ ∃ a xs, v = .ref a ∧ DicAt R a (kvs.map (·.1)) xs ∧ DqV K R kvs xs := by rw [Dq]
theorem dqa_nil {xs : List V} : DqA K R [] xs ↔ xs = [] := by rw [DqA]
theorem dqa_cons {d : D} {ds : List D} {xs : List V} : DqA K R (d :: ds) xs ↔ ∃ x r, xs = x :: r ∧ Dq K R d x ∧ DqA K R ds r := by rw [DqA]
theorem dqv_nil {xs : List V} : DqV K R [] xs ↔ xs = [] := by rw [DqV]
theorem dqv_cons {p : D × D} {ds : List (D × D)} {xs : List V} : DqV K R (p :: ds) xs ↔ ∃ x r, xs = x :: r ∧ Dq K R p.2 x ∧ DqV K R ds r := by
  obtain ⟨k, d⟩ := p
  rw [DqV]
theorem dqv_map : ∀ {ds : List (D × D)} {xs : List V}, DqV K R ds xs ↔ DqA K R (ds.map (·.2)) xs
  | [], xs => by rw [dqv_nil, List.map_nil, dqa_nil]
  | p :: ds, xs => by
    rw [dqv_cons, List.map_cons, dqa_cons]
    constructor
    · rintro ⟨x, r, e, h1, h2⟩; exact ⟨x, r, e, h1, dqv_map.mp h2⟩
    · rintro ⟨x, r, e, h1, h2⟩; exact ⟨x, r, e, h1, dqv_map.mpr h2⟩
mutual
theorem Dq.mono (e : Ext R R') : ∀ (d : D) (v : V), Dq K R d v → Dq K R' d v
  | .none, _, h => by rw [dq_none] at h ⊢; exact h
  | .bool _, _, h => by rw [dq_bool] at h ⊢; exact h
  | .int _, _, h => by rw [dq_int] at h ⊢; exact h
  | .str _, _, h => by rw [dq_str] at h ⊢; exact h
  | .list ds, _, h => by
    rw [dq_list] at h ⊢
    obtain ⟨a, xs, e1, h1, h2⟩ := h
    exact ⟨a, xs, e1, e _ _ h1, DqA.mono e ds _ h2⟩
  | .tuple ds, _, h => by
    rw [dq_tuple] at h ⊢
    obtain ⟨a, xs, e1, h1, h2⟩ := h
    exact ⟨a, xs, e1, e _ _ h1, DqA.mono e ds _ h2⟩
  | .dict kvs, _, h => by
    rw [dq_dict] at h ⊢
    obtain ⟨a, xs, e1, h1, h2⟩ := h
    exact ⟨a, xs, e1, e.dic h1, DqV.mono e kvs _ h2⟩
theorem DqA.mono (e : Ext R R') : ∀ (ds : List D) (vs : List V), DqA K R ds vs → DqA K R' ds vs
  | [], _, h => by rw [dqa_nil] at h ⊢; exact h
  | d :: ds, _, h => by
    rw [dqa_cons] at h ⊢
    obtain ⟨x, r, e1, h1, h2⟩ := h
    exact ⟨x, r, e1, Dq.mono e d _ h1, DqA.mono e ds _ h2⟩
theorem DqV.mono (e : Ext R R') : ∀ (ds : List (D × D)) (vs : List V), DqV K R ds vs → DqV K R' ds vs
  | [], _, h => by rw [dqv_nil] at h ⊢; exact h
  | (k, d) :: ds, _, h => by
    rw [dqv_cons] at h ⊢
    obtain ⟨x, r, e1, h1, h2⟩ := h
    exact ⟨x, r, e1, Dq.mono e d _ h1, DqV.mono e ds _ h2⟩
end
theorem DqA.length : ∀ {ds : List D} {vs : List V}, DqA K R ds vs → ds.length = vs.length
  | [], _, h => by rw [dqa_nil] at h; rw [h]; rfl
  | d :: ds, _, h => by
    rw [dqa_cons] at h
    obtain ⟨x, r, e1, h1, h2⟩ := h
    rw [e1, List.length_cons, List.length_cons, DqA.length h2]
theorem DqA.get : ∀ {ds : List D} {vs : List V} {i : Nat} {d : D}, DqA K R ds vs → ds[i]? = some d → ∃ v, vs[i]? = some v ∧ Dq K R d v
  | [], _, _, _, _, e => by simp at e
  | d :: ds, vs, 0, _, h, e => by
    rw [dqa_cons] at h
    obtain ⟨x, r, e1, h1, h2⟩ := h
    simp at e; subst e; subst e1
    exact ⟨x, rfl, h1⟩
  | d :: ds, vs, i + 1, _, h, e => by
    rw [dqa_cons] at h
    obtain ⟨x, r, e1, h1, h2⟩ := h
    subst e1
    obtain ⟨v, q1, q2⟩ := DqA.get (i := i) h2 (by simpa using e)
    exact ⟨v, by simpa using q1, q2⟩
theorem DqA.append : ∀ {ds ds' : List D} {vs vs' : List V}, DqA K R ds vs → DqA K R ds' vs' → DqA K R (ds ++ ds') (vs ++ vs')
  | [], _, _, _, h, h' => by rw [dqa_nil] at h; subst h; exact h'
  | d :: ds, _, _, _, h, h' => by
    rw [dqa_cons] at h
    obtain ⟨x, r, e1, h1, h2⟩ := h
    subst e1
    exact dqa_cons.mpr ⟨x, _, rfl, h1, DqA.append h2 h'⟩
theorem dqa_one {d : D} {v : V} (h : Dq K R d v) : DqA K R [d] [v] := dqa_cons.mpr ⟨v, [], rfl, h, dqa_nil.mpr rfl⟩
theorem DqA.take : ∀ {ds : List D} {vs : List V} (n : Nat), DqA K R ds vs → DqA K R (ds.take n) (vs.take n)
  | _, _, 0, _ => dqa_nil.mpr rfl
  | [], _, n + 1, h => by rw [dqa_nil] at h; subst h; exact dqa_nil.mpr rfl
  | d :: ds, _, n + 1, h => by
    rw [dqa_cons] at h
    obtain ⟨x, r, e1, h1, h2⟩ := h
    subst e1
    exact dqa_cons.mpr ⟨x, _, rfl, h1, DqA.take n h2⟩
theorem DqA.drop : ∀ {ds : List D} {vs : List V} (n : Nat), DqA K R ds vs → DqA K R (ds.drop n) (vs.drop n)
  | _, _, 0, h => h
  | [], _, n + 1, h => by rw [dqa_nil] at h; subst h; exact dqa_nil.mpr rfl
  | d :: ds, _, n + 1, h => by
    rw [dqa_cons] at h
    obtain ⟨x, r, e1, h1, h2⟩ := h
    subst e1
    exact DqA.drop n h2
theorem DqA.set : ∀ {ds : List D} {vs : List V} {d : D} {v : V} (n : Nat), DqA K R ds vs → Dq K R d v → DqA K R (ds.set n d) (vs.set n v)
  | [], _, _, _, n, h, _ => by rw [dqa_nil] at h; subst h; exact dqa_nil.mpr rfl
  | d :: ds, _, _, _, 0, h, q => by
    rw [dqa_cons] at h
    obtain ⟨x, r, e1, h1, h2⟩ := h
    subst e1
    exact dqa_cons.mpr ⟨_, _, rfl, q, h2⟩
  | d :: ds, _, _, _, n + 1, h, q => by
    rw [dqa_cons] at h
    obtain ⟨x, r, e1, h1, h2⟩ := h
    subst e1
    exact dqa_cons.mpr ⟨_, _, rfl, h1, DqA.set n h2 q⟩
theorem DqA.eraseIdx : ∀ {ds : List D} {vs : List V} (n : Nat), DqA K R ds vs → DqA K R (ds.eraseIdx n) (vs.eraseIdx n)
  | [], _, n, h => by rw [dqa_nil] at h; subst h; exact dqa_nil.mpr rfl
  | d :: ds, _, 0, h => by
    rw [dqa_cons] at h
    obtain ⟨x, r, e1, h1, h2⟩ := h
    subst e1
    exact h2
  | d :: ds, _, n + 1, h => by
    rw [dqa_cons] at h
    obtain ⟨x, r, e1, h1, h2⟩ := h
    subst e1
    exact dqa_cons.mpr ⟨_, _, rfl, h1, DqA.eraseIdx n h2⟩
theorem dqa_ints : ∀ (ns : List Int), DqA K R (ns.map .int) (ns.map V.int)
  | [] => dqa_nil.mpr rfl
  | n :: ns => dqa_cons.mpr ⟨_, _, rfl, dq_int.mpr rfl, dqa_ints ns⟩
theorem DqA.ints : ∀ {ns : List Int} {vs : List V}, DqA K R (ns.map .int) vs → vs = ns.map V.int
  | [], _, h => by rw [List.map_nil, dqa_nil] at h; rw [h]; rfl
  | n :: ns, _, h => by
    rw [List.map_cons, dqa_cons] at h
    obtain ⟨x, r, e1, h1, h2⟩ := h
    rw [e1, dq_int.mp h1, DqA.ints h2]; rfl
theorem DqA.bools : ∀ {ns : List Bool} {vs : List V}, DqA K R (ns.map .bool) vs → vs = ns.map V.bl
  | [], _, h => by rw [List.map_nil, dqa_nil] at h; rw [h]; rfl
  | n :: ns, _, h => by
    rw [List.map_cons, dqa_cons] at h
    obtain ⟨x, r, e1, h1, h2⟩ := h
    rw [e1, dq_bool.mp h1, DqA.bools h2]; rfl
theorem DqA.rep {ds : List D} {vs : List V} (h : DqA K R ds vs) : ∀ k : Nat, DqA K R (List.replicate k ds).flatten (List.replicate k vs).flatten
  | 0 => dqa_nil.mpr rfl
  | k + 1 => by
    rw [List.replicate_succ, List.replicate_succ, List.flatten_cons, List.flatten_cons]
    exact h.append (DqA.rep h k)
theorem DqA.reverse {ds : List D} : ∀ {vs : List V}, DqA K R ds vs → DqA K R ds.reverse vs.reverse := by
  induction ds with
  | nil => intro vs h; rw [dqa_nil] at h; subst h; exact dqa_nil.mpr rfl
  | cons d ds ih =>
    intro vs h
    rw [dqa_cons] at h
    obtain ⟨x, r, e1, h1, h2⟩ := h
    subst e1
    rw [List.reverse_cons, List.reverse_cons]
    exact (ih h2).append (dqa_one h1)
end
end Pm

/-! Pm2: the plain environment, what stands of it in a state; readings that do what a plain function says. -/
namespace Pm
open PySem PySem.Spec PyProof.Rows L2

/-- a list, a dict of a def's own, not yet shared -/
inductive Ow where
  | l (ds : List D)
  | dk (kvs : List (Key × D))
  | dt (kvs : List (List Key × D))
/-- a slot -/
inductive Sl where
  | un
  | v (d : D)
  | own (w : Ow)
  | dice (ds : List D)
  | raw (x : V)
  | scr (ns : List Int)
  | fn (n : Nat)
abbrev PE0 := List Sl
inductive Re (α : Type) where
  | ok (a : α) (ρ : PE0)
  | bad
inductive Fl where
  | nx (ρ : PE0)
  | rt (d : D) (ρ : PE0)
  | rto (w : Ow) (ρ : PE0)
  | bk (ρ : PE0)
  | ct (ρ : PE0)
  | ex (n : Str) (ρ : PE0)
  | bad
abbrev ME := PE0 → Re D
abbrev MA := PE0 → Re (List D)
abbrev MT := PE0 → Re Bool
abbrev MO := PE0 → Re Ow
abbrev MS := PE0 → Fl
def Re.bind {α β : Type} (r : Re α) (f : α → PE0 → Re β) : Re β := match r with
  | .ok a ρ => f a ρ
  | .bad => .bad
@[simp] theorem Re.bind_ok {α β : Type} (a : α) (ρ : PE0) (f : α → PE0 → Re β) : (Re.ok a ρ).bind f = f a ρ := rfl
@[simp] theorem Re.bind_bad {α β : Type} (f : α → PE0 → Re β) : (Re.bad : Re α).bind f = .bad := rfl
theorem Re.of_bind {α β : Type} {r : Re α} {f : α → PE0 → Re β} {b : β} {ρ' : PE0} (h : r.bind f = .ok b ρ') : ∃ a ρ1, r = .ok a ρ1 ∧ f a ρ1 = .ok b ρ' := by
  cases r with
  | ok a ρ1 => exact ⟨a, ρ1, rfl, h⟩
  | bad => cases h
/-- an option as a result -/
def Re.opt {α : Type} (o : Option α) (ρ : PE0) : Re α := match o with
  | some a => .ok a ρ
  | none => .bad
@[simp] theorem Re.opt_some {α : Type} (a : α) (ρ : PE0) : Re.opt (some a) ρ = .ok a ρ := rfl
@[simp] theorem Re.opt_none {α : Type} (ρ : PE0) : Re.opt (none : Option α) ρ = .bad := rfl
theorem Re.of_opt {α : Type} {o : Option α} {ρ ρ' : PE0} {a : α} (h : Re.opt o ρ = .ok a ρ') : o = some a ∧ ρ' = ρ := by
  cases o with
  | some b => cases h; exact ⟨rfl, rfl⟩
  | none => cases h

/-! ### the globals of a claim; what is fixed through a def's body -/
structure Gx where
  P : Program
  w : World
  K : PySem.W.Frag
  mg : Str → Option Value
  base : Heap
  T : List (Addr × Str)
  C : Addr
  F : List Addr
structure Fx where
  R0 : Hp
  H0 : Hp
  δ : Option Addr
section
variable {G : Gx} {Φ : Fx}
def OwnAt (K : PySem.W.Frag) (R H : Hp) (a : Addr) : Ow → Prop
  | .l ds => ∃ xs, H a = some (.lst xs) ∧ DqA K R ds xs ∧ xs.length ≤ sizeLine
  | .dk kvs => ∃ xs, H a = some (.dK ((kvs.map (·.1)).zip xs)) ∧ DqA K R (kvs.map (·.2)) xs
  | .dt kvs => ∃ xs, H a = some (.dT ((kvs.map (·.1)).zip xs)) ∧ DqA K R (kvs.map (·.2)) xs
def SlOk (G : Gx) (Φ : Fx) (R H : Hp) : Sl → Option (Option V) → Prop
  | .un, _ => True
  | .v d, o => ∃ x, o = some (some x) ∧ Dq G.K R d x
  | .own w, o => ∃ a, o = some (some (.ref a)) ∧ R a = none ∧ Φ.H0 a = none ∧ OwnAt G.K R H a w
  | .dice ds, o => ∃ a xs, o = some (some (.ref a)) ∧ Φ.δ = some a ∧ R a = none ∧ H a = some (.lst xs) ∧ DqA G.K R ds xs
  | .raw x, o => o = some (some x)
  | .fn n, o => ∃ f, G.F[n]? = some f ∧ o = some (some (.ref f))
  | .scr ns, o => ∃ a, o = some (some (.ref a)) ∧ SqL G.K R a (ns.map V.int)
/-- without the tables -/
def nt (H : Hp) : Hp := fun a => match H a with
  | some (.tbl _) => none
  | x => x
theorem nt_of {H : Hp} {a : Addr} {o : HO} (h : H a = some o) (hn : ∀ ps, o ≠ .tbl ps) : nt H a = some o := by
  unfold nt
  rw [h]
  split
  · rename_i ps e
    cases e
    exact absurd rfl (hn ps)
  · rfl
theorem nt_none {H : Hp} {a : Addr} (h : H a = none) : nt H a = none := by
  unfold nt
  rw [h]
theorem nt_some {H : Hp} {a : Addr} {o : HO} (h : nt H a = some o) : H a = some o ∧ ∀ ps, o ≠ .tbl ps := by
  unfold nt at h
  split at h
  · cases h
  · rename_i x hx
    exact ⟨h, fun ps z => hx ps (by rw [h, z])⟩
theorem nt_upd_ne {H : Hp} {a b : Addr} {o : HO} (h : b ≠ a) : nt (upd H a o) b = nt H b := by
  unfold nt
  rw [upd_ne h]
theorem nt_ne {H : Hp} {a : Addr} {o : HO} (h : H a = some o) (hn : ∀ ps, o ≠ .tbl ps) : nt H a ≠ none := by rw [nt_of h hn]; simp
/-- a list, a tuple within the line -/
def Len : HO → Prop
  | .lst xs => xs.length ≤ sizeLine
  | .tup xs => xs.length ≤ sizeLine
  | _ => True
structure SR (G : Gx) (Φ : Fx) (R : Hp) (ρ : PE0) (σ : L2.St) (H : Hp) : Prop where
  sub : Ext R H
  dat : ∀ a ps, R a ≠ some (.tbl ps)
  lens : ∀ a o, R a = some o → Len o
  kept : ∀ a o, Φ.H0 a = some o → Φ.δ ≠ some a → (∀ ps, o ≠ .tbl ps) → H a = some o
  there : ∀ a, Φ.H0 a ≠ none → nt H a ≠ none
  tabs : LamX.Tabs G.T H
  old : ∀ a, R a ≠ none → Φ.R0 a ≠ none ∨ Φ.H0 a = none ∨ ∃ xs, R a = some (.tup xs)
  r0 : ∀ a, Φ.δ = some a → Φ.R0 a = none ∧ Φ.H0 a ≠ none
  r00 : Ext Φ.R0 Φ.H0
  len : σ.length = ρ.length
  sl : ∀ (i : Nat) (s : Sl), ρ[i]? = some s → SlOk G Φ R H s (σ[i]?)
  dis : ∀ (i j : Nat) (w w' : Ow) (a : Addr), i ≠ j → ρ[i]? = some (.own w) → ρ[j]? = some (.own w') → σ[i]? = some (some (.ref a)) → σ[j]? ≠ some (some (.ref a))
  one : ∀ (i j : Nat) (ds ds' : List D), ρ[i]? = some (.dice ds) → ρ[j]? = some (.dice ds') → i = j
theorem OwnAt.there {K : PySem.W.Frag} {R H : Hp} {a : Addr} {w : Ow} (h : OwnAt K R H a w) : ∃ o, H a = some o ∧ (∀ ps, o ≠ .tbl ps) := by
  cases w with
  | l ds => obtain ⟨xs, e, _, _⟩ := h; exact ⟨_, e, fun _ z => by cases z⟩
  | dk ds => obtain ⟨xs, e, _⟩ := h; exact ⟨_, e, fun _ z => by cases z⟩
  | dt ds => obtain ⟨xs, e, _⟩ := h; exact ⟨_, e, fun _ z => by cases z⟩
theorem OwnAt.mono {K : PySem.W.Frag} {R R' H H' : Hp} {a : Addr} {w : Ow} (h : OwnAt K R H a w) (e : Ext R R') (k : H' a = H a) : OwnAt K R' H' a w := by
  cases w with
  | l ds => obtain ⟨xs, h1, h2, h3⟩ := h; exact ⟨xs, by rw [k]; exact h1, h2.mono e, h3⟩
  | dk ds => obtain ⟨xs, h1, h2⟩ := h; exact ⟨xs, by rw [k]; exact h1, h2.mono e⟩
  | dt ds => obtain ⟨xs, h1, h2⟩ := h; exact ⟨xs, by rw [k]; exact h1, h2.mono e⟩
/-- behind something that wrote nothing of ours: R grew by new things, H kept all but the tables (and, where it is told, the list at d) -/
structure After (G : Gx) (d : Option Addr) (R H R' H' : Hp) : Prop where
  ext : Ext R R'
  sub : Ext R' H'
  dat : ∀ a ps, R' a ≠ some (.tbl ps)
  lens : ∀ a o, R' a = some o → Len o
  kept : ∀ a o, H a = some o → d ≠ some a → (∀ ps, o ≠ .tbl ps) → H' a = some o
  there : ∀ a, nt H a ≠ none → nt H' a ≠ none
  tabs : LamX.Tabs G.T H'
  old : ∀ a, R' a ≠ none → R a ≠ none ∨ nt H a = none ∨ ∃ xs, R' a = some (.tup xs)
theorem After.new {d : Option Addr} {R R' H H' : Hp} (A : After G d R H R' H') {a : Addr} (h1 : R a = none) (h2 : nt H a ≠ none) (h3 : ∀ xs, H' a ≠ some (.tup xs)) : R' a = none := by
  cases q : R' a with
  | none => rfl
  | some o =>
    rcases A.old a (by rw [q]; simp) with z | z | ⟨xs, z⟩
    · exact absurd h1 z
    · exact absurd z h2
    · exact absurd (A.sub _ _ z) (h3 xs)
theorem SR.oldA {d : Option Addr} {R R' H H' : Hp} {ρ : PE0} {σ : L2.St} (S : SR G Φ R ρ σ H) (A : After G d R H R' H') (a : Addr) (h : R' a ≠ none) : Φ.R0 a ≠ none ∨ Φ.H0 a = none ∨ ∃ xs, R' a = some (.tup xs) := by
  rcases A.old a h with z | z | z
  · rcases S.old a z with y | y | ⟨xs, y⟩
    · exact .inl y
    · exact .inr (.inl y)
    · exact .inr (.inr ⟨xs, A.ext _ _ y⟩)
  · refine .inr (.inl ?_)
    cases q : Φ.H0 a with
    | none => rfl
    | some o => exact absurd z (S.there a (by rw [q]; simp))
  · exact .inr (.inr z)
theorem OwnAt.nt {K : PySem.W.Frag} {R H : Hp} {a : Addr} {w : Ow} (h : OwnAt K R H a w) (xs : List V) : H a ≠ some (.tup xs) := by
  intro e
  cases w with
  | l ds => obtain ⟨xs, h1, _⟩ := h; rw [h1] at e; cases e
  | dk ds => obtain ⟨xs, h1, _⟩ := h; rw [h1] at e; cases e
  | dt ds => obtain ⟨xs, h1, _⟩ := h; rw [h1] at e; cases e
theorem SR.after {R R' H H' : Hp} {ρ : PE0} {σ : L2.St} (S : SR G Φ R ρ σ H) (A : After G none R H R' H') : SR G Φ R' ρ σ H' where
  sub := A.sub
  dat := A.dat
  lens := A.lens
  kept := fun a o h d n => A.kept a o (S.kept a o h d n) (by simp) n
  there := fun a h => A.there a (S.there a h)
  tabs := A.tabs
  old := S.oldA A
  r0 := S.r0
  r00 := S.r00
  len := S.len
  sl := fun i s h => by
    have z := S.sl i s h
    cases s with
    | un => trivial
    | v d => obtain ⟨x, e, q⟩ := z; exact ⟨x, e, q.mono A.ext⟩
    | raw x => exact z
    | fn n => exact z
    | scr ns => obtain ⟨a, q1, q2⟩ := z; exact ⟨a, q1, Ext.sql A.ext q2⟩
    | own w =>
      obtain ⟨a, e, h1, h2, h3⟩ := z
      obtain ⟨o, ho, hn⟩ := h3.there
      have h4 := h3.mono A.ext (H' := H') (by rw [ho]; exact A.kept a o ho (by simp) hn)
      exact ⟨a, e, A.new h1 (nt_ne ho hn) h4.nt, h2, h4⟩
    | dice ds =>
      obtain ⟨a, xs, e, h1, h2, h3, h4⟩ := z
      have h5 := A.kept a _ h3 (by simp) (fun _ q => by cases q)
      exact ⟨a, xs, e, h1, A.new h2 (nt_ne h3 fun _ q => by cases q) (fun _ z => by rw [h5] at z; cases z), h5, h4.mono A.ext⟩
  dis := S.dis
  one := S.one
theorem After.refl {R H : Hp} {ρ : PE0} {σ : L2.St} (S : SR G Φ R ρ σ H) (d : Option Addr) : After G d R H R H :=
  ⟨Ext.refl R, S.sub, S.dat, S.lens, fun _ _ h _ _ => h, fun _ h => h, S.tabs, fun _ h => .inl h⟩
/-- a new object, readable from now on -/
theorem SR.laid {R H : Hp} {ρ : PE0} {σ : L2.St} {p : Addr} {o : HO} (S : SR G Φ R ρ σ H) (hp : H p = none) (hn : ∀ ps, o ≠ .tbl ps) (hl : Len o) : SR G Φ (upd R p o) ρ σ (upd H p o) :=
  S.after ⟨ext_upd (S.sub.none hp), S.sub.both, fun a ps => by
      by_cases e : a = p
      · subst e; rw [upd_same]; intro z; exact hn ps (Option.some.inj z)
      · rw [upd_ne e]; exact S.dat a ps,
    fun a u h => by
      by_cases e : a = p
      · subst e; rw [upd_same] at h; cases h; exact hl
      · rw [upd_ne e] at h; exact S.lens a u h,
    fun a u h _ _ => by rw [upd_ne (ne_of_none h hp)]; exact h,
    fun a h => by
      by_cases e : a = p
      · subst e; exact absurd (nt_none hp) h
      · rw [nt_upd_ne e]; exact h,
    S.tabs.ext fun b u h => by rw [upd_ne (ne_of_none h hp)]; exact h,
    fun a h => by
      by_cases e : a = p
      · subst e; exact .inr (.inl (nt_none hp))
      · rw [upd_ne e] at h; exact .inl h⟩
/-- a new object, not (yet) readable -/
theorem SR.made {R H : Hp} {ρ : PE0} {σ : L2.St} {p : Addr} {o : HO} (S : SR G Φ R ρ σ H) (hp : H p = none) : SR G Φ R ρ σ (upd H p o) :=
  S.after ⟨Ext.refl R, S.sub.put (S.sub.none hp), S.dat, S.lens, fun a u h _ _ => by rw [upd_ne (ne_of_none h hp)]; exact h,
    fun a h => by
      by_cases e : a = p
      · subst e; exact absurd (nt_none hp) h
      · rw [nt_upd_ne e]; exact h,
    S.tabs.ext fun b u h => by rw [upd_ne (ne_of_none h hp)]; exact h, fun a h => .inl h⟩
/-- what is at p is ours alone -/
structure Mine (Φ : Fx) (R : Hp) (ρ : PE0) (σ : L2.St) (p : Addr) : Prop where
  nr : R p = none
  nh : Φ.H0 p = none
  ns : ∀ (i : Nat) (w : Ow), ρ[i]? = some (.own w) → σ[i]? ≠ some (some (.ref p))
theorem SR.mine {R H : Hp} {ρ : PE0} {σ : L2.St} {p : Addr} (S : SR G Φ R ρ σ H) (hp : H p = none) : Mine Φ R ρ σ p where
  nr := S.sub.none hp
  nh := by
    cases q : Φ.H0 p with
    | none => rfl
    | some o => exact absurd (nt_none hp) (S.there p (by rw [q]; simp))
  ns := fun i w h e => by
    obtain ⟨a, e1, _, _, h3⟩ := S.sl i _ h
    obtain ⟨o, ho, _⟩ := h3.there
    rw [e] at e1
    cases e1
    rw [hp] at ho
    cases ho
/-- ours is made readable: it is not written from now on -/
theorem SR.freeze {R H : Hp} {ρ : PE0} {σ : L2.St} {p : Addr} {o : HO} (S : SR G Φ R ρ σ H) (M : Mine Φ R ρ σ p) (ho : H p = some o) (hn : ∀ ps, o ≠ .tbl ps) (hl : Len o) : SR G Φ (upd R p o) ρ σ H where
  sub := fun a u h => by
    by_cases e : a = p
    · subst e; rw [upd_same] at h; cases h; exact ho
    · rw [upd_ne e] at h; exact S.sub a u h
  dat := fun a ps => by
    by_cases e : a = p
    · subst e; rw [upd_same]; intro z; exact hn ps (Option.some.inj z)
    · rw [upd_ne e]; exact S.dat a ps
  lens := fun a u h => by
    by_cases e : a = p
    · subst e; rw [upd_same] at h; cases h; exact hl
    · rw [upd_ne e] at h; exact S.lens a u h
  kept := S.kept
  there := S.there
  tabs := S.tabs
  old := fun a h => by
    by_cases e : a = p
    · subst e; exact .inr (.inl M.nh)
    · rw [upd_ne e] at h ⊢; exact S.old a h
  r0 := S.r0
  r00 := S.r00
  len := S.len
  sl := fun i s h => by
    have z := S.sl i s h
    have E : Ext R (upd R p o) := ext_upd M.nr
    cases s with
    | un => trivial
    | v d => obtain ⟨x, e, q⟩ := z; exact ⟨x, e, q.mono E⟩
    | raw x => exact z
    | fn n => exact z
    | scr ns => obtain ⟨a, q1, q2⟩ := z; exact ⟨a, q1, Ext.sql E q2⟩
    | own w =>
      obtain ⟨a, e, h1, h2, h3⟩ := z
      have ne : a ≠ p := fun q => M.ns i w h (by rw [e, q])
      exact ⟨a, e, by rw [upd_ne ne]; exact h1, h2, h3.mono E rfl⟩
    | dice ds =>
      obtain ⟨a, xs, e, h1, h2, h3, h4⟩ := z
      have ne : a ≠ p := fun q => by
        have := (S.r0 a h1).2
        rw [q] at this
        exact this M.nh
      exact ⟨a, xs, e, h1, by rw [upd_ne ne]; exact h2, h3, h4.mono E⟩
  dis := S.dis
  one := S.one
/-- a table's entries, away from a list -/
theorem tabs_write {T : List (Addr × Str)} {H : Hp} {a : Addr} {o u : HO} (t : LamX.Tabs T H) (h : H a = some o) (h1 : ∀ ps, o ≠ .tbl ps) (h2 : ∀ c q, o ≠ LamX.CodeO c q) : LamX.Tabs T (upd H a u) := fun p hp => by
  obtain ⟨ps, e1, e2, e3⟩ := t p hp
  have n1 : p.1 ≠ a := fun z => by rw [z, h] at e1; exact h1 ps (Option.some.inj e1)
  refine ⟨ps, by rw [upd_ne n1]; exact e1, e2, fun pos cv hc => ?_⟩
  obtain ⟨c, q1, q2⟩ := e3 pos cv hc
  have n2 : c ≠ a := fun z => by rw [z, h] at q2; exact h2 _ _ (Option.some.inj q2)
  exact ⟨c, q1, by rw [upd_ne n2]; exact q2⟩
/-- an object that is no table's -/
def Plain (o : HO) : Prop := (∀ ps, o ≠ .tbl ps) ∧ ∀ c q, o ≠ LamX.CodeO c q
theorem plain_lst (xs : List V) : Plain (.lst xs) := ⟨fun _ z => (by cases z), fun _ _ z => (by unfold LamX.CodeO at z; cases z)⟩
theorem plain_tup (xs : List V) : Plain (.tup xs) := ⟨fun _ z => (by cases z), fun _ _ z => (by unfold LamX.CodeO at z; cases z)⟩
theorem plain_dk (xs : List (Key × V)) : Plain (.dK xs) := ⟨fun _ z => (by cases z), fun _ _ z => (by unfold LamX.CodeO at z; cases z)⟩
theorem plain_dt (xs : List (List Key × V)) : Plain (.dT xs) := ⟨fun _ z => (by cases z), fun _ _ z => (by unfold LamX.CodeO at z; cases z)⟩
/-- a slot's value is stored -/
theorem SR.store {R H : Hp} {ρ : PE0} {σ : L2.St} {i : Nat} {d : D} {x : V} (S : SR G Φ R ρ σ H) (hi : i < ρ.length) (h : Dq G.K R d x) : SR G Φ R (ρ.set i (.v d)) (σ.set i (some x)) H where
  sub := S.sub
  dat := S.dat
  lens := S.lens
  kept := S.kept
  there := S.there
  tabs := S.tabs
  old := S.old
  r0 := S.r0
  r00 := S.r00
  len := by rw [List.length_set, List.length_set]; exact S.len
  sl := fun j s e => by
    by_cases hj : i = j
    · subst hj
      rw [List.getElem?_set_self hi] at e
      cases e
      exact ⟨x, by rw [List.getElem?_set_self (by rw [S.len]; exact hi)], h⟩
    · rw [List.getElem?_set_ne hj] at e
      rw [List.getElem?_set_ne hj]
      exact S.sl j s e
  dis := fun j k w w' a hjk h1 h2 e1 e2 => by
    have n1 : i ≠ j := fun z => by subst z; rw [List.getElem?_set_self hi] at h1; cases h1
    have n2 : i ≠ k := fun z => by subst z; rw [List.getElem?_set_self hi] at h2; cases h2
    rw [List.getElem?_set_ne n1] at h1 e1
    rw [List.getElem?_set_ne n2] at h2 e2
    exact S.dis j k w w' a hjk h1 h2 e1 e2
  one := fun j k ds ds' h1 h2 => by
    have n : ∀ (j : Nat) (ds : List D), (ρ.set i (.v d))[j]? = some (.dice ds) → ρ[j]? = some (.dice ds) := fun j ds h => by
      by_cases e : i = j
      · subst e
        by_cases hi : i < ρ.length
        · rw [List.getElem?_set_self hi] at h; cases h
        · rw [List.getElem?_eq_none (by rw [List.length_set]; omega)] at h; cases h
      · rw [List.getElem?_set_ne e] at h; exact h
    exact S.one j k ds ds' (n j ds h1) (n k ds' h2)
theorem SR.storeRaw {R H : Hp} {ρ : PE0} {σ : L2.St} {i : Nat} {x : V} (S : SR G Φ R ρ σ H) (hi : i < ρ.length) : SR G Φ R (ρ.set i (.raw x)) (σ.set i (some x)) H where
  sub := S.sub
  dat := S.dat
  lens := S.lens
  kept := S.kept
  there := S.there
  tabs := S.tabs
  old := S.old
  r0 := S.r0
  r00 := S.r00
  len := by rw [List.length_set, List.length_set]; exact S.len
  sl := fun j s e => by
    by_cases hj : i = j
    · subst hj
      rw [List.getElem?_set_self hi] at e
      cases e
      show _ = _
      rw [List.getElem?_set_self (by rw [S.len]; exact hi)]
    · rw [List.getElem?_set_ne hj] at e
      rw [List.getElem?_set_ne hj]
      exact S.sl j s e
  dis := fun j k w w' a hjk h1 h2 e1 e2 => by
    have n1 : i ≠ j := fun z => by subst z; rw [List.getElem?_set_self hi] at h1; cases h1
    have n2 : i ≠ k := fun z => by subst z; rw [List.getElem?_set_self hi] at h2; cases h2
    rw [List.getElem?_set_ne n1] at h1 e1
    rw [List.getElem?_set_ne n2] at h2 e2
    exact S.dis j k w w' a hjk h1 h2 e1 e2
  one := fun j k ds ds' h1 h2 => by
    have n : ∀ (j : Nat) (ds : List D), (ρ.set i (.raw x))[j]? = some (.dice ds) → ρ[j]? = some (.dice ds) := fun j ds h => by
      by_cases e : i = j
      · subst e
        by_cases hi : i < ρ.length
        · rw [List.getElem?_set_self hi] at h; cases h
        · rw [List.getElem?_eq_none (by rw [List.length_set]; omega)] at h; cases h
      · rw [List.getElem?_set_ne e] at h; exact h
    exact S.one j k ds ds' (n j ds h1) (n k ds' h2)
theorem SR.storeOwn {R H : Hp} {ρ : PE0} {σ : L2.St} {i : Nat} {w : Ow} {p : Addr} (S : SR G Φ R ρ σ H) (hi : i < ρ.length) (M : Mine Φ R ρ σ p) (h : OwnAt G.K R H p w) : SR G Φ R (ρ.set i (.own w)) (σ.set i (some (.ref p))) H where
  sub := S.sub
  dat := S.dat
  lens := S.lens
  kept := S.kept
  there := S.there
  tabs := S.tabs
  old := S.old
  r0 := S.r0
  r00 := S.r00
  len := by rw [List.length_set, List.length_set]; exact S.len
  sl := fun j s e => by
    by_cases hj : i = j
    · subst hj
      rw [List.getElem?_set_self hi] at e
      cases e
      exact ⟨p, by rw [List.getElem?_set_self (by rw [S.len]; exact hi)], M.nr, M.nh, h⟩
    · rw [List.getElem?_set_ne hj] at e
      rw [List.getElem?_set_ne hj]
      exact S.sl j s e
  dis := fun j k w1 w2 a hjk h1 h2 e1 e2 => by
    have lσ : i < σ.length := by rw [S.len]; exact hi
    by_cases n1 : i = j
    · subst n1
      rw [List.getElem?_set_ne hjk] at h2 e2
      rw [List.getElem?_set_self lσ] at e1
      cases e1
      exact M.ns k w2 h2 e2
    · rw [List.getElem?_set_ne n1] at h1 e1
      by_cases n2 : i = k
      · subst n2
        rw [List.getElem?_set_self lσ] at e2
        cases e2
        exact M.ns j w1 h1 e1
      · rw [List.getElem?_set_ne n2] at h2 e2
        exact S.dis j k w1 w2 a hjk h1 h2 e1 e2
  one := fun j k ds ds' h1 h2 => by
    have n : ∀ (j : Nat) (ds : List D), (ρ.set i (.own w))[j]? = some (.dice ds) → ρ[j]? = some (.dice ds) := fun j ds h => by
      by_cases e : i = j
      · subst e
        by_cases hi : i < ρ.length
        · rw [List.getElem?_set_self hi] at h; cases h
        · rw [List.getElem?_eq_none (by rw [List.length_set]; omega)] at h; cases h
      · rw [List.getElem?_set_ne e] at h; exact h
    exact S.one j k ds ds' (n j ds h1) (n k ds' h2)
/-- a slot is forgotten -/
theorem SR.forget {R H : Hp} {ρ : PE0} {σ : L2.St} {i : Nat} {o : Option V} (S : SR G Φ R ρ σ H) : SR G Φ R (ρ.set i .un) (σ.set i o) H where
  sub := S.sub
  dat := S.dat
  lens := S.lens
  kept := S.kept
  there := S.there
  tabs := S.tabs
  old := S.old
  r0 := S.r0
  r00 := S.r00
  len := by rw [List.length_set, List.length_set]; exact S.len
  sl := fun j s e => by
    by_cases hj : i = j
    · subst hj
      by_cases hi : i < ρ.length
      · rw [List.getElem?_set_self hi] at e
        cases e
        trivial
      · rw [List.getElem?_eq_none (by rw [List.length_set]; omega)] at e
        cases e
    · rw [List.getElem?_set_ne hj] at e
      rw [List.getElem?_set_ne hj]
      exact S.sl j s e
  dis := fun j k w w' a hjk h1 h2 e1 e2 => by
    have n : ∀ (j : Nat) (w : Ow), (ρ.set i .un)[j]? = some (.own w) → i ≠ j := fun j w h z => by
      subst z
      by_cases hi : i < ρ.length
      · rw [List.getElem?_set_self hi] at h; cases h
      · rw [List.getElem?_eq_none (by rw [List.length_set]; omega)] at h; cases h
    have n1 := n j w h1
    have n2 := n k w' h2
    rw [List.getElem?_set_ne n1] at h1 e1
    rw [List.getElem?_set_ne n2] at h2 e2
    exact S.dis j k w w' a hjk h1 h2 e1 e2
  one := fun j k ds ds' h1 h2 => by
    have n : ∀ (j : Nat) (ds : List D), (ρ.set i .un)[j]? = some (.dice ds) → ρ[j]? = some (.dice ds) := fun j ds h => by
      by_cases e : i = j
      · subst e
        by_cases hi : i < ρ.length
        · rw [List.getElem?_set_self hi] at h; cases h
        · rw [List.getElem?_eq_none (by rw [List.length_set]; omega)] at h; cases h
      · rw [List.getElem?_set_ne e] at h; exact h
    exact S.one j k ds ds' (n j ds h1) (n k ds' h2)
/-- our own thing is written -/
theorem SR.write {R H : Hp} {ρ : PE0} {σ : L2.St} {i : Nat} {w w' : Ow} {a : Addr} {o u : HO} (S : SR G Φ R ρ σ H) (hi : ρ[i]? = some (.own w)) (ea : σ[i]? = some (some (.ref a))) (ho : H a = some o) (hp : Plain o) (hw : OwnAt G.K R (upd H a u) a w') :
    SR G Φ R (ρ.set i (.own w')) σ (upd H a u) := by
  obtain ⟨b, e1, h1, h2, h3⟩ := S.sl i _ hi
  rw [ea] at e1
  cases e1
  have li : i < ρ.length := (List.getElem?_eq_some_iff.mp hi).1
  refine ⟨S.sub.put h1, S.dat, S.lens, fun c v h d n => ?_, fun c h => ?_, tabs_write S.tabs ho hp.1 hp.2, S.old, S.r0, S.r00, by rw [List.length_set]; exact S.len, fun j s e => ?_, fun j k w1 w2 c hjk q1 q2 e1 e2 => ?_, fun j k ds ds' h1 h2 => ?_⟩
  · rw [upd_ne (ne_of_none h h2)]; exact S.kept c v h d n
  · by_cases e : c = a
    · subst e
      obtain ⟨o', e1, e2⟩ := hw.there
      exact nt_ne e1 e2
    · rw [nt_upd_ne e]; exact S.there c h
  · by_cases hj : i = j
    · subst hj
      rw [List.getElem?_set_self li] at e
      cases e
      exact ⟨a, ea, h1, h2, hw⟩
    · rw [List.getElem?_set_ne hj] at e
      have z := S.sl j s e
      cases s with
      | un => trivial
      | v d => exact z
      | raw x => exact z
      | fn n => exact z
      | scr ns => exact z
      | own w2 =>
        obtain ⟨b, f1, f2, f3, f4⟩ := z
        have ne : b ≠ a := fun q => S.dis i j w w2 a hj hi e ea (by rw [f1, q])
        exact ⟨b, f1, f2, f3, f4.mono (Ext.refl R) (upd_ne ne)⟩
      | dice ds =>
        obtain ⟨b, xs, f1, f2, f3, f4, f5⟩ := z
        have ne : b ≠ a := fun q => by
          have := (S.r0 b f2).2
          rw [q] at this
          exact this h2
        exact ⟨b, xs, f1, f2, f3, by rw [upd_ne ne]; exact f4, f5⟩
  · have key : ∀ (j : Nat) (w1 : Ow), (ρ.set i (.own w'))[j]? = some (.own w1) → ∃ w2, ρ[j]? = some (.own w2) := fun j w1 q => by
      by_cases hj : i = j
      · subst hj; exact ⟨w, hi⟩
      · rw [List.getElem?_set_ne hj] at q; exact ⟨w1, q⟩
    obtain ⟨w3, q3⟩ := key j w1 q1
    obtain ⟨w4, q4⟩ := key k w2 q2
    exact S.dis j k w3 w4 c hjk q3 q4 e1 e2
  · have n : ∀ (j : Nat) (ds : List D), (ρ.set i (.own w'))[j]? = some (.dice ds) → ρ[j]? = some (.dice ds) := fun j ds h => by
      by_cases e : i = j
      · subst e; rw [List.getElem?_set_self li] at h; cases h
      · rw [List.getElem?_set_ne e] at h; exact h
    exact S.one j k ds ds' (n j ds h1) (n k ds' h2)
/-- the dice's list is written -/
theorem SR.writeD {R R' H H' : Hp} {ρ : PE0} {σ : L2.St} {i : Nat} {ds ds' : List D} {a : Addr} {xs' : List V} (S : SR G Φ R ρ σ H) (hi : ρ[i]? = some (.dice ds)) (ea : σ[i]? = some (some (.ref a))) (A : After G (some a) R H R' H') (hw : H' a = some (.lst xs')) (hd : DqA G.K R' ds' xs') : SR G Φ R' (ρ.set i (.dice ds')) σ H' := by
  obtain ⟨b, xs, e1, h1, h2, h3, h4⟩ := S.sl i _ hi
  rw [ea] at e1
  cases e1
  have li : i < ρ.length := (List.getElem?_eq_some_iff.mp hi).1
  refine ⟨A.sub, A.dat, A.lens, fun c v h d n => A.kept c v (S.kept c v h d n) (fun z => d (by rw [h1, ← z])) n, fun c h => A.there c (S.there c h), A.tabs, S.oldA A, S.r0, S.r00, by rw [List.length_set]; exact S.len, fun j s e => ?_, fun j k w1 w2 c hjk q1 q2 e1 e2 => ?_, fun j k ds1 ds2 h1 h2 => ?_⟩
  · by_cases hj : i = j
    · subst hj
      rw [List.getElem?_set_self li] at e
      cases e
      exact ⟨a, xs', ea, h1, A.new h2 (nt_ne h3 fun _ q => by cases q) (fun _ z => by rw [hw] at z; cases z), hw, hd⟩
    · rw [List.getElem?_set_ne hj] at e
      have z := S.sl j s e
      cases s with
      | un => trivial
      | v d => obtain ⟨x, f1, f2⟩ := z; exact ⟨x, f1, f2.mono A.ext⟩
      | raw x => exact z
      | fn n => exact z
      | scr ns => obtain ⟨a, q1, q2⟩ := z; exact ⟨a, q1, Ext.sql A.ext q2⟩
      | own w2 =>
        obtain ⟨b, f1, f2, f3, f4⟩ := z
        obtain ⟨o, ho, hn⟩ := f4.there
        have ne : b ≠ a := fun q => by
          have := (S.r0 a h1).2
          rw [← q] at this
          exact this f3
        have f5 := f4.mono A.ext (H' := H') (by rw [ho]; exact A.kept b o ho (fun z => ne (Option.some.inj z).symm) hn)
        exact ⟨b, f1, A.new f2 (nt_ne ho hn) f5.nt, f3, f5⟩
      | dice ds2 => exact absurd (S.one i j ds ds2 hi e) hj
  · have key : ∀ (j : Nat) (w1 : Ow), (ρ.set i (.dice ds'))[j]? = some (.own w1) → ρ[j]? = some (.own w1) := fun j w1 q => by
      by_cases hj : i = j
      · subst hj; rw [List.getElem?_set_self li] at q; cases q
      · rw [List.getElem?_set_ne hj] at q; exact q
    exact S.dis j k w1 w2 c hjk (key j w1 q1) (key k w2 q2) e1 e2
  · have n : ∀ (j : Nat) (ds1 : List D), (ρ.set i (.dice ds'))[j]? = some (.dice ds1) → j = i := fun j ds1 h => by
      by_cases e : i = j
      · exact e.symm
      · rw [List.getElem?_set_ne e] at h; exact S.one j i ds1 ds h hi
    rw [n j ds1 h1, n k ds2 h2]
/-! ### a thing of ours is guarded while something else runs -/
def Fx.put (Φ : Fx) (p : Addr) (o : HO) : Fx := ⟨Φ.R0, upd Φ.H0 p o, Φ.δ⟩
theorem SR.guard {R H : Hp} {ρ : PE0} {σ : L2.St} {p : Addr} {o : HO} (S : SR G Φ R ρ σ H) (M : Mine Φ R ρ σ p) (ho : H p = some o) (hn : ∀ ps, o ≠ .tbl ps) : SR G (Φ.put p o) R ρ σ H where
  sub := S.sub
  dat := S.dat
  lens := S.lens
  kept := fun a u h d n => by
    by_cases e : a = p
    · subst e
      have h : upd Φ.H0 a o a = some u := h
      rw [upd_same] at h; cases h; exact ho
    · have h : upd Φ.H0 p o a = some u := h
      rw [upd_ne e] at h; exact S.kept a u h d n
  there := fun a h => by
    by_cases e : a = p
    · subst e; exact nt_ne ho hn
    · have h : upd Φ.H0 p o a ≠ none := h
      rw [upd_ne e] at h; exact S.there a h
  tabs := S.tabs
  old := fun a h => by
    have ne : a ≠ p := fun e => h (by rw [e]; exact M.nr)
    exact (S.old a h).imp id (Or.imp (fun z => by
      show upd Φ.H0 p o a = none
      rw [upd_ne ne]; exact z) id)
  r0 := fun a h => ⟨(S.r0 a h).1, by
    show upd Φ.H0 p o a ≠ none
    by_cases e : a = p
    · subst e; rw [upd_same]; simp
    · rw [upd_ne e]; exact (S.r0 a h).2⟩
  r00 := fun a u h => by
    show upd Φ.H0 p o a = some u
    have z := S.r00 a u h
    rw [upd_ne (ne_of_none z M.nh)]; exact z
  len := S.len
  sl := fun i s h => by
    have z := S.sl i s h
    cases s with
    | un => trivial
    | v d => exact z
    | raw x => exact z
    | fn n => exact z
    | scr ns => exact z
    | own w =>
      obtain ⟨a, e, h1, h2, h3⟩ := z
      exact ⟨a, e, h1, by
        show upd Φ.H0 p o a = none
        rw [upd_ne (fun q => M.ns i w h (by rw [e, q]))]; exact h2, h3⟩
    | dice ds => exact z
  dis := S.dis
  one := S.one
theorem SR.unguard {R H : Hp} {ρ : PE0} {σ : L2.St} {p : Addr} {o : HO} (S : SR G (Φ.put p o) R ρ σ H) (hp : Φ.H0 p = none) (hr : Φ.R0 p = none) (hd : Φ.δ ≠ some p) (hn : ∀ ps, o ≠ .tbl ps) (hnt : ∀ xs, o ≠ .tup xs) (r0 : ∀ a, Φ.δ = some a → Φ.H0 a ≠ none) (r00 : Ext Φ.R0 Φ.H0) : SR G Φ R ρ σ H ∧ Mine Φ R ρ σ p ∧ H p = some o := by
  have nr : R p = none := by
    cases q : R p with
    | none => rfl
    | some u =>
      rcases S.old p (by rw [q]; simp) with z | z | ⟨xs, z⟩
      · exact absurd hr z
      · have z : upd Φ.H0 p o p = none := z
        rw [upd_same] at z; cases z
      · have z2 := S.kept p o upd_same hd hn
        rw [S.sub _ _ z] at z2
        cases z2
        exact absurd rfl (hnt xs)
  have low : ∀ a, (Φ.put p o).H0 a = none → Φ.H0 a = none := fun a h => by
    have h : upd Φ.H0 p o a = none := h
    by_cases e : a = p
    · subst e; exact hp
    · rw [upd_ne e] at h; exact h
  refine ⟨⟨S.sub, S.dat, S.lens, fun a u h d n => S.kept a u (by show upd Φ.H0 p o a = some u; rw [upd_ne (ne_of_none h hp)]; exact h) d n, fun a h => S.there a (by
      show upd Φ.H0 p o a ≠ none
      by_cases e : a = p
      · subst e; rw [upd_same]; simp
      · rw [upd_ne e]; exact h), S.tabs, fun a h => (S.old a h).imp id (Or.imp (low a) id), fun a h => ⟨(S.r0 a h).1, r0 a h⟩, r00, S.len, fun i s h => ?_, S.dis, S.one⟩, ⟨nr, hp, fun i w h e => ?_⟩, S.kept p o upd_same hd hn⟩
  · have z := S.sl i s h
    cases s with
    | un => trivial
    | v d => exact z
    | raw x => exact z
    | fn n => exact z
    | scr ns => exact z
    | own w => obtain ⟨a, e, h1, h2, h3⟩ := z; exact ⟨a, e, h1, low a h2, h3⟩
    | dice ds => exact z
  · obtain ⟨a, e1, _, h2, _⟩ := S.sl i _ h
    rw [e] at e1
    cases e1
    have h2 : upd Φ.H0 p o p = none := h2
    rw [upd_same] at h2
    cases h2
theorem SR.unguard' {R R1 H H1 : Hp} {ρ ρ1 : PE0} {σ σ1 : L2.St} {p : Addr} {o : HO} (S : SR G (Φ.put p o) R ρ σ H) (S1 : SR G Φ R1 ρ1 σ1 H1) (M : Mine Φ R1 ρ1 σ1 p) (hn : ∀ ps, o ≠ .tbl ps) (hnt : ∀ xs, o ≠ .tup xs := by intro _ z; cases z) : SR G Φ R ρ σ H ∧ Mine Φ R ρ σ p ∧ H p = some o :=
  S.unguard M.nh (S1.r00.none M.nh) (fun z => (S1.r0 p z).2 M.nh) hn hnt (fun a h => (S1.r0 a h).2) S1.r00
theorem Mine.after {R R' H H' : Hp} {ρ : PE0} {σ : L2.St} {p : Addr} (M : Mine Φ R ρ σ p) (A : After G none R H R' H') (hp : nt H p ≠ none) (hq : ∀ xs, H' p ≠ some (.tup xs)) : Mine Φ R' ρ σ p where
  nr := A.new M.nr hp hq
  nh := M.nh
  ns := M.ns
/-! ### a block's own slots -/
def wipeP (vs : List Nat) (ρ : PE0) : PE0 := vs.foldr (fun i ρ => ρ.set i .un) ρ
def Sl.plain : Sl → Bool
  | .un => true
  | .v _ => true
  | .raw _ => true
  | _ => false
def plainAt (vs : List Nat) (ρ : PE0) : Bool := vs.all fun i => match ρ[i]? with
  | some s => s.plain
  | none => true
def backP (vs : List Nat) (ρ0 ρ : PE0) : PE0 := vs.foldr (fun i ρ => match ρ0[i]? with
  | some s => ρ.set i s
  | none => ρ) ρ
theorem wipe_cons (σ : L2.St) (v : Nat) (vs : List Nat) : wipe σ (v :: vs) = (wipe σ vs).set v none := rfl
theorem SR.wipe {R H : Hp} {ρ : PE0} {σ : L2.St} (S : SR G Φ R ρ σ H) : ∀ vs : List Nat, SR G Φ R (wipeP vs ρ) (L2.wipe σ vs) H
  | [] => S
  | v :: vs => by
    rw [wipe_cons]
    exact (SR.wipe S vs).forget
/-- the own slots forgotten, whatever they hold -/
theorem SR.wiped {R H : Hp} {ρ : PE0} {σ σ' : L2.St} {vs : List Nat} (S : SR G Φ R ρ σ' H) (e : L2.wipe σ' vs = L2.wipe σ vs) : SR G Φ R (wipeP vs ρ) (L2.wipe σ vs) H := by
  rw [← e]
  exact S.wipe vs
theorem wipeP_length (vs : List Nat) (ρ : PE0) : (wipeP vs ρ).length = ρ.length := by
  induction vs with
  | nil => rfl
  | cons v vs ih => show ((wipeP vs ρ).set v .un).length = _; rw [List.length_set]; exact ih
theorem backP_length (vs : List Nat) (ρ0 ρ : PE0) : (backP vs ρ0 ρ).length = ρ.length := by
  induction vs with
  | nil => rfl
  | cons v vs ih =>
    show (match ρ0[v]? with | some s => (backP vs ρ0 ρ).set v s | none => backP vs ρ0 ρ).length = _
    split
    · rw [List.length_set]; exact ih
    · exact ih
theorem backP_out {vs : List Nat} {ρ0 ρ : PE0} {j : Nat} (h : j ∉ vs) : (backP vs ρ0 ρ)[j]? = ρ[j]? := by
  induction vs with
  | nil => rfl
  | cons v vs ih =>
    have h1 : v ≠ j := fun e => h (by rw [e]; exact List.mem_cons_self)
    have h2 : j ∉ vs := fun e => h (List.mem_cons_of_mem _ e)
    show (match ρ0[v]? with | some s => (backP vs ρ0 ρ).set v s | none => backP vs ρ0 ρ)[j]? = _
    split
    · rw [List.getElem?_set_ne h1]; exact ih h2
    · exact ih h2
theorem backP_in {vs : List Nat} {ρ0 ρ : PE0} {j : Nat} {s : Sl} (h : j ∈ vs) (e : ρ0[j]? = some s) (l : j < ρ.length) : (backP vs ρ0 ρ)[j]? = some s := by
  induction vs with
  | nil => cases h
  | cons v vs ih =>
    show (match ρ0[v]? with | some s => (backP vs ρ0 ρ).set v s | none => backP vs ρ0 ρ)[j]? = _
    by_cases hv : v = j
    · subst hv
      rw [e]
      exact List.getElem?_set_self (by rw [backP_length]; exact l)
    · have h2 : j ∈ vs := (List.mem_cons.mp h).elim (fun z => absurd z.symm hv) id
      split
      · rw [List.getElem?_set_ne hv]; exact ih h2
      · exact ih h2
theorem wipe_at {σ : L2.St} {i : Nat} {vs : List Nat} (h : i ∉ vs) : (L2.wipe σ vs)[i]? = σ[i]? := by
  induction vs with
  | nil => rfl
  | cons v vs ih =>
    rw [wipe_cons, List.getElem?_set_ne (fun e => h (by rw [e]; exact List.mem_cons_self))]
    exact ih fun e => h (List.mem_cons_of_mem _ e)
/-- behind a block: its own slots hold what they held ahead -/
theorem SR.back {R0' R H0' H : Hp} {ρ0 ρ : PE0} {σ : L2.St} {vs : List Nat} (S0 : SR G Φ R0' ρ0 σ H0') (E : Ext R0' R) (hp : plainAt vs ρ0 = true) (S : SR G Φ R ρ (L2.wipe σ vs) H) : SR G Φ R (backP vs ρ0 ρ) σ H := by
  have hl : ρ.length = ρ0.length := by rw [← S.len, ← S0.len, wipe_length]
  have at_ : ∀ (j : Nat) (s : Sl), (backP vs ρ0 ρ)[j]? = some s → (j ∈ vs ∧ ρ0[j]? = some s ∧ s.plain = true) ∨ (j ∉ vs ∧ ρ[j]? = some s) := fun j s h => by
    by_cases hj : j ∈ vs
    · left
      have hlt : j < ρ.length := by
        have := (List.getElem?_eq_some_iff.mp h).1
        rw [backP_length] at this
        exact this
      have e0 : ρ0[j]? = some ρ0[j] := List.getElem?_eq_getElem (by omega)
      rw [backP_in hj e0 hlt] at h
      cases h
      have := List.all_eq_true.mp hp j hj
      rw [e0] at this
      exact ⟨hj, e0, this⟩
    · right
      rw [backP_out hj] at h
      exact ⟨hj, h⟩
  refine ⟨S.sub, S.dat, S.lens, S.kept, S.there, S.tabs, S.old, S.r0, S.r00, ?_, fun j s h => ?_, fun j k w w' a hjk h1 h2 e1 e2 => ?_, fun j k ds ds' h1 h2 => ?_⟩
  · rw [backP_length, hl]; exact S0.len
  · rcases at_ j s h with ⟨hj, e, p⟩ | ⟨hj, e⟩
    · have z := S0.sl j s e
      cases s with
      | un => trivial
      | v d => obtain ⟨x, q1, q2⟩ := z; exact ⟨x, q1, q2.mono E⟩
      | raw x => exact z
      | fn n => exact z
      | scr ns => obtain ⟨a, q1, q2⟩ := z; exact ⟨a, q1, Ext.sql E q2⟩
      | own w => cases p
      | dice ds => cases p
    · have z := S.sl j s e
      rw [wipe_at hj] at z
      exact z
  · have own : ∀ (j : Nat) (w : Ow), (backP vs ρ0 ρ)[j]? = some (.own w) → j ∉ vs ∧ ρ[j]? = some (.own w) := fun j w h => by
      rcases at_ j _ h with ⟨_, _, p⟩ | z
      · cases p
      · exact z
    obtain ⟨n1, q1⟩ := own j w h1
    obtain ⟨n2, q2⟩ := own k w' h2
    rw [← wipe_at n1] at e1
    rw [← wipe_at n2] at e2
    exact S.dis j k w w' a hjk q1 q2 e1 e2
  · have own : ∀ (j : Nat) (ds : List D), (backP vs ρ0 ρ)[j]? = some (.dice ds) → ρ[j]? = some (.dice ds) := fun j w h => by
      rcases at_ j _ h with ⟨_, _, p⟩ | z
      · cases p
      · exact z.2
    exact S.one j k ds ds' (own j ds h1) (own k ds' h2)
end
end Pm

/-! Pm3: readings that do what a plain function says; the rules for expressions. -/
namespace Pm
open PySem PySem.Spec PyProof.Rows L2

section
variable (G : Gx) (Φ : Fx)
def IE (t : TE) (m : ME) : Prop := ∀ (R : Hp) (ρ : PE0) (σ : L2.St) (H : Hp) (d : D) (ρ' : PE0), SR G Φ R ρ σ H → m ρ = .ok d ρ' →
  ∀ Q : VK, (∀ (v : V) (R' H' : Hp), SR G Φ R' ρ' σ H' → Ext R R' → Dq G.K R' d v → Q v H') → t σ H Q
def IA (t : TA) (m : MA) : Prop := ∀ (R : Hp) (ρ : PE0) (σ : L2.St) (H : Hp) (ds : List D) (ρ' : PE0), SR G Φ R ρ σ H → m ρ = .ok ds ρ' →
  ∀ Q : List V → Hp → Prop, (∀ (vs : List V) (R' H' : Hp), SR G Φ R' ρ' σ H' → Ext R R' → DqA G.K R' ds vs → Q vs H') → t σ H Q
def IT (t : TT) (m : MT) : Prop := ∀ (R : Hp) (ρ : PE0) (σ : L2.St) (H : Hp) (b : Bool) (ρ' : PE0), SR G Φ R ρ σ H → m ρ = .ok b ρ' →
  ∀ Q : Bool → Hp → Prop, (∀ (R' H' : Hp), SR G Φ R' ρ' σ H' → Ext R R' → Q b H') → t σ H Q
/-- a new thing of our own -/
def IO (t : TE) (m : MO) : Prop := ∀ (R : Hp) (ρ : PE0) (σ : L2.St) (H : Hp) (w : Ow) (ρ' : PE0), SR G Φ R ρ σ H → m ρ = .ok w ρ' →
  ∀ Q : VK, (∀ (p : Addr) (R' H' : Hp), SR G Φ R' ρ' σ H' → Ext R R' → Mine Φ R' ρ' σ p → OwnAt G.K R' H' p w → Q (.ref p) H') → t σ H Q
end
/-- what all contexts of a body share -/
structure Fm (G : Gx) (k : Nat) {ι : Type} (𝒳 : ι → Cx) : Prop where
  prog : ∀ i, (𝒳 i).prog = G.P
  w : ∀ i, (𝒳 i).w = G.w
  K : ∀ i, (𝒳 i).K = G.K
  mg : ∀ i, (𝒳 i).mg = G.mg
  base : ∀ i, (𝒳 i).base = G.base
  room : ∀ i, Room k (𝒳 i).A
  calm : ∀ i, (𝒳 i).calm = true
  nod : ∀ i, (𝒳 i).N.Nodup
section
variable {ι : Type}
def CE (𝒳 : ι → Cx) (G : Gx) (e : Expr) (m : ME) : Prop := ∃ t, (∀ i, PE (𝒳 i) e t) ∧ ∀ Φ, IE G Φ t m
def CA (𝒳 : ι → Cx) (G : Gx) (es : List Expr) (m : MA) : Prop := ∃ t, (∀ i, PA (𝒳 i) es t) ∧ (∀ Φ, IA G Φ t m) ∧ ∀ ρ ds ρ', m ρ = .ok ds ρ' → ds.length = es.length
def CT (𝒳 : ι → Cx) (G : Gx) (e : Expr) (m : MT) : Prop := ∃ t, (∀ i, PT (𝒳 i) e t) ∧ ∀ Φ, IT G Φ t m
def CO (𝒳 : ι → Cx) (G : Gx) (e : Expr) (m : MO) : Prop := ∃ t, (∀ i, PE (𝒳 i) e t) ∧ ∀ Φ, IO G Φ t m
end
/-- what stands of an own thing, as data -/
def Ow.d : Ow → D
  | .l ds => .list ds
  | .dk kvs => .dict (kvs.map fun p => (keyD p.1, p.2))
  | .dt kvs => .dict (kvs.map fun p => (keysD p.1, p.2))
section
variable {G : Gx} {Φ : Fx} {R H : Hp} {ρ : PE0} {σ : L2.St}
theorem zip_len {α β : Type} {xs : List α} {ys : List β} (h : xs.length = ys.length) : (xs.zip ys).length = xs.length := by rw [List.length_zip, h, Nat.min_self]
/-- an own thing's object, and that it reads as its data where it may be read -/
theorem OwnAt.obj {K : PySem.W.Frag} {p : Addr} {w : Ow} (h : OwnAt K R H p w) (hp : R p = none) : ∃ o, H p = some o ∧ Len o ∧ Plain o ∧ Dq K (upd R p o) w.d (.ref p) := by
  have E : ∀ o, Ext R (upd R p o) := fun o => ext_upd hp
  cases w with
  | l ds =>
    obtain ⟨xs, h1, h2, h3⟩ := h
    exact ⟨_, h1, h3, plain_lst xs, dq_list.mpr ⟨p, xs, rfl, upd_same, h2.mono (E _)⟩⟩
  | dk kvs =>
    obtain ⟨xs, h1, h2⟩ := h
    refine ⟨_, h1, trivial, plain_dk _, dq_dict.mpr ⟨p, xs, rfl, .inl ⟨kvs.map (·.1), ?_, upd_same, ?_⟩, ?_⟩⟩
    · rw [List.length_map, ← h2.length, List.length_map]
    · rw [List.map_map, List.map_map]; rfl
    · rw [dqv_map, List.map_map]; exact h2.mono (E _)
  | dt kvs =>
    obtain ⟨xs, h1, h2⟩ := h
    refine ⟨_, h1, trivial, plain_dt _, dq_dict.mpr ⟨p, xs, rfl, .inr ⟨kvs.map (·.1), ?_, upd_same, ?_⟩, ?_⟩⟩
    · rw [List.length_map, ← h2.length, List.length_map]
    · rw [List.map_map, List.map_map]; rfl
    · rw [dqv_map, List.map_map]; exact h2.mono (E _)
theorem set_get_self {α : Type} {l : List α} {i : Nat} {a : α} (h : l[i]? = some a) : l.set i a = l := by
  obtain ⟨hi, e⟩ := List.getElem?_eq_some_iff.mp h
  subst e
  exact List.set_getElem_self hi
/-- a slot's own thing is shared from now on -/
theorem SR.share (S : SR G Φ R ρ σ H) {i : Nat} {w : Ow} (h : ρ[i]? = some (.own w)) : ∃ x R', σ[i]? = some (some x) ∧ SR G Φ R' (ρ.set i (.v w.d)) σ H ∧ Ext R R' ∧ Dq G.K R' w.d x := by
  obtain ⟨a, e1, h1, h2, h3⟩ := S.sl i _ h
  obtain ⟨o, ho, hl, hn, hq⟩ := h3.obj h1
  have li : i < ρ.length := (List.getElem?_eq_some_iff.mp h).1
  have S1 : SR G Φ R (ρ.set i .un) (σ.set i (some (.ref a))) H := S.forget
  rw [set_get_self e1] at S1
  have M : Mine Φ R (ρ.set i .un) σ a := ⟨h1, h2, fun j w' hj hs => by
    by_cases e : i = j
    · subst e; rw [List.getElem?_set_self li] at hj; cases hj
    · rw [List.getElem?_set_ne e] at hj; exact S.dis i j w w' a e h hj e1 hs⟩
  have S2 := S1.freeze M ho hn.1 hl
  have S3 := S2.store (i := i) (d := w.d) (x := .ref a) (by rw [List.length_set]; exact li) hq
  rw [set_get_self e1, List.set_set] at S3
  exact ⟨.ref a, _, e1, S3, ext_upd h1, hq⟩
/-- a new own thing is shared at once -/
theorem SR.give (S : SR G Φ R ρ σ H) {p : Addr} {w : Ow} (M : Mine Φ R ρ σ p) (h : OwnAt G.K R H p w) : ∃ R', SR G Φ R' ρ σ H ∧ Ext R R' ∧ Dq G.K R' w.d (.ref p) := by
  obtain ⟨o, ho, hl, hn, hq⟩ := h.obj M.nr
  exact ⟨_, S.freeze M ho hn.1 hl, ext_upd M.nr, hq⟩
end
section
variable {ι : Type} {𝒳 : ι → Cx} {G : Gx} {k : Nat}
/-- own, then shared -/
def mGive (m : MO) : ME := fun ρ => (m ρ).bind fun w ρ' => .ok w.d ρ'
theorem cGive {e : Expr} {m : MO} (h : CO 𝒳 G e m) : CE 𝒳 G e (mGive m) := by
  obtain ⟨t, hp, hi⟩ := h
  refine ⟨t, hp, fun Φ R ρ σ H d ρ' S e Q q => ?_⟩
  obtain ⟨w, ρ1, e1, e2⟩ := Re.of_bind e
  cases e2
  refine hi Φ R ρ σ H w _ S e1 Q fun p R' H' S' x M o => ?_
  obtain ⟨R2, S2, x2, dq⟩ := S'.give M o
  exact q _ R2 H' S2 (x.trans x2) dq

/-! ### names, constants -/
def mVar (i : Nat) : ME := fun ρ => match ρ[i]? with
  | some (.v d) => .ok d ρ
  | some (.own w) => .ok w.d (ρ.set i (.v w.d))
  | _ => .bad
theorem cVar (i : Nat) {x : Str} {pos : Pos} (hN : ∀ j, (𝒳 j).N[i]? = some x := by intro _; rfl) (hv : ∀ j, Vis (𝒳 j).env.scope x := by first | exact fun _ => Or.inl rfl | exact fun _ => Or.inr (Or.inl rfl) | exact fun _ => Or.inr (Or.inr rfl))
    (hd : (x == ("__debug__" : Str)) = false := by decide) (hcd : (x == ("__classdict__" : Str)) = false := by decide) : CE 𝒳 G (.Name x pos) (mVar i) := by
  refine ⟨tVar i, fun j => pe_var (hN j) (hv j) hd hcd, fun Φ R ρ σ H d ρ' S e Q q => ?_⟩
  unfold mVar at e
  split at e
  · rename_i d' h
    cases e
    obtain ⟨x, e1, e2⟩ := S.sl i _ h
    exact ⟨x, e1, q x R H S (Ext.refl R) e2⟩
  · rename_i w h
    cases e
    obtain ⟨x, R', e1, S', x1, dq⟩ := S.share h
    exact ⟨x, e1, q x R' H S' x1 dq⟩
  · cases e
def mC (d : D) : ME := fun ρ => .ok d ρ
theorem cInt {i : Int} {j pos} : CE 𝒳 G (.Constant (.int i) j pos) (mC (.int i)) := ⟨tC (.int i), fun _ => pe_int, fun Φ R ρ σ H d ρ' S e Q q => by cases e; exact q _ R H S (Ext.refl R) (dq_int.mpr rfl)⟩
theorem cBool {b : Bool} {j pos} : CE 𝒳 G (.Constant (.bool b) j pos) (mC (.bool b)) := ⟨tC (.bl b), fun _ => pe_bl, fun Φ R ρ σ H d ρ' S e Q q => by cases e; exact q _ R H S (Ext.refl R) (dq_bool.mpr rfl)⟩
theorem cNone {j pos} : CE 𝒳 G (.Constant .none j pos) (mC .none) := ⟨tC .non, fun _ => pe_non, fun Φ R ρ σ H d ρ' S e Q q => by cases e; exact q _ R H S (Ext.refl R) (dq_none.mpr rfl)⟩
theorem cStr {x : Str} {j pos} : CE 𝒳 G (.Constant (.str x) j pos) (mC (.str x)) := ⟨tC (.str x), fun _ => pe_str, fun Φ R ρ σ H d ρ' S e Q q => by cases e; exact q _ R H S (Ext.refl R) (dq_str.mpr rfl)⟩
/-- a module's int -/
theorem cGInt {x : Str} {i : Int} {pos : Pos} (fm : Fm G k 𝒳) (hm : ∃ t, G.mg x = some (.int i t)) (hg : ∀ j, Gl (𝒳 j) x := by intro _; rfl) (hd : (x == ("__debug__" : Str)) = false := by decide) : CE 𝒳 G (.Name x pos) (mC (.int i)) := by
  obtain ⟨t, hm⟩ := hm
  exact ⟨tC (.int i), fun j => pe_glob (hg j) (by rw [fm.mg j]; exact hm) ⟨t, rfl⟩ hd, fun Φ R ρ σ H d ρ' S e Q q => by cases e; exact q _ R H S (Ext.refl R) (dq_int.mpr rfl)⟩

/-! ### argument lists, displays -/
def mNil : MA := fun ρ => .ok [] ρ
def mCons (m : ME) (r : MA) : MA := fun ρ => (m ρ).bind fun d ρ1 => (r ρ1).bind fun ds ρ2 => .ok (d :: ds) ρ2
theorem aNil : CA 𝒳 G [] mNil := ⟨tNil, fun _ => pa_nil, fun Φ R ρ σ H d ρ' S e Q q => by cases e; exact q _ R H S (Ext.refl R) (dqa_nil.mpr rfl), fun ρ ds ρ' e => by cases e; rfl⟩
theorem aCons {e : Expr} {es : List Expr} {m : ME} {r : MA} (h : CE 𝒳 G e m) (hr : CA 𝒳 G es r) (hs : ∀ j, starEach (e :: es) (𝒳 j).env = (false, eval e (𝒳 j).env) :: starEach es (𝒳 j).env := by intro _; rfl) : CA 𝒳 G (e :: es) (mCons m r) := by
  obtain ⟨t, hp, hi⟩ := h
  obtain ⟨u, hpr, hir, hl⟩ := hr
  refine ⟨tCons t u, fun j => pa_cons (hp j) (hpr j) (hs j), fun Φ R ρ σ H ds ρ' S e Q q => ?_, fun ρ ds ρ' e => ?_⟩
  · obtain ⟨d, ρ1, e1, e⟩ := Re.of_bind e
    obtain ⟨ds', ρ2, e2, e⟩ := Re.of_bind e
    cases e
    refine hi Φ R ρ σ H d ρ1 S e1 _ fun v R1 H1 S1 x1 q1 => ?_
    refine hir Φ R1 ρ1 σ H1 ds' _ S1 e2 _ fun vs R2 H2 S2 x2 q2 => ?_
    exact q _ R2 H2 S2 (x1.trans x2) (dqa_cons.mpr ⟨_, _, rfl, q1.mono x2, q2⟩)
  · obtain ⟨d, ρ1, e1, e⟩ := Re.of_bind e
    obtain ⟨ds', ρ2, e2, e⟩ := Re.of_bind e
    cases e
    rw [List.length_cons, List.length_cons, hl _ _ _ e2]
def mTup (m : MA) : ME := fun ρ => (m ρ).bind fun ds ρ' => .ok (.tuple ds) ρ'
theorem cTup {es : List Expr} {m : MA} {x1 : Nat} {pos : Pos} (h : CA 𝒳 G es m) (hz : es.length ≤ sizeLine := by decide) : CE 𝒳 G (.Tuple es x1 pos) (mTup m) := by
  obtain ⟨t, hp, hi, hl⟩ := h
  refine ⟨tTup t, fun j => pe_tup (hp j), fun Φ R ρ σ H d ρ' S e Q q => ?_⟩
  obtain ⟨ds, ρ1, e1, e⟩ := Re.of_bind e
  cases e
  refine hi Φ R ρ σ H ds _ S e1 _ fun vs R1 H1 S1 x1 q1 => ?_
  have hvz : vs.length ≤ sizeLine := by rw [← q1.length, hl _ _ _ e1]; exact hz
  refine ⟨hvz, fun p np => ?_⟩
  have x2 : Ext R1 (upd R1 p (.tup vs)) := ext_upd (S1.sub.none np)
  exact q _ _ _ (S1.laid np (plain_tup vs).1 hvz) (x1.trans x2) (dq_tuple.mpr ⟨p, vs, rfl, upd_same, q1.mono x2⟩)
def mLst (m : MA) : MO := fun ρ => (m ρ).bind fun ds ρ' => .ok (.l ds) ρ'
theorem oLst {es : List Expr} {m : MA} {pos : Pos} (h : CA 𝒳 G es m) (hz : es.length ≤ sizeLine := by decide) : CO 𝒳 G (.List es pos) (mLst m) := by
  obtain ⟨t, hp, hi, hl⟩ := h
  refine ⟨tLst t, fun j => pe_lst (hp j), fun Φ R ρ σ H d ρ' S e Q q => ?_⟩
  obtain ⟨ds, ρ1, e1, e⟩ := Re.of_bind e
  cases e
  refine hi Φ R ρ σ H ds _ S e1 _ fun vs R1 H1 S1 x1 q1 => ?_
  have hvz : vs.length ≤ sizeLine := by rw [← q1.length, hl _ _ _ e1]; exact hz
  refine ⟨hvz, fun p np => ?_⟩
  exact q p _ _ (S1.made np) x1 (S1.mine np) ⟨vs, upd_same, q1, hvz⟩

/-! ### operators -/
/-- what an operator on values does of plain values -/
def OpI (G : Gx) (r : R2) (f : D → D → Option D) : Prop := ∀ (Φ : Fx) (R H : Hp) (ρ : PE0) (σ : L2.St) (a b d : D) (x y : V), SR G Φ R ρ σ H → f a b = some d → Dq G.K R a x → Dq G.K R b y →
  ∀ Q : VK, (∀ (v : V) (R' H' : Hp), SR G Φ R' ρ σ H' → Ext R R' → Dq G.K R' d v → Q v H') → r x y H Q
def mOp2 (f : D → D → Option D) (ma mb : ME) : ME := fun ρ => (ma ρ).bind fun a ρ1 => (mb ρ1).bind fun b ρ2 => Re.opt (f a b) ρ2
theorem iOp2 {Φ : Fx} {ta tb : TE} {ma mb : ME} {r : R2} {f : D → D → Option D} (ha : IE G Φ ta ma) (hb : IE G Φ tb mb) (hr : OpI G r f) : IE G Φ (tOp r ta tb) (mOp2 f ma mb) := fun R ρ σ H d ρ' S e Q q => by
  obtain ⟨a, ρ1, e1, e⟩ := Re.of_bind e
  obtain ⟨b, ρ2, e2, e⟩ := Re.of_bind e
  obtain ⟨e3, rfl⟩ := Re.of_opt e
  refine ha R ρ σ H a ρ1 S e1 _ fun x R1 H1 S1 x1 q1 => ?_
  refine hb R1 ρ1 σ H1 b _ S1 e2 _ fun y R2 H2 S2 x2 q2 => ?_
  exact hr Φ R2 H2 _ σ a b d x y S2 e3 (q1.mono x2) q2 Q fun v R3 H3 S3 x3 q3 => q v R3 H3 S3 ((x1.trans x2).trans x3) q3
theorem cBin {op : Operator} {a b : Expr} {ma mb : ME} {r : R2} {f : D → D → Option D} {pos : Pos} (ho : ∀ i, OpR (𝒳 i) (binaryOp op) r) (hr : OpI G r f) (ha : CE 𝒳 G a ma) (hb : CE 𝒳 G b mb) : CE 𝒳 G (.BinOp a op b pos) (mOp2 f ma mb) := by
  obtain ⟨ta, pa, ia⟩ := ha
  obtain ⟨tb, pb, ib⟩ := hb
  exact ⟨tOp r ta tb, fun i => pe_op (ho i) (pa i) (pb i), fun Φ => iOp2 (ia Φ) (ib Φ) hr⟩
def addI : D → D → Option D
  | .int i, .int j => some (.int (i + j))
  | _, _ => none
def subI : D → D → Option D
  | .int i, .int j => some (.int (i - j))
  | _, _ => none
def mulI : D → D → Option D
  | .int i, .int j => if i.natAbs.log2 + j.natAbs.log2 < 1000000 then some (.int (i * j)) else none
  | _, _ => none
def divI : D → D → Option D
  | .int i, .int j => if 0 < j ∧ j.natAbs.log2 < 9000 then some (.int (i / j)) else none
  | _, _ => none
def modI : D → D → Option D
  | .int i, .int j => if 0 < j then some (.int (i % j)) else none
  | _, _ => none
def powI : D → D → Option D
  | .int i, .int j => if 0 ≤ j ∧ j ≤ 1000000 ∧ i.natAbs < 2 ^ 64 then some (.int (i ^ j.toNat)) else none
  | _, _ => none
/-- two ints to an int -/
theorem opI_int {C : Int → Int → Prop} {g : Int → Int → Int} {f : D → D → Option D} (h : ∀ a b d, f a b = some d → ∃ i j, a = .int i ∧ b = .int j ∧ C i j ∧ d = .int (g i j)) : OpI G (rI C fun i j => .int (g i j)) f := fun Φ R H ρ σ a b d x y S e qa qb Q q => by
  obtain ⟨i, j, rfl, rfl, c, rfl⟩ := h a b d e
  exact ⟨i, j, dq_int.mp qa, dq_int.mp qb, c, q _ R H S (Ext.refl R) (dq_int.mpr rfl)⟩
theorem opI_int0 {g : Int → Int → Int} {f : D → D → Option D} (h : ∀ a b d, f a b = some d → ∃ i j, a = .int i ∧ b = .int j ∧ d = .int (g i j)) : OpI G (rI0 fun i j => .int (g i j)) f := fun Φ R H ρ σ a b d x y S e qa qb Q q => by
  obtain ⟨i, j, rfl, rfl, rfl⟩ := h a b d e
  exact ⟨i, j, dq_int.mp qa, dq_int.mp qb, q _ R H S (Ext.refl R) (dq_int.mpr rfl)⟩
theorem cAddI {a b : Expr} {ma mb : ME} {pos : Pos} (ha : CE 𝒳 G a ma) (hb : CE 𝒳 G b mb) : CE 𝒳 G (.BinOp a .Add b pos) (mOp2 addI ma mb) :=
  cBin (fun _ => op_add) (opI_int0 (g := fun i j => i + j) fun a b d e => by unfold addI at e; split at e <;> cases e; exact ⟨_, _, rfl, rfl, rfl⟩) ha hb
theorem cSub {a b : Expr} {ma mb : ME} {pos : Pos} (ha : CE 𝒳 G a ma) (hb : CE 𝒳 G b mb) : CE 𝒳 G (.BinOp a .Sub b pos) (mOp2 subI ma mb) :=
  cBin (fun _ => op_sub) (opI_int0 (g := fun i j => i - j) fun a b d e => by unfold subI at e; split at e <;> cases e; exact ⟨_, _, rfl, rfl, rfl⟩) ha hb
theorem cMulI {a b : Expr} {ma mb : ME} {pos : Pos} (ha : CE 𝒳 G a ma) (hb : CE 𝒳 G b mb) : CE 𝒳 G (.BinOp a .Mult b pos) (mOp2 mulI ma mb) :=
  cBin (fun _ => op_mulW) (opI_int (C := CMulW) (g := fun i j => i * j) fun a b d e => by
    unfold mulI at e; split at e
    · split at e <;> cases e; rename_i h; exact ⟨_, _, rfl, rfl, h, rfl⟩
    · cases e) ha hb
theorem cDiv {a b : Expr} {ma mb : ME} {pos : Pos} (ha : CE 𝒳 G a ma) (hb : CE 𝒳 G b mb) : CE 𝒳 G (.BinOp a .FloorDiv b pos) (mOp2 divI ma mb) :=
  cBin (fun _ => op_fdivW) (opI_int (C := CDivW) (g := fun i j => i / j) fun a b d e => by
    unfold divI at e; split at e
    · split at e <;> cases e; rename_i h; exact ⟨_, _, rfl, rfl, h, rfl⟩
    · cases e) ha hb
theorem cMod {a b : Expr} {ma mb : ME} {pos : Pos} (ha : CE 𝒳 G a ma) (hb : CE 𝒳 G b mb) : CE 𝒳 G (.BinOp a .Mod b pos) (mOp2 modI ma mb) :=
  cBin (fun _ => op_mod) (opI_int (C := fun _ j => 0 < j) (g := fun i j => i % j) fun a b d e => by
    unfold modI at e; split at e
    · split at e <;> cases e; rename_i h; exact ⟨_, _, rfl, rfl, h, rfl⟩
    · cases e) ha hb
theorem cPow {a b : Expr} {ma mb : ME} {pos : Pos} (ha : CE 𝒳 G a ma) (hb : CE 𝒳 G b mb) : CE 𝒳 G (.BinOp a .Pow b pos) (mOp2 powI ma mb) :=
  cBin (fun _ => op_pow) (opI_int (C := CPow) (g := fun i j => i ^ j.toNat) fun a b d e => by
    unfold powI at e; split at e
    · split at e <;> cases e; rename_i h; exact ⟨_, _, rfl, rfl, h, rfl⟩
    · cases e) ha hb
def mOp1 (f : D → Option D) (ma : ME) : ME := fun ρ => (ma ρ).bind fun a ρ1 => Re.opt (f a) ρ1
def negI : D → Option D
  | .int i => some (.int (-i))
  | _ => none
theorem cNeg {a : Expr} {ma : ME} {pos : Pos} (ha : CE 𝒳 G a ma) : CE 𝒳 G (.UnaryOp .USub a pos) (mOp1 negI ma) := by
  obtain ⟨ta, pa, ia⟩ := ha
  refine ⟨_, fun i => pe_un un_neg (pa i), fun Φ R ρ σ H d ρ' S e Q q => ?_⟩
  obtain ⟨a, ρ1, e1, e⟩ := Re.of_bind e
  obtain ⟨e2, rfl⟩ := Re.of_opt e
  refine ia Φ R ρ σ H a _ S e1 _ fun x R1 H1 S1 x1 q1 => ?_
  unfold negI at e2
  split at e2 <;> cases e2
  exact ⟨_, dq_int.mp q1, q _ R1 H1 S1 x1 (dq_int.mpr rfl)⟩
end
end Pm

/-! Pm4: comparisons, tests, subscripts. -/
namespace Pm
open PySem PySem.Spec PyProof.Rows L2
mutual
theorem Dq.dp {K : PySem.W.Frag} {R H : Hp} (e : Ext R H) : ∀ (d : D) (v : V), d.plain = true → Dq K R d v → Dp K H v d
  | .none, _, _, h => by rw [dq_none] at h; subst h; exact .non
  | .bool _, _, _, h => by rw [dq_bool] at h; subst h; exact .bl _
  | .int _, _, _, h => by rw [dq_int] at h; subst h; exact .int _
  | .str _, _, _, h => by rw [dq_str] at h; subst h; exact .str _
  | .list ds, _, c, h => by
    rw [dq_list] at h
    obtain ⟨a, xs, rfl, h1, h2⟩ := h
    exact .lst (.inl (.inl (e _ _ h1))) (DqA.dp e ds _ (by simpa [PyData.plain] using c) h2)
  | .tuple ds, _, c, h => by
    rw [dq_tuple] at h
    obtain ⟨a, xs, rfl, h1, h2⟩ := h
    exact .tup (.inl (.inl (e _ _ h1))) (DqA.dp e ds _ (by simpa [PyData.plain] using c) h2)
  | .dict _, _, c, _ => by simp [PyData.plain] at c
theorem DqA.dp {K : PySem.W.Frag} {R H : Hp} (e : Ext R H) : ∀ (ds : List D) (vs : List V), PyData.plainAll ds = true → DqA K R ds vs → DpAll K H vs ds
  | [], _, _, h => by rw [dqa_nil] at h; subst h; exact .nil
  | d :: ds, _, c, h => by
    rw [dqa_cons] at h
    obtain ⟨x, r, rfl, h1, h2⟩ := h
    have c' : d.plain = true ∧ PyData.plainAll ds = true := by simpa [PyData.plainAll] using c
    exact .cons (Dq.dp e d _ c'.1 h1) (DqA.dp e ds _ c'.2 h2)
end
/-- no dict within, not too deep -/
def shp (d : D) : Bool := d.plain && decide (d.depth ≤ 64)
theorem shp_lay {d : D} (h : shp d = true) : d.plain = true := (Bool.and_eq_true_iff.mp h).1
theorem shp_dep {d : D} (h : shp d = true) : d.depth ≤ 64 := of_decide_eq_true (Bool.and_eq_true_iff.mp h).2
theorem shp_of {d : D} (h1 : d.plain = true) (h2 : d.depth ≤ 64) : shp d = true := by unfold shp; rw [h1, decide_eq_true h2]; rfl
section
variable {ι : Type} {𝒳 : ι → Cx} {G : Gx} {k : Nat}
/-- a rule of K, over the claim's K -/
theorem Fm.op (fm : Fm G k 𝒳) {f : Value → Value → Sem Value} {p : PySem.W.Frag → R2} (i : ι) (h : OpR (𝒳 i) f (p (𝒳 i).K)) : OpR (𝒳 i) f (p G.K) := Eq.mp (congrArg (fun q => OpR (𝒳 i) f (p q)) (fm.K i)) h
theorem Fm.ix (fm : Fm G k 𝒳) {p : PySem.W.Frag → R2} (i : ι) (h : IxR (𝒳 i) (p (𝒳 i).K)) : IxR (𝒳 i) (p G.K) := Eq.mp (congrArg (fun q => IxR (𝒳 i) (p q)) (fm.K i)) h
theorem Fm.call (fm : Fm G k 𝒳) {f : Value} {p : PySem.W.Frag → List V → Hp → VK → Prop} (i : ι) (h : CallR (𝒳 i) f (p (𝒳 i).K)) : CallR (𝒳 i) f (p G.K) := Eq.mp (congrArg (fun q => CallR (𝒳 i) f (p q)) (fm.K i)) h
theorem Fm.sl (fm : Fm G k 𝒳) {p : PySem.W.Frag → V → Option Int → Option Int → Hp → VK → Prop} (i : ι) (h : SlR (𝒳 i) (p (𝒳 i).K)) : SlR (𝒳 i) (p G.K) := Eq.mp (congrArg (fun q => SlR (𝒳 i) (p q)) (fm.K i)) h

/-! ### + of ints, lists, tuples -/
def addD : D → D → Option D
  | .int i, .int j => some (.int (i + j))
  | .list a, .list b => if a.length + b.length ≤ sizeLine then some (.list (a ++ b)) else none
  | .tuple a, .tuple b => if a.length + b.length ≤ sizeLine then some (.tuple (a ++ b)) else none
  | _, _ => none
theorem opI_add : OpI G (fun x y H Q => rI0 (fun i j => .int (i + j)) x y H Q ∨ (rCat x y H Q ∨ rCatA G.K x y H Q)) addD := fun Φ R H ρ σ a b d x y S e qa qb Q q => by
  unfold addD at e
  split at e
  · cases e
    exact .inl ⟨_, _, dq_int.mp qa, dq_int.mp qb, q _ R H S (Ext.refl R) (dq_int.mpr rfl)⟩
  · rename_i xs ys
    split at e <;> cases e
    rename_i hz
    obtain ⟨p1, vs, rfl, h1, h2⟩ := dq_list.mp qa
    obtain ⟨p2, ws, rfl, h3, h4⟩ := dq_list.mp qb
    have hvz : vs.length + ws.length ≤ sizeLine := by rw [← h2.length, ← h4.length]; exact hz
    refine .inr (.inl ⟨p1, p2, vs, ws, rfl, rfl, S.sub _ _ h1, S.sub _ _ h3, hvz, fun p np => ?_⟩)
    exact q _ _ _ (S.laid np (plain_lst _).1 (by show (vs ++ ws).length ≤ _; rw [List.length_append]; exact hvz)) (ext_upd (S.sub.none np)) (dq_list.mpr ⟨p, _, rfl, upd_same, (h2.append h4).mono (ext_upd (S.sub.none np))⟩)
  · rename_i xs ys
    split at e <;> cases e
    rename_i hz
    have qa' := qa
    have qb' := qb
    obtain ⟨p1, vs, rfl, h1, h2⟩ := dq_tuple.mp qa
    obtain ⟨p2, ws, rfl, h3, h4⟩ := dq_tuple.mp qb
    have hvz : vs.length + ws.length ≤ sizeLine := by rw [← h2.length, ← h4.length]; exact hz
    refine .inr (.inr ⟨p1, p2, vs, ws, rfl, rfl, .inl (.inl (S.sub _ _ h1)), .inl (.inl (S.sub _ _ h3)), hvz, fun e0 => ?_, fun _ e0 => ?_, fun _ _ p np => ?_⟩)
    · have : xs = [] := List.eq_nil_of_length_eq_zero (by rw [h2.length, e0]; rfl)
      subst this
      exact q _ R H S (Ext.refl R) qb'
    · have : ys = [] := List.eq_nil_of_length_eq_zero (by rw [h4.length, e0]; rfl)
      subst this
      rw [List.append_nil] at q
      exact q _ R H S (Ext.refl R) qa'
    · exact q _ _ _ (S.laid np (plain_tup _).1 (by show (vs ++ ws).length ≤ _; rw [List.length_append]; exact hvz)) (ext_upd (S.sub.none np)) (dq_tuple.mpr ⟨p, _, rfl, upd_same, (h2.append h4).mono (ext_upd (S.sub.none np))⟩)
  · cases e
theorem cAdd {a b : Expr} {ma mb : ME} {pos : Pos} (fm : Fm G k 𝒳) (ha : CE 𝒳 G a ma) (hb : CE 𝒳 G b mb) : CE 𝒳 G (.BinOp a .Add b pos) (mOp2 addD ma mb) :=
  cBin (fun i => op_add.or (op_cat.or (fm.op i op_catA))) opI_add ha hb

/-! ### comparisons -/
/-- a comparison of plain values: a bool -/
def CmI (G : Gx) (r : R2) (f : D → D → Option Bool) : Prop := ∀ (Φ : Fx) (R H : Hp) (ρ : PE0) (σ : L2.St) (a b : D) (c : Bool) (x y : V), SR G Φ R ρ σ H → f a b = some c → Dq G.K R a x → Dq G.K R b y →
  ∀ Q : VK, Q (.bl c) H → r x y H Q
/-- its rule, in all contexts -/
structure Cm (𝒳 : ι → Cx) (G : Gx) (op : CmpOp) (f : D → D → Option Bool) : Prop where
  ex : ∃ r, (∀ i, OpR (𝒳 i) (compareOp op) r) ∧ CmI G r f
def mCmp (f : D → D → Option Bool) (ma mb : ME) : ME := fun ρ => (ma ρ).bind fun a ρ1 => (mb ρ1).bind fun b ρ2 => Re.opt ((f a b).map .bool) ρ2
def tCmpM (f : D → D → Option Bool) (ma mb : ME) : MT := fun ρ => (ma ρ).bind fun a ρ1 => (mb ρ1).bind fun b ρ2 => Re.opt (f a b) ρ2
theorem cCmp {op : CmpOp} {a b : Expr} {ma mb : ME} {f : D → D → Option Bool} {pos : Pos} (c : Cm 𝒳 G op f) (ha : CE 𝒳 G a ma) (hb : CE 𝒳 G b mb) (hm : behindInMarks op b = false := by first | exact nomark _ | rfl) : CE 𝒳 G (.Compare a [op] [b] pos) (mCmp f ma mb) := by
  obtain ⟨r, ho, hr⟩ := c.ex
  obtain ⟨ta, pa, ia⟩ := ha
  obtain ⟨tb, pb, ib⟩ := hb
  refine ⟨tOp r ta tb, fun i => pe_cmpR (ho i) (pa i) (pb i) hm, fun Φ R ρ σ H d ρ' S e Q q => ?_⟩
  obtain ⟨a, ρ1, e1, e⟩ := Re.of_bind e
  obtain ⟨b, ρ2, e2, e⟩ := Re.of_bind e
  obtain ⟨e3, rfl⟩ := Re.of_opt e
  obtain ⟨c, e4, rfl⟩ := Option.map_eq_some_iff.mp e3
  refine ia Φ R ρ σ H a ρ1 S e1 _ fun x R1 H1 S1 x1 q1 => ?_
  refine ib Φ R1 ρ1 σ H1 b _ S1 e2 _ fun y R2 H2 S2 x2 q2 => ?_
  exact hr Φ R2 H2 _ σ a b c x y S2 e4 (q1.mono x2) q2 Q (q _ R2 H2 S2 (x1.trans x2) (dq_bool.mpr rfl))
theorem tCmp {op : CmpOp} {a b : Expr} {ma mb : ME} {f : D → D → Option Bool} {pos : Pos} (c : Cm 𝒳 G op f) (ha : CE 𝒳 G a ma) (hb : CE 𝒳 G b mb) (hm : behindInMarks op b = false := by first | exact nomark _ | rfl) : CT 𝒳 G (.Compare a [op] [b] pos) (tCmpM f ma mb) := by
  obtain ⟨r, ho, hr⟩ := c.ex
  obtain ⟨ta, pa, ia⟩ := ha
  obtain ⟨tb, pb, ib⟩ := hb
  refine ⟨tTest (tOp r ta tb), fun i => pt_cmpR (ho i) (pa i) (pb i) hm, fun Φ R ρ σ H d ρ' S e Q q => ?_⟩
  obtain ⟨a, ρ1, e1, e⟩ := Re.of_bind e
  obtain ⟨b, ρ2, e2, e⟩ := Re.of_bind e
  obtain ⟨e3, rfl⟩ := Re.of_opt e
  refine ia Φ R ρ σ H a ρ1 S e1 _ fun x R1 H1 S1 x1 q1 => ?_
  refine ib Φ R1 ρ1 σ H1 b _ S1 e2 _ fun y R2 H2 S2 x2 q2 => ?_
  exact hr Φ R2 H2 _ σ a b d x y S2 e3 (q1.mono x2) q2 _ ⟨d, rfl, q R2 H2 S2 (x1.trans x2)⟩
def eqO : D → D → Option Bool := fun a b => if shp a && shp b then some (PyData.eqv a b) else none
def neO : D → D → Option Bool := fun a b => if shp a && shp b then some (!PyData.eqv a b) else none
theorem room64 (fm : Fm G k 𝒳) (i : ι) : (𝒳 i).A.units + 64 < cLine := (fm.room i).units
theorem room65 (fm : Fm G k 𝒳) (i : ι) : (𝒳 i).A.units + 65 < cLine := by have := (fm.room i).un; omega
theorem room1 (fm : Fm G k 𝒳) (i : ι) : (𝒳 i).A.units + 1 < cLine := by have := (fm.room i).un; omega
def rEqP (K : PySem.W.Frag) (ne : Bool) : R2 := fun x y H Q => ∃ d e, Dp K H x d ∧ Dp K H y e ∧ shp d = true ∧ shp e = true ∧ Q (.bl (if ne then !PyData.eqv d e else PyData.eqv d e)) H
theorem op_eqP {X : Cx} (hu : X.A.units + 64 < cLine) : OpR X (compareOp .Eq) (rEqP X.K false) := by
  intro pins s σ H x y v u Q I rx ry h
  obtain ⟨d, e, hd, he, sd, se, q⟩ := h
  obtain ⟨as, r1⟩ := Dp.reads I d x v hd rx
  obtain ⟨bs, r2⟩ := Dp.reads I e y u he ry
  have := shp_dep sd
  exact SeqAt.eq_plain r1 r2 (shp_lay sd) (shp_lay se) (by omega) ⟨.bl _, H, I, rfl, q⟩
theorem op_neP {X : Cx} (hu : X.A.units + 64 < cLine) : OpR X (compareOp .NotEq) (rEqP X.K true) := by
  intro pins s σ H x y v u Q I rx ry h
  obtain ⟨d, e, hd, he, sd, se, q⟩ := h
  obtain ⟨as, r1⟩ := Dp.reads I d x v hd rx
  obtain ⟨bs, r2⟩ := Dp.reads I e y u he ry
  have := shp_dep sd
  exact SeqAt.ne_plain r1 r2 (shp_lay sd) (shp_lay se) (by omega) ⟨.bl _, H, I, rfl, q⟩
theorem mEq (fm : Fm G k 𝒳) : Cm 𝒳 G .Eq eqO := ⟨rEqP G.K false, fun i => fm.op (p := fun K => rEqP K false) i (op_eqP (room64 fm i)), fun Φ R H ρ σ a b c x y S e qa qb Q q => by
  unfold eqO at e
  split at e <;> cases e
  rename_i h
  obtain ⟨h1, h2⟩ := Bool.and_eq_true_iff.mp h
  exact ⟨a, b, qa.dp S.sub _ _ (shp_lay h1), qb.dp S.sub _ _ (shp_lay h2), h1, h2, q⟩⟩
theorem mNe (fm : Fm G k 𝒳) : Cm 𝒳 G .NotEq neO := ⟨rEqP G.K true, fun i => fm.op (p := fun K => rEqP K true) i (op_neP (room64 fm i)), fun Φ R H ρ σ a b c x y S e qa qb Q q => by
  unfold neO at e
  split at e <;> cases e
  rename_i h
  obtain ⟨h1, h2⟩ := Bool.and_eq_true_iff.mp h
  exact ⟨a, b, qa.dp S.sub _ _ (shp_lay h1), qb.dp S.sub _ _ (shp_lay h2), h1, h2, q⟩⟩
def ltI : D → D → Option Bool
  | .int i, .int j => some (decide (i < j))
  | _, _ => none
def leI : D → D → Option Bool
  | .int i, .int j => some (decide (i ≤ j))
  | _, _ => none
def gtI : D → D → Option Bool
  | .int i, .int j => some (decide (j < i))
  | _, _ => none
def geI : D → D → Option Bool
  | .int i, .int j => some (decide (j ≤ i))
  | _, _ => none
theorem cmI_int {g : Int → Int → Bool} {f : D → D → Option Bool} (h : ∀ a b c, f a b = some c → ∃ i j, a = .int i ∧ b = .int j ∧ c = g i j) : CmI G (rI0 fun i j => .bl (g i j)) f := fun Φ R H ρ σ a b c x y S e qa qb Q q => by
  obtain ⟨i, j, rfl, rfl, rfl⟩ := h a b c e
  exact ⟨i, j, dq_int.mp qa, dq_int.mp qb, q⟩
theorem mLt : Cm 𝒳 G .Lt ltI := ⟨_, fun _ => op_lt, cmI_int fun a b c e => by unfold ltI at e; split at e <;> cases e; exact ⟨_, _, rfl, rfl, rfl⟩⟩
theorem mLe : Cm 𝒳 G .LtE leI := ⟨_, fun _ => op_le, cmI_int fun a b c e => by unfold leI at e; split at e <;> cases e; exact ⟨_, _, rfl, rfl, rfl⟩⟩
theorem mGt : Cm 𝒳 G .Gt gtI := ⟨_, fun _ => op_gt, cmI_int fun a b c e => by unfold gtI at e; split at e <;> cases e; exact ⟨_, _, rfl, rfl, rfl⟩⟩
theorem mGe : Cm 𝒳 G .GtE geI := ⟨_, fun _ => op_ge, cmI_int fun a b c e => by unfold geI at e; split at e <;> cases e; exact ⟨_, _, rfl, rfl, rfl⟩⟩
/-- is None, is not None -/
def isN (a b : D) : Option Bool := match b with
  | .none => some (match a with | .none => true | _ => false)
  | _ => none
def notN (a b : D) : Option Bool := (isN a b).map (!·)
theorem dq_non_iff {K : PySem.W.Frag} {R : Hp} : ∀ {a : D} {x : V}, Dq K R a x → decide (x = V.non) = (match a with | .none => true | _ => false)
  | .none, _, h => by rw [dq_none] at h; subst h; rfl
  | .bool _, _, h => by rw [dq_bool] at h; subst h; rfl
  | .int _, _, h => by rw [dq_int] at h; subst h; rfl
  | .str _, _, h => by rw [dq_str] at h; subst h; rfl
  | .list _, _, h => by rw [dq_list] at h; obtain ⟨_, _, rfl, _⟩ := h; rfl
  | .tuple _, _, h => by rw [dq_tuple] at h; obtain ⟨_, _, rfl, _⟩ := h; rfl
  | .dict _, _, h => by rw [dq_dict] at h; obtain ⟨_, _, rfl, _⟩ := h; rfl
theorem mIsN : Cm 𝒳 G .Is isN := ⟨_, fun _ => op_isN, fun Φ R H ρ σ a b c x y S e qa qb Q q => by
  unfold isN at e
  split at e
  · cases e
    exact ⟨dq_none.mp qb, by rw [dq_non_iff qa]; exact q⟩
  · cases e⟩
theorem mNotN : Cm 𝒳 G .IsNot notN := ⟨_, fun _ => op_notN, fun Φ R H ρ σ a b c x y S e qa qb Q q => by
  unfold notN isN at e
  split at e
  · cases e
    exact ⟨dq_none.mp qb, by rw [dq_non_iff qa]; exact q⟩
  · cases e⟩
/-- is of bools -/
def isB : D → D → Option Bool
  | .bool a, .bool b => some (decide (a = b))
  | _, _ => none
theorem mIsB : Cm 𝒳 G .Is isB := ⟨_, fun _ => op_isBl, fun Φ R H ρ σ a b c x y S e qa qb Q q => by
  unfold isB at e
  split at e
  · cases e
    exact ⟨_, _, dq_bool.mp qa, dq_bool.mp qb, q⟩
  · cases e⟩
/-- in, not in: a list, a tuple -/
def inO : D → D → Option Bool := fun a b => match b with
  | .list ds => if shp a && shp (.list ds) then some (ds.any fun z => PyData.eqv z a) else none
  | .tuple ds => if shp a && shp (.tuple ds) then some (ds.any fun z => PyData.eqv z a) else none
  | _ => none
def notInO : D → D → Option Bool := fun a b => (inO a b).map (!·)
def rInP (K : PySem.W.Frag) (neg : Bool) : R2 := fun x y H Q => ∃ d ds, Dp K H x d ∧ shp d = true ∧ ((Dp K H y (.tuple ds) ∧ shp (.tuple ds) = true) ∨ (Dp K H y (.list ds) ∧ shp (.list ds) = true)) ∧ Q (.bl (if neg then !ds.any fun z => PyData.eqv z d else ds.any fun z => PyData.eqv z d)) H
theorem op_inP {X : Cx} (hu : X.A.units + 65 < cLine) : OpR X (compareOp .In) (rInP X.K false) := by
  intro pins s σ H x y v u Q I rx ry h
  obtain ⟨d, ds, hd, sd, he | he, q⟩ := h
  · obtain ⟨as, r1⟩ := Dp.reads I d x v hd rx
    obtain ⟨bs, r2⟩ := Dp.reads I (.tuple ds) y u he.1 ry
    have := shp_dep sd
    exact SeqAt.in_tuple_data r2 r1 (by simpa [PyData.plain] using shp_lay he.2) (shp_lay sd) (by omega) ⟨.bl _, H, I, rfl, q⟩
  · obtain ⟨as, r1⟩ := Dp.reads I d x v hd rx
    obtain ⟨bs, r2⟩ := Dp.reads I (.list ds) y u he.1 ry
    have := shp_dep sd
    exact SeqAt.in_list_data r2 r1 (by simpa [PyData.plain] using shp_lay he.2) (shp_lay sd) (by omega) ⟨.bl _, H, I, rfl, q⟩
theorem op_notInP {X : Cx} (hu : X.A.units + 65 < cLine) : OpR X (compareOp .NotIn) (rInP X.K true) := by
  intro pins s σ H x y v u Q I rx ry h
  obtain ⟨d, ds, hd, sd, he | he, q⟩ := h
  · obtain ⟨as, r1⟩ := Dp.reads I d x v hd rx
    obtain ⟨bs, r2⟩ := Dp.reads I (.tuple ds) y u he.1 ry
    have := shp_dep sd
    exact SeqAt.notIn_tuple_data r2 r1 (by simpa [PyData.plain] using shp_lay he.2) (shp_lay sd) (by omega) ⟨.bl _, H, I, rfl, q⟩
  · obtain ⟨as, r1⟩ := Dp.reads I d x v hd rx
    obtain ⟨bs, r2⟩ := Dp.reads I (.list ds) y u he.1 ry
    have := shp_dep sd
    exact SeqAt.notIn_list_data r2 r1 (by simpa [PyData.plain] using shp_lay he.2) (shp_lay sd) (by omega) ⟨.bl _, H, I, rfl, q⟩
theorem cmI_in (neg : Bool) : CmI G (rInP G.K neg) (fun a b => (inO a b).map fun c => if neg then !c else c) := fun Φ R H ρ σ a b c x y S e qa qb Q q => by
  obtain ⟨c0, e0, rfl⟩ := Option.map_eq_some_iff.mp e
  unfold inO at e0
  split at e0
  · split at e0 <;> cases e0
    rename_i ds h
    obtain ⟨h1, h2⟩ := Bool.and_eq_true_iff.mp h
    exact ⟨a, ds, qa.dp S.sub _ _ (shp_lay h1), h1, .inr ⟨qb.dp S.sub _ _ (shp_lay h2), h2⟩, q⟩
  · split at e0 <;> cases e0
    rename_i ds h
    obtain ⟨h1, h2⟩ := Bool.and_eq_true_iff.mp h
    exact ⟨a, ds, qa.dp S.sub _ _ (shp_lay h1), h1, .inl ⟨qb.dp S.sub _ _ (shp_lay h2), h2⟩, q⟩
  · cases e0
theorem mIn (fm : Fm G k 𝒳) : Cm 𝒳 G .In inO := ⟨rInP G.K false, fun i => fm.op (p := fun K => rInP K false) i (op_inP (room65 fm i)), fun Φ R H ρ σ a b c x y S e qa qb Q q =>
  cmI_in false Φ R H ρ σ a b c x y S (by show Option.map _ (inO a b) = _; rw [e]; rfl) qa qb Q q⟩
theorem mNotIn (fm : Fm G k 𝒳) : Cm 𝒳 G .NotIn notInO := ⟨rInP G.K true, fun i => fm.op (p := fun K => rInP K true) i (op_notInP (room65 fm i)), fun Φ R H ρ σ a b c x y S e qa qb Q q =>
  cmI_in true Φ R H ρ σ a b c x y S (by rw [← e]; rfl) qa qb Q q⟩

/-! ### chains a < b < c -/
def mChainB (f g : D → D → Option Bool) (ma mb mc : ME) : MT := fun ρ => (ma ρ).bind fun a ρ1 => (mb ρ1).bind fun b ρ2 => (Re.opt (f a b) ρ2).bind fun c ρ2 => if c = true then (mc ρ2).bind fun z ρ3 => Re.opt (g b z) ρ3 else .ok false ρ2
def mB (m : MT) : ME := fun ρ => (m ρ).bind fun b ρ1 => .ok (.bool b) ρ1
theorem iChain {Φ : Fx} {ta tb tc : TE} {ma mb mc : ME} {r r' : R2} {f g : D → D → Option Bool} (ia : IE G Φ ta ma) (ib : IE G Φ tb mb) (ic : IE G Φ tc mc) (hr : CmI G r f) (hr' : CmI G r' g) : IE G Φ (tChain r r' ta tb tc) (mB (mChainB f g ma mb mc)) := fun R ρ σ H d ρ' S e Q q => by
  obtain ⟨b0, ρ0, e, ed⟩ := Re.of_bind e
  cases ed
  obtain ⟨a, ρ1, e1, e⟩ := Re.of_bind e
  obtain ⟨b, ρ2, e2, e⟩ := Re.of_bind e
  obtain ⟨c, ρ3, e3, e⟩ := Re.of_bind e
  obtain ⟨e3f, rfl⟩ := Re.of_opt e3
  refine ia R ρ σ H a ρ1 S e1 _ fun x R1 H1 S1 x1 q1 => ?_
  refine ib R1 ρ1 σ H1 b _ S1 e2 _ fun y R2 H2 S2 x2 q2 => ?_
  refine hr Φ R2 H2 _ σ a b c x y S2 e3f (q1.mono x2) q2 _ ⟨c, rfl, ?_⟩
  cases c with
  | false =>
    rw [if_neg (by decide)] at e ⊢
    cases e
    exact q _ R2 H2 S2 (x1.trans x2) (dq_bool.mpr rfl)
  | true =>
    rw [if_pos rfl] at e ⊢
    obtain ⟨z, ρ4, e4, e⟩ := Re.of_bind e
    obtain ⟨e5, rfl⟩ := Re.of_opt e
    refine ic R2 _ σ H2 z _ S2 e4 _ fun w R3 H3 S3 x3 q3 => ?_
    exact hr' Φ R3 H3 _ σ b z b0 y w S3 e5 (q2.mono x3) q3 Q (q _ R3 H3 S3 ((x1.trans x2).trans x3) (dq_bool.mpr rfl))
/-- a reading whose value is a bool, as a test -/
theorem iTest {Φ : Fx} {t : TE} {m : MT} (h : IE G Φ t (mB m)) : IT G Φ (tTest t) m := fun R ρ σ H b ρ' S e Q q => by
  refine h R ρ σ H (.bool b) ρ' S (by show (m ρ).bind _ = _; rw [e]; rfl) _ fun v R' H' S' x' q' => ?_
  exact ⟨b, dq_bool.mp q', q R' H' S' x'⟩
theorem cChain {op op' : CmpOp} {a b c : Expr} {ma mb mc : ME} {f g : D → D → Option Bool} {pos : Pos} (h1 : Cm 𝒳 G op f) (h2 : Cm 𝒳 G op' g) (ha : CE 𝒳 G a ma) (hb : CE 𝒳 G b mb) (hc : CE 𝒳 G c mc)
    (hm : lastMarks [op, op'] [b, c] = false := by with_unfolding_all rfl) : CE 𝒳 G (.Compare a [op, op'] [b, c] pos) (mB (mChainB f g ma mb mc)) := by
  obtain ⟨r, ho, hr⟩ := h1.ex
  obtain ⟨r', ho', hr'⟩ := h2.ex
  obtain ⟨ta, pa, ia⟩ := ha
  obtain ⟨tb, pb, ib⟩ := hb
  obtain ⟨tc, pc, ic⟩ := hc
  exact ⟨_, fun i => pe_chain (ho i) (ho' i) (pa i) (pb i) (pc i) hm, fun Φ => iChain (ia Φ) (ib Φ) (ic Φ) hr hr'⟩
theorem tChain {op op' : CmpOp} {a b c : Expr} {ma mb mc : ME} {f g : D → D → Option Bool} {pos : Pos} (h1 : Cm 𝒳 G op f) (h2 : Cm 𝒳 G op' g) (ha : CE 𝒳 G a ma) (hb : CE 𝒳 G b mb) (hc : CE 𝒳 G c mc)
    (hm : lastMarks [op, op'] [b, c] = false := by with_unfolding_all rfl) : CT 𝒳 G (.Compare a [op, op'] [b, c] pos) (mChainB f g ma mb mc) := by
  obtain ⟨r, ho, hr⟩ := h1.ex
  obtain ⟨r', ho', hr'⟩ := h2.ex
  obtain ⟨ta, pa, ia⟩ := ha
  obtain ⟨tb, pb, ib⟩ := hb
  obtain ⟨tc, pc, ic⟩ := hc
  exact ⟨_, fun i => pt_chain (ho i) (ho' i) (pa i) (pb i) (pc i) hm, fun Φ => iTest (iChain (ia Φ) (ib Φ) (ic Φ) hr hr')⟩

/-! ### tests; and, or, not; a if t else b -/
def mT (m : ME) : MT := fun ρ => (m ρ).bind fun d ρ1 => match d with
  | .bool b => .ok b ρ1
  | _ => .bad
theorem iT {Φ : Fx} {t : TE} {m : ME} (h : IE G Φ t m) : IT G Φ (tB t) (mT m) := fun R ρ σ H b ρ' S e Q q => by
  obtain ⟨d, ρ1, e1, e⟩ := Re.of_bind e
  cases d <;> cases e
  exact h R ρ σ H _ _ S e1 _ fun v R' H' S' x' q' => ⟨b, dq_bool.mp q', q R' H' S' x'⟩
theorem tVal {e : Expr} {m : ME} (h : CE 𝒳 G e m) (he : ∀ i whole, isTrue e (𝒳 i).env whole = (do let v ← whole; standAt e.pos; holding [v] (truthy v)) := by intro _ _; rfl) : CT 𝒳 G e (mT m) := by
  obtain ⟨t, hp, hi⟩ := h
  exact ⟨_, fun i => pt_val (hp i) (he i), fun Φ => iT (hi Φ)⟩
/-- and, or of tests: the whole is any -/
def CW (𝒳 : ι → Cx) (G : Gx) (e : Expr) (m : MT) : Prop := ∃ t, (∀ i, PW (𝒳 i) e t) ∧ ∀ Φ, IT G Φ t m
def mAndT (ma mb : MT) : MT := fun ρ => (ma ρ).bind fun a ρ1 => if a = true then mb ρ1 else .ok false ρ1
def mOrT (ma mb : MT) : MT := fun ρ => (ma ρ).bind fun a ρ1 => if a = true then .ok true ρ1 else mb ρ1
def mNotT (ma : MT) : MT := fun ρ => (ma ρ).bind fun a ρ1 => .ok (!a) ρ1
theorem wAnd1 {a : Expr} {m : MT} {pos : Pos} (h : CT 𝒳 G a m) : CW 𝒳 G (.BoolOp .And [a] pos) m := by
  obtain ⟨t, hp, hi⟩ := h
  exact ⟨t, fun i => pw_and1 (hp i), hi⟩
theorem wOr1 {a : Expr} {m : MT} {pos : Pos} (h : CT 𝒳 G a m) : CW 𝒳 G (.BoolOp .Or [a] pos) m := by
  obtain ⟨t, hp, hi⟩ := h
  exact ⟨t, fun i => pw_or1 (hp i), hi⟩
theorem wAnd {a b : Expr} {rest : List Expr} {ma mb : MT} {pos : Pos} (ha : CT 𝒳 G a ma) (hb : CW 𝒳 G (.BoolOp .And (b :: rest) pos) mb) : CW 𝒳 G (.BoolOp .And (a :: b :: rest) pos) (mAndT ma mb) := by
  obtain ⟨ta, pa, ia⟩ := ha
  obtain ⟨tb, pb, ib⟩ := hb
  refine ⟨_, fun i => pw_and (pa i) (pb i), fun Φ R ρ σ H d ρ' S e Q q => ?_⟩
  obtain ⟨a, ρ1, e1, e⟩ := Re.of_bind e
  refine ia Φ R ρ σ H a ρ1 S e1 _ fun R1 H1 S1 x1 => ?_
  cases a with
  | true =>
    rw [if_pos rfl] at e ⊢
    exact ib Φ R1 ρ1 σ H1 d ρ' S1 e Q fun R2 H2 S2 x2 => q R2 H2 S2 (x1.trans x2)
  | false =>
    rw [if_neg (by decide)] at e ⊢
    cases e
    exact q R1 H1 S1 x1
theorem wOr {a b : Expr} {rest : List Expr} {ma mb : MT} {pos : Pos} (ha : CT 𝒳 G a ma) (hb : CW 𝒳 G (.BoolOp .Or (b :: rest) pos) mb) : CW 𝒳 G (.BoolOp .Or (a :: b :: rest) pos) (mOrT ma mb) := by
  obtain ⟨ta, pa, ia⟩ := ha
  obtain ⟨tb, pb, ib⟩ := hb
  refine ⟨_, fun i => pw_or (pa i) (pb i), fun Φ R ρ σ H d ρ' S e Q q => ?_⟩
  obtain ⟨a, ρ1, e1, e⟩ := Re.of_bind e
  refine ia Φ R ρ σ H a ρ1 S e1 _ fun R1 H1 S1 x1 => ?_
  cases a with
  | false =>
    rw [if_neg (by decide)] at e ⊢
    exact ib Φ R1 ρ1 σ H1 d ρ' S1 e Q fun R2 H2 S2 x2 => q R2 H2 S2 (x1.trans x2)
  | true =>
    rw [if_pos rfl] at e ⊢
    cases e
    exact q R1 H1 S1 x1
theorem CW.t {e : Expr} {m : MT} (h : CW 𝒳 G e m) : CT 𝒳 G e m := by
  obtain ⟨t, hp, hi⟩ := h
  exact ⟨t, fun i => (hp i).pt, hi⟩
theorem tNot {a : Expr} {m : MT} {pos : Pos} (h : CT 𝒳 G a m) : CT 𝒳 G (.UnaryOp .Not a pos) (mNotT m) := by
  obtain ⟨t, hp, hi⟩ := h
  refine ⟨_, fun i => pt_not (hp i), fun Φ R ρ σ H d ρ' S e Q q => ?_⟩
  obtain ⟨a, ρ1, e1, e⟩ := Re.of_bind e
  cases e
  exact hi Φ R ρ σ H a _ S e1 _ q
/-- .. as values -/
def mAnd (ma mb : ME) : ME := fun ρ => (ma ρ).bind fun a ρ1 => match a with
  | .bool true => mb ρ1
  | .bool false => .ok (.bool false) ρ1
  | _ => .bad
def mOr (ma mb : ME) : ME := fun ρ => (ma ρ).bind fun a ρ1 => match a with
  | .bool false => mb ρ1
  | .bool true => .ok (.bool true) ρ1
  | _ => .bad
def mNot (ma : ME) : ME := fun ρ => (ma ρ).bind fun a ρ1 => match a with
  | .bool b => .ok (.bool (!b)) ρ1
  | _ => .bad
theorem cOne {op} {a : Expr} {m : ME} {pos : Pos} (h : CE 𝒳 G a m) : CE 𝒳 G (.BoolOp op [a] pos) m := by
  obtain ⟨t, hp, hi⟩ := h
  exact ⟨t, fun i => pe_one (hp i), hi⟩
theorem cAnd {a b : Expr} {rest : List Expr} {ma mb : ME} {pos : Pos} (ha : CE 𝒳 G a ma) (hb : CE 𝒳 G (.BoolOp .And (b :: rest) pos) mb) : CE 𝒳 G (.BoolOp .And (a :: b :: rest) pos) (mAnd ma mb) := by
  obtain ⟨ta, pa, ia⟩ := ha
  obtain ⟨tb, pb, ib⟩ := hb
  refine ⟨_, fun i => pe_and (pa i) (pb i), fun Φ R ρ σ H d ρ' S e Q q => ?_⟩
  obtain ⟨a, ρ1, e1, e⟩ := Re.of_bind e
  refine ia Φ R ρ σ H a ρ1 S e1 _ fun v R1 H1 S1 x1 q1 => ?_
  split at e
  · refine ⟨true, dq_bool.mp q1, ?_⟩
    rw [if_pos rfl]
    exact ib Φ R1 ρ1 σ H1 d ρ' S1 e Q fun v R2 H2 S2 x2 q2 => q v R2 H2 S2 (x1.trans x2) q2
  · cases e
    refine ⟨false, dq_bool.mp q1, ?_⟩
    rw [if_neg (by decide)]
    exact q _ R1 H1 S1 x1 (dq_bool.mpr rfl)
  · cases e
theorem cOr {a b : Expr} {rest : List Expr} {ma mb : ME} {pos : Pos} (ha : CE 𝒳 G a ma) (hb : CE 𝒳 G (.BoolOp .Or (b :: rest) pos) mb) : CE 𝒳 G (.BoolOp .Or (a :: b :: rest) pos) (mOr ma mb) := by
  obtain ⟨ta, pa, ia⟩ := ha
  obtain ⟨tb, pb, ib⟩ := hb
  refine ⟨_, fun i => pe_or (pa i) (pb i), fun Φ R ρ σ H d ρ' S e Q q => ?_⟩
  obtain ⟨a, ρ1, e1, e⟩ := Re.of_bind e
  refine ia Φ R ρ σ H a ρ1 S e1 _ fun v R1 H1 S1 x1 q1 => ?_
  split at e
  · refine ⟨false, dq_bool.mp q1, ?_⟩
    rw [if_neg (by decide)]
    exact ib Φ R1 ρ1 σ H1 d ρ' S1 e Q fun v R2 H2 S2 x2 q2 => q v R2 H2 S2 (x1.trans x2) q2
  · cases e
    refine ⟨true, dq_bool.mp q1, ?_⟩
    rw [if_pos rfl]
    exact q _ R1 H1 S1 x1 (dq_bool.mpr rfl)
  · cases e
theorem cNot {a : Expr} {m : ME} {pos : Pos} (h : CE 𝒳 G a m) : CE 𝒳 G (.UnaryOp .Not a pos) (mNot m) := by
  obtain ⟨t, hp, hi⟩ := h
  refine ⟨_, fun i => pe_not (hp i), fun Φ R ρ σ H d ρ' S e Q q => ?_⟩
  obtain ⟨a, ρ1, e1, e⟩ := Re.of_bind e
  cases a <;> cases e
  exact hi Φ R ρ σ H _ _ S e1 _ fun v R1 H1 S1 x1 q1 => ⟨_, dq_bool.mp q1, q _ R1 H1 S1 x1 (dq_bool.mpr rfl)⟩
def mIf (mc : MT) (ma mb : ME) : ME := fun ρ => (mc ρ).bind fun c ρ1 => if c = true then ma ρ1 else mb ρ1
theorem cIf {c a b : Expr} {mc : MT} {ma mb : ME} {pos : Pos} (hc : CT 𝒳 G c mc) (ha : CE 𝒳 G a ma) (hb : CE 𝒳 G b mb) : CE 𝒳 G (.IfExp c a b pos) (mIf mc ma mb) := by
  obtain ⟨tc, pc, ic⟩ := hc
  obtain ⟨ta, pa, ia⟩ := ha
  obtain ⟨tb, pb, ib⟩ := hb
  refine ⟨_, fun i => pe_ifExp (pc i) (pa i) (pb i), fun Φ R ρ σ H d ρ' S e Q q => ?_⟩
  obtain ⟨c, ρ1, e1, e⟩ := Re.of_bind e
  refine ic Φ R ρ σ H c ρ1 S e1 _ fun R1 H1 S1 x1 => ?_
  cases c with
  | true =>
    rw [if_pos rfl] at e ⊢
    exact ia Φ R1 ρ1 σ H1 d ρ' S1 e Q fun v R2 H2 S2 x2 q2 => q v R2 H2 S2 (x1.trans x2) q2
  | false =>
    rw [if_neg (by decide)] at e ⊢
    exact ib Φ R1 ρ1 σ H1 d ρ' S1 e Q fun v R2 H2 S2 x2 q2 => q v R2 H2 S2 (x1.trans x2) q2

/-! ### xs[i] of lists and tuples; slices -/
def ixD : D → D → Option D
  | .list ds, .int i => atI ds i
  | .tuple ds, .int i => atI ds i
  | _, _ => none
theorem DqA.atI {K : PySem.W.Frag} {R : Hp} {ds : List D} {vs : List V} {i : Int} {d : D} (h : DqA K R ds vs) (e : L2.atI ds i = some d) : ∃ v, L2.atI vs i = some v ∧ Dq K R d v := by
  unfold L2.atI at e ⊢
  rw [← h.length]
  cases q : ixN ds.length i with
  | none => rw [q] at e; cases e
  | some j =>
    rw [q] at e
    exact h.get (show ds[j]? = some d from e)
theorem opI_ix : OpI G (fun x y H Q => rIxL G.K x y H Q ∨ rIxT G.K x y H Q) ixD := fun Φ R H ρ σ a b d x y S e qa qb Q q => by
  unfold ixD at e
  split at e
  · obtain ⟨p, vs, rfl, h1, h2⟩ := dq_list.mp qa
    obtain ⟨v, e1, e2⟩ := h2.atI e
    exact .inl ⟨p, vs, _, v, rfl, dq_int.mp qb, .inl (.inl (S.sub _ _ h1)), e1, q v R H S (Ext.refl R) e2⟩
  · obtain ⟨p, vs, rfl, h1, h2⟩ := dq_tuple.mp qa
    obtain ⟨v, e1, e2⟩ := h2.atI e
    exact .inr ⟨p, vs, _, v, rfl, dq_int.mp qb, .inl (.inl (S.sub _ _ h1)), e1, q v R H S (Ext.refl R) e2⟩
  · cases e
theorem cIx {a b : Expr} {ma mb : ME} {pos : Pos} (fm : Fm G k 𝒳) (ha : CE 𝒳 G a ma) (hb : CE 𝒳 G b mb) (hs : PlainIx b := by exact fun _ _ => rfl) : CE 𝒳 G (.Subscript a b pos) (mOp2 ixD ma mb) := by
  obtain ⟨ta, pa, ia⟩ := ha
  obtain ⟨tb, pb, ib⟩ := hb
  exact ⟨_, fun i => pe_ix (IxR.or (fm.ix i ix_list) (fm.ix i ix_tup)) (pa i) (pb i) hs, fun Φ => iOp2 (ia Φ) (ib Φ) opI_ix⟩
/-- a part of a slice -/
def CP (𝒳 : ι → Cx) (G : Gx) (e : Option Expr) (m : PE0 → Re (Option Int)) : Prop := ∃ t, (∀ i, PO (𝒳 i) e t) ∧ ∀ (Φ : Fx) (R : Hp) (ρ : PE0) (σ : L2.St) (H : Hp) (b : Option Int) (ρ' : PE0), SR G Φ R ρ σ H → m ρ = .ok b ρ' →
  ∀ Q : Option Int → Hp → Prop, (∀ (R' H' : Hp), SR G Φ R' ρ' σ H' → Ext R R' → Q b H') → t σ H Q
def mNoP : PE0 → Re (Option Int) := fun ρ => .ok none ρ
def mPart (m : ME) : PE0 → Re (Option Int) := fun ρ => (m ρ).bind fun d ρ1 => match d with
  | .int i => .ok (some i) ρ1
  | _ => .bad
theorem pNone : CP 𝒳 G none mNoP := ⟨_, fun _ => po_none, fun Φ R ρ σ H d ρ' S e Q q => by cases e; exact q R H S (Ext.refl R)⟩
theorem pSome {e : Expr} {m : ME} (h : CE 𝒳 G e m) : CP 𝒳 G (some e) (mPart m) := by
  obtain ⟨t, hp, hi⟩ := h
  refine ⟨_, fun i => po_some (hp i), fun Φ R ρ σ H d ρ' S e Q q => ?_⟩
  obtain ⟨a, ρ1, e1, e⟩ := Re.of_bind e
  cases a <;> cases e
  exact hi Φ R ρ σ H _ _ S e1 _ fun v R1 H1 S1 x1 q1 => ⟨_, dq_int.mp q1, q R1 H1 S1 x1⟩
def cutD (ds : List D) (lo hi : Option Int) : List D := (ds.drop (HT.sIx ds.length 0 lo)).take (HT.sIx ds.length ds.length hi - HT.sIx ds.length 0 lo)
theorem DqA.cut {K : PySem.W.Frag} {R : Hp} {ds : List D} {vs : List V} (h : DqA K R ds vs) (lo hi : Option Int) : DqA K R (cutD ds lo hi) (cutV vs lo hi) := by
  unfold cutD cutV
  rw [h.length]
  exact (h.drop _).take _
def sliceD (d : D) (lo hi : Option Int) : Option D := match d with
  | .list ds => some (.list (cutD ds lo hi))
  | .tuple ds => some (.tuple (cutD ds lo hi))
  | _ => none
def mSlice (m : ME) (ml mh : PE0 → Re (Option Int)) : ME := fun ρ => (m ρ).bind fun d ρ1 => (ml ρ1).bind fun lo ρ2 => (mh ρ2).bind fun hi ρ3 => Re.opt (sliceD d lo hi) ρ3
theorem cut_all {α : Type} (xs : List α) : (xs.drop 0).take (xs.length - 0) = xs := by rw [List.drop_zero, Nat.sub_zero, List.take_length]
theorem cSlice {e : Expr} {lo hi : Option Expr} {m : ME} {ml mh : PE0 → Re (Option Int)} {p2 pos : Pos} (fm : Fm G k 𝒳) (h : CE 𝒳 G e m) (hl : CP 𝒳 G lo ml) (hh : CP 𝒳 G hi mh) : CE 𝒳 G (.Subscript e (.Slice lo hi none p2) pos) (mSlice m ml mh) := by
  obtain ⟨t, pt, it⟩ := h
  obtain ⟨tl, pl, il⟩ := hl
  obtain ⟨th, ph, ih⟩ := hh
  refine ⟨_, fun i => pe_slice ((fm.sl i sl_list).or (fm.sl i sl_tupA)) (pt i) (pl i) (ph i), fun Φ R ρ σ H d ρ' S e Q q => ?_⟩
  obtain ⟨a, ρ1, e1, e⟩ := Re.of_bind e
  obtain ⟨l, ρ2, e2, e⟩ := Re.of_bind e
  obtain ⟨u, ρ3, e3, e⟩ := Re.of_bind e
  obtain ⟨e4, rfl⟩ := Re.of_opt e
  refine it Φ R ρ σ H a ρ1 S e1 _ fun v R1 H1 S1 x1 q1 => ?_
  refine il Φ R1 ρ1 σ H1 l ρ2 S1 e2 _ fun R2 H2 S2 x2 => ?_
  refine ih Φ R2 ρ2 σ H2 u _ S2 e3 _ fun R3 H3 S3 x3 => ?_
  have q3 := (q1.mono x2).mono x3
  have x13 := (x1.trans x2).trans x3
  unfold sliceD at e4
  split at e4
  · cases e4
    obtain ⟨p, vs, rfl, h1, h2⟩ := dq_list.mp q3
    refine .inl ⟨p, vs, rfl, .inl (.inl (S3.sub _ _ h1)), fun p' np => ?_⟩
    have x4 : Ext R3 (upd R3 p' (.lst (cutV vs l u))) := ext_upd (S3.sub.none np)
    exact q _ _ _ (S3.laid np (plain_lst _).1 (Nat.le_trans (cutV_length vs l u) (S3.lens _ _ h1))) (x13.trans x4) (dq_list.mpr ⟨p', _, rfl, upd_same, (h2.cut l u).mono x4⟩)
  · rename_i ds _ _
    cases e4
    obtain ⟨p, vs, rfl, h1, h2⟩ := dq_tuple.mp q3
    refine .inr ⟨p, vs, rfl, .inl (.inl (S3.sub _ _ h1)), fun hw => ?_, fun _ p' np => ?_⟩
    · have e5 : cutD ds l u = ds := by
        unfold cutD
        rw [h2.length, hw.1, hw.2, ← h2.length]
        exact cut_all ds
      rw [e5] at q
      exact q _ R3 H3 S3 x13 (dq_tuple.mpr ⟨p, vs, rfl, h1, h2⟩)
    · have x4 : Ext R3 (upd R3 p' (.tup (cutV vs l u))) := ext_upd (S3.sub.none np)
      exact q _ _ _ (S3.laid np (plain_tup _).1 (Nat.le_trans (cutV_length vs l u) (S3.lens _ _ h1))) (x13.trans x4) (dq_tuple.mpr ⟨p', _, rfl, upd_same, (h2.cut l u).mono x4⟩)
  · cases e4
end
end Pm

/-! Pm5: calls of built-in functions. -/
namespace Pm
open PySem PySem.Spec PyProof.Rows L2
def intsOf : List D → Option (List Int)
  | [] => some []
  | .int i :: ds => (intsOf ds).map (i :: ·)
  | _ :: _ => none
def boolsOf : List D → Option (List Bool)
  | [] => some []
  | .bool i :: ds => (boolsOf ds).map (i :: ·)
  | _ :: _ => none
theorem intsOf_eq : ∀ {ds : List D} {ns : List Int}, intsOf ds = some ns → ds = ns.map .int
  | [], _, h => by cases h; rfl
  | .int i :: ds, ns, h => by
    obtain ⟨ms, e, rfl⟩ := Option.map_eq_some_iff.mp h
    rw [intsOf_eq e]; rfl
  | .none :: _, _, h => by cases h
  | .bool _ :: _, _, h => by cases h
  | .str _ :: _, _, h => by cases h
  | .list _ :: _, _, h => by cases h
  | .tuple _ :: _, _, h => by cases h
  | .dict _ :: _, _, h => by cases h
theorem intsOf_map : ∀ ns : List Int, intsOf (ns.map .int) = some ns
  | [] => rfl
  | n :: ns => by show (intsOf (ns.map .int)).map (n :: ·) = _; rw [intsOf_map ns]; rfl
theorem boolsOf_eq : ∀ {ds : List D} {ns : List Bool}, boolsOf ds = some ns → ds = ns.map .bool
  | [], _, h => by cases h; rfl
  | .bool i :: ds, ns, h => by
    obtain ⟨ms, e, rfl⟩ := Option.map_eq_some_iff.mp h
    rw [boolsOf_eq e]; rfl
  | .none :: _, _, h => by cases h
  | .int _ :: _, _, h => by cases h
  | .str _ :: _, _, h => by cases h
  | .list _ :: _, _, h => by cases h
  | .tuple _ :: _, _, h => by cases h
  | .dict _ :: _, _, h => by cases h
theorem boolsOf_map : ∀ ns : List Bool, boolsOf (ns.map .bool) = some ns
  | [] => rfl
  | n :: ns => by show (boolsOf (ns.map .bool)).map (n :: ·) = _; rw [boolsOf_map ns]; rfl
section
variable {ι : Type} {𝒳 : ι → Cx} {G : Gx} {k : Nat}
/-- a built-in's call by values, of plain values -/
def ClI (G : Gx) (r : List V → Hp → VK → Prop) (f : List D → Option D) : Prop := ∀ (Φ : Fx) (R H : Hp) (ρ : PE0) (σ : L2.St) (ds : List D) (d : D) (vs : List V), SR G Φ R ρ σ H → f ds = some d → DqA G.K R ds vs →
  ∀ Q : VK, (∀ (v : V) (R' H' : Hp), SR G Φ R' ρ σ H' → Ext R R' → Dq G.K R' d v → Q v H') → r vs H Q
def ClO (G : Gx) (r : List V → Hp → VK → Prop) (f : List D → Option Ow) : Prop := ∀ (Φ : Fx) (R H : Hp) (ρ : PE0) (σ : L2.St) (ds : List D) (w : Ow) (vs : List V), SR G Φ R ρ σ H → f ds = some w → DqA G.K R ds vs →
  ∀ Q : VK, (∀ (p : Addr) (R' H' : Hp), SR G Φ R' ρ σ H' → Ext R R' → Mine Φ R' ρ σ p → OwnAt G.K R' H' p w → Q (.ref p) H') → r vs H Q
def mCallB (f : List D → Option D) (ma : MA) : ME := fun ρ => (ma ρ).bind fun ds ρ1 => Re.opt (f ds) ρ1
def mCallO (f : List D → Option Ow) (ma : MA) : MO := fun ρ => (ma ρ).bind fun ds ρ1 => Re.opt (f ds) ρ1
theorem iCallB {Φ : Fx} {t : TA} {ma : MA} {r : List V → Hp → VK → Prop} {f : List D → Option D} (ia : IA G Φ t ma) (hr : ClI G r f) : IE G Φ (tCB r t) (mCallB f ma) := fun R ρ σ H d ρ' S e Q q => by
  obtain ⟨ds, ρ1, e1, e⟩ := Re.of_bind e
  obtain ⟨e2, rfl⟩ := Re.of_opt e
  refine ia R ρ σ H ds _ S e1 _ fun vs R1 H1 S1 x1 q1 => ?_
  exact hr Φ R1 H1 _ σ ds d vs S1 e2 q1 Q fun v R2 H2 S2 x2 q2 => q v R2 H2 S2 (x1.trans x2) q2
theorem iCallO {Φ : Fx} {t : TA} {ma : MA} {r : List V → Hp → VK → Prop} {f : List D → Option Ow} (ia : IA G Φ t ma) (hr : ClO G r f) : IO G Φ (tCB r t) (mCallO f ma) := fun R ρ σ H d ρ' S e Q q => by
  obtain ⟨ds, ρ1, e1, e⟩ := Re.of_bind e
  obtain ⟨e2, rfl⟩ := Re.of_opt e
  refine ia R ρ σ H ds _ S e1 _ fun vs R1 H1 S1 x1 q1 => ?_
  exact hr Φ R1 H1 _ σ ds d vs S1 e2 q1 Q fun v R2 H2 S2 x2 q2 q3 => q v R2 H2 S2 (x1.trans x2) q2 q3
/-- f(e, ..) of a built-in function -/
theorem cCallB {id : String} {x : Str} {e : Expr} {es : List Expr} {ma : MA} {r : List V → Hp → VK → Prop} {f : List D → Option D} {p pos : Pos} (fm : Fm G k 𝒳) (hc : ∀ i, CallR (𝒳 i) (.builtin id) r) (hr : ClI G r f) (hm : G.mg x = none) (hv : bootBuiltins x = some (.builtin id)) (ha : CA 𝒳 G (e :: es) ma)
    (hg : ∀ i, Gl (𝒳 i) x := by intro _; rfl) (hn : x ≠ "__name__" := by decide) (hdb : (x == ("__debug__" : Str)) = false := by decide)
    (he : ∀ i, starEach (e :: es) (𝒳 i).env = (false, eval e (𝒳 i).env) :: starEach es (𝒳 i).env := by intro _; rfl) (hpl : ∀ i, (backTo pos (starEach es (𝒳 i).env)).any (·.1) = false := by intro _; rfl) :
    CE 𝒳 G (.Call (.Name x p) (e :: es) [] pos) (mCallB f ma) := by
  obtain ⟨t, hp, hi, _⟩ := ha
  exact ⟨_, fun i => pe_callB (hc i) (hg i) (by rw [fm.mg i]; exact hm) hv (hp i) hn hdb (he i) (hpl i), fun Φ => iCallB (hi Φ) hr⟩
theorem cCallTy {T : String} {x : Str} {e : Expr} {es : List Expr} {ma : MA} {r : List V → Hp → VK → Prop} {f : List D → Option D} {p pos : Pos} (fm : Fm G k 𝒳) (hc : ∀ i, CallR (𝒳 i) (.type T) r) (hr : ClI G r f) (hm : G.mg x = none) (hv : bootBuiltins x = some (.type T)) (ha : CA 𝒳 G (e :: es) ma)
    (hg : ∀ i, Gl (𝒳 i) x := by intro _; rfl) (hn : x ≠ "__name__" := by decide) (hdb : (x == ("__debug__" : Str)) = false := by decide)
    (he : ∀ i, starEach (e :: es) (𝒳 i).env = (false, eval e (𝒳 i).env) :: starEach es (𝒳 i).env := by intro _; rfl) (hpl : ∀ i, (backTo pos (starEach es (𝒳 i).env)).any (·.1) = false := by intro _; rfl) :
    CE 𝒳 G (.Call (.Name x p) (e :: es) [] pos) (mCallB f ma) := by
  obtain ⟨t, hp, hi, _⟩ := ha
  exact ⟨_, fun i => pe_callTy (hc i) (hg i) (by rw [fm.mg i]; exact hm) hv (hp i) hn hdb (he i) (hpl i), fun Φ => iCallB (hi Φ) hr⟩
theorem oCallTy {T : String} {x : Str} {e : Expr} {es : List Expr} {ma : MA} {r : List V → Hp → VK → Prop} {f : List D → Option Ow} {p pos : Pos} (fm : Fm G k 𝒳) (hc : ∀ i, CallR (𝒳 i) (.type T) r) (hr : ClO G r f) (hm : G.mg x = none) (hv : bootBuiltins x = some (.type T)) (ha : CA 𝒳 G (e :: es) ma)
    (hg : ∀ i, Gl (𝒳 i) x := by intro _; rfl) (hn : x ≠ "__name__" := by decide) (hdb : (x == ("__debug__" : Str)) = false := by decide)
    (he : ∀ i, starEach (e :: es) (𝒳 i).env = (false, eval e (𝒳 i).env) :: starEach es (𝒳 i).env := by intro _; rfl) (hpl : ∀ i, (backTo pos (starEach es (𝒳 i).env)).any (·.1) = false := by intro _; rfl) :
    CO 𝒳 G (.Call (.Name x p) (e :: es) [] pos) (mCallO f ma) := by
  obtain ⟨t, hp, hi, _⟩ := ha
  exact ⟨_, fun i => pe_callTy (hc i) (hg i) (by rw [fm.mg i]; exact hm) hv (hp i) hn hdb (he i) (hpl i), fun Φ => iCallO (hi Φ) hr⟩
theorem dqa1 {K : PySem.W.Frag} {R : Hp} {d : D} {vs : List V} (h : DqA K R [d] vs) : ∃ x, vs = [x] ∧ Dq K R d x := by
  obtain ⟨x, r, rfl, h1, h2⟩ := dqa_cons.mp h
  rw [dqa_nil] at h2
  exact ⟨x, by rw [h2], h1⟩
theorem dqa2 {K : PySem.W.Frag} {R : Hp} {d e : D} {vs : List V} (h : DqA K R [d, e] vs) : ∃ x y, vs = [x, y] ∧ Dq K R d x ∧ Dq K R e y := by
  obtain ⟨x, r, rfl, h1, h2⟩ := dqa_cons.mp h
  obtain ⟨y, rfl, h3⟩ := dqa1 h2
  exact ⟨x, y, rfl, h1, h3⟩
/-! ### len, abs, int, max, min of two -/
def lenD : List D → Option D
  | [.list ds] => some (.int ds.length)
  | [.tuple ds] => some (.int ds.length)
  | _ => none
theorem clLen : ClI G (fun xs H Q => ∃ p ys, xs = [.ref p] ∧ (SqL G.K H p ys ∨ SqT G.K H p ys) ∧ Q (.int ys.length) H) lenD := fun Φ R H ρ σ ds d vs S e qa Q q => by
  unfold lenD at e
  split at e <;> cases e
  · obtain ⟨x, rfl, h⟩ := dqa1 qa
    obtain ⟨p, ws, rfl, h1, h2⟩ := dq_list.mp h
    exact ⟨p, ws, rfl, .inl (.inl (.inl (S.sub _ _ h1))), by rw [← h2.length]; exact q _ R H S (Ext.refl R) (dq_int.mpr rfl)⟩
  · obtain ⟨x, rfl, h⟩ := dqa1 qa
    obtain ⟨p, ws, rfl, h1, h2⟩ := dq_tuple.mp h
    exact ⟨p, ws, rfl, .inr (.inl (.inl (S.sub _ _ h1))), by rw [← h2.length]; exact q _ R H S (Ext.refl R) (dq_int.mpr rfl)⟩
theorem cLen {e : Expr} {m : ME} {p pos : Pos} (fm : Fm G k 𝒳) (hm : G.mg "len" = none) (h : CE 𝒳 G e m) (hg : ∀ i, Gl (𝒳 i) "len" := by intro _; rfl)
    (he : ∀ i, starEach [e] (𝒳 i).env = (false, eval e (𝒳 i).env) :: starEach [] (𝒳 i).env := by intro _; rfl) : CE 𝒳 G (.Call (.Name "len" p) [e] [] pos) (mCallB lenD (mCons m mNil)) :=
  cCallB fm (fun i => fm.call (p := fun K xs H Q => ∃ p ys, xs = [.ref p] ∧ (SqL K H p ys ∨ SqT K H p ys) ∧ Q (.int ys.length) H) i call_len_seq) clLen hm boot_len (aCons h aNil he) hg (by decide) (by decide) he (fun _ => rfl)
def absI : List D → Option D
  | [.int i] => some (.int (if i < 0 then -i else i))
  | _ => none
theorem cAbs {e : Expr} {m : ME} {p pos : Pos} (fm : Fm G k 𝒳) (hm : G.mg "abs" = none) (h : CE 𝒳 G e m) (hg : ∀ i, Gl (𝒳 i) "abs" := by intro _; rfl)
    (he : ∀ i, starEach [e] (𝒳 i).env = (false, eval e (𝒳 i).env) :: starEach [] (𝒳 i).env := by intro _; rfl) : CE 𝒳 G (.Call (.Name "abs" p) [e] [] pos) (mCallB absI (mCons m mNil)) :=
  cCallB fm (fun i => call_abs) (fun Φ R H ρ σ ds d vs S e qa Q q => by
    unfold absI at e
    split at e <;> cases e
    obtain ⟨x, rfl, h⟩ := dqa1 qa
    exact ⟨_, by rw [dq_int.mp h], q _ R H S (Ext.refl R) (dq_int.mpr rfl)⟩) hm (by decide +kernel) (aCons h aNil he) hg (by decide) (by decide) he (fun _ => rfl)
def intD : List D → Option D
  | [.int i] => some (.int i)
  | _ => none
theorem cIntC {e : Expr} {m : ME} {p pos : Pos} (fm : Fm G k 𝒳) (hm : G.mg "int" = none) (h : CE 𝒳 G e m) (hg : ∀ i, Gl (𝒳 i) "int" := by intro _; rfl)
    (he : ∀ i, starEach [e] (𝒳 i).env = (false, eval e (𝒳 i).env) :: starEach [] (𝒳 i).env := by intro _; rfl) : CE 𝒳 G (.Call (.Name "int" p) [e] [] pos) (mCallB intD (mCons m mNil)) :=
  cCallTy fm (fun i => call_int1) (fun Φ R H ρ σ ds d vs S e qa Q q => by
    unfold intD at e
    split at e <;> cases e
    obtain ⟨x, rfl, h⟩ := dqa1 qa
    exact .inl ⟨_, by rw [dq_int.mp h], q _ R H S (Ext.refl R) (dq_int.mpr rfl)⟩) hm (by decide +kernel) (aCons h aNil he) hg (by decide) (by decide) he (fun _ => rfl)
def max2 : List D → Option D
  | [.int i, .int j] => some (.int (if j > i then j else i))
  | _ => none
def min2 : List D → Option D
  | [.int i, .int j] => some (.int (if j < i then j else i))
  | _ => none
theorem cMax2 {a b : Expr} {ma mb : ME} {p pos : Pos} (fm : Fm G k 𝒳) (hm : G.mg "max" = none) (ha : CE 𝒳 G a ma) (hb : CE 𝒳 G b mb) (hg : ∀ i, Gl (𝒳 i) "max" := by intro _; rfl)
    (he : ∀ i, starEach [a, b] (𝒳 i).env = (false, eval a (𝒳 i).env) :: starEach [b] (𝒳 i).env := by intro _; rfl) (he2 : ∀ i, starEach [b] (𝒳 i).env = (false, eval b (𝒳 i).env) :: starEach [] (𝒳 i).env := by intro _; rfl)
    (hpl : ∀ i, (backTo pos (starEach [b] (𝒳 i).env)).any (·.1) = false := by intro _; rfl) : CE 𝒳 G (.Call (.Name "max" p) [a, b] [] pos) (mCallB max2 (mCons ma (mCons mb mNil))) :=
  cCallB fm (fun i => call_max2 (fm.calm i)) (fun Φ R H ρ σ ds d vs S e qa Q q => by
    unfold max2 at e
    split at e <;> cases e
    obtain ⟨x, y, rfl, h, h'⟩ := dqa2 qa
    exact ⟨_, _, by rw [dq_int.mp h, dq_int.mp h'], q _ R H S (Ext.refl R) (dq_int.mpr rfl)⟩) hm (by decide +kernel) (aCons ha (aCons hb aNil he2) he) hg (by decide) (by decide) he hpl
theorem cMin2 {a b : Expr} {ma mb : ME} {p pos : Pos} (fm : Fm G k 𝒳) (hm : G.mg "min" = none) (ha : CE 𝒳 G a ma) (hb : CE 𝒳 G b mb) (hg : ∀ i, Gl (𝒳 i) "min" := by intro _; rfl)
    (he : ∀ i, starEach [a, b] (𝒳 i).env = (false, eval a (𝒳 i).env) :: starEach [b] (𝒳 i).env := by intro _; rfl) (he2 : ∀ i, starEach [b] (𝒳 i).env = (false, eval b (𝒳 i).env) :: starEach [] (𝒳 i).env := by intro _; rfl)
    (hpl : ∀ i, (backTo pos (starEach [b] (𝒳 i).env)).any (·.1) = false := by intro _; rfl) : CE 𝒳 G (.Call (.Name "min" p) [a, b] [] pos) (mCallB min2 (mCons ma (mCons mb mNil))) :=
  cCallB fm (fun i => call_min2 (fm.calm i)) (fun Φ R H ρ σ ds d vs S e qa Q q => by
    unfold min2 at e
    split at e <;> cases e
    obtain ⟨x, y, rfl, h, h'⟩ := dqa2 qa
    exact ⟨_, _, by rw [dq_int.mp h, dq_int.mp h'], q _ R H S (Ext.refl R) (dq_int.mpr rfl)⟩) hm (by decide +kernel) (aCons ha (aCons hb aNil he2) he) hg (by decide) (by decide) he hpl
/-! ### sum, all, any of a list -/
def sumL : List D → Option D
  | [.list ds] => (intsOf ds).map fun ns => .int ns.sum
  | _ => none
theorem cSumL {e : Expr} {m : ME} {p pos : Pos} (fm : Fm G k 𝒳) (hm : G.mg "sum" = none) (h : CE 𝒳 G e m) (hg : ∀ i, Gl (𝒳 i) "sum" := by intro _; rfl)
    (he : ∀ i, starEach [e] (𝒳 i).env = (false, eval e (𝒳 i).env) :: starEach [] (𝒳 i).env := by intro _; rfl) : CE 𝒳 G (.Call (.Name "sum" p) [e] [] pos) (mCallB sumL (mCons m mNil)) :=
  cCallB (r := rSum G.K) fm (fun i => fm.call i (cr_sum (fm.calm i))) (fun Φ R H ρ σ ds d vs S e qa Q q => by
    unfold sumL at e
    split at e
    · obtain ⟨ns, e1, rfl⟩ := Option.map_eq_some_iff.mp e
      obtain ⟨x, rfl, h⟩ := dqa1 qa
      obtain ⟨p, ws, rfl, h1, h2⟩ := dq_list.mp h
      rw [intsOf_eq e1] at h2
      exact ⟨p, ns, rfl, .inl (.inl (by rw [← h2.ints]; exact S.sub _ _ h1)), q _ R H S (Ext.refl R) (dq_int.mpr rfl)⟩
    · cases e) hm (by decide +kernel) (aCons h aNil he) hg (by decide) (by decide) he (fun _ => rfl)
def allL : List D → Option D
  | [.list ds] => (boolsOf ds).map fun ns => .bool (ns.all id)
  | _ => none
def anyL : List D → Option D
  | [.list ds] => (boolsOf ds).map fun ns => .bool (ns.any id)
  | _ => none
theorem cAll {e : Expr} {m : ME} {p pos : Pos} (fm : Fm G k 𝒳) (hm : G.mg "all" = none) (h : CE 𝒳 G e m) (hg : ∀ i, Gl (𝒳 i) "all" := by intro _; rfl)
    (he : ∀ i, starEach [e] (𝒳 i).env = (false, eval e (𝒳 i).env) :: starEach [] (𝒳 i).env := by intro _; rfl) : CE 𝒳 G (.Call (.Name "all" p) [e] [] pos) (mCallB allL (mCons m mNil)) :=
  cCallB (r := rAll G.K) fm (fun i => fm.call i (cr_all (fm.calm i))) (fun Φ R H ρ σ ds d vs S e qa Q q => by
    unfold allL at e
    split at e
    · obtain ⟨ns, e1, rfl⟩ := Option.map_eq_some_iff.mp e
      obtain ⟨x, rfl, h⟩ := dqa1 qa
      obtain ⟨p, ws, rfl, h1, h2⟩ := dq_list.mp h
      rw [boolsOf_eq e1] at h2
      exact ⟨p, ns, rfl, .inl (.inl (by rw [← h2.bools]; exact S.sub _ _ h1)), q _ R H S (Ext.refl R) (dq_bool.mpr rfl)⟩
    · cases e) hm (by decide +kernel) (aCons h aNil he) hg (by decide) (by decide) he (fun _ => rfl)
theorem cAny {e : Expr} {m : ME} {p pos : Pos} (fm : Fm G k 𝒳) (hm : G.mg "any" = none) (h : CE 𝒳 G e m) (hg : ∀ i, Gl (𝒳 i) "any" := by intro _; rfl)
    (he : ∀ i, starEach [e] (𝒳 i).env = (false, eval e (𝒳 i).env) :: starEach [] (𝒳 i).env := by intro _; rfl) : CE 𝒳 G (.Call (.Name "any" p) [e] [] pos) (mCallB anyL (mCons m mNil)) :=
  cCallB (r := rAny G.K) fm (fun i => fm.call i (cr_any (fm.calm i))) (fun Φ R H ρ σ ds d vs S e qa Q q => by
    unfold anyL at e
    split at e
    · obtain ⟨ns, e1, rfl⟩ := Option.map_eq_some_iff.mp e
      obtain ⟨x, rfl, h⟩ := dqa1 qa
      obtain ⟨p, ws, rfl, h1, h2⟩ := dq_list.mp h
      rw [boolsOf_eq e1] at h2
      exact ⟨p, ns, rfl, .inl (.inl (by rw [← h2.bools]; exact S.sub _ _ h1)), q _ R H S (Ext.refl R) (dq_bool.mpr rfl)⟩
    · cases e) hm (by decide +kernel) (aCons h aNil he) hg (by decide) (by decide) he (fun _ => rfl)
/-! ### tuple(x), list(x) -/
def tupleD : List D → Option D
  | [.list ds] => some (.tuple ds)
  | [.tuple ds] => some (.tuple ds)
  | _ => none
theorem cTuple {e : Expr} {m : ME} {p pos : Pos} (fm : Fm G k 𝒳) (hm : G.mg "tuple" = none) (h : CE 𝒳 G e m) (hg : ∀ i, Gl (𝒳 i) "tuple" := by intro _; rfl)
    (he : ∀ i, starEach [e] (𝒳 i).env = (false, eval e (𝒳 i).env) :: starEach [] (𝒳 i).env := by intro _; rfl) : CE 𝒳 G (.Call (.Name "tuple" p) [e] [] pos) (mCallB tupleD (mCons m mNil)) :=
  cCallTy fm (fun i => fm.call (p := fun K xs H Q => ∃ p ys, xs = [.ref p] ∧ ((SqL K H p ys ∧ ∀ l, H l = none → Q (.ref l) (upd H l (.tup ys))) ∨ (SqT K H p ys ∧ Q (.ref p) H))) i call_tuple_of) (fun Φ R H ρ σ ds d vs S e qa Q q => by
    unfold tupleD at e
    split at e <;> cases e
    · obtain ⟨x, rfl, h⟩ := dqa1 qa
      obtain ⟨p, ws, rfl, h1, h2⟩ := dq_list.mp h
      refine ⟨p, ws, rfl, .inl ⟨.inl (.inl (S.sub _ _ h1)), fun l nl => ?_⟩⟩
      have x1 : Ext R (upd R l (.tup ws)) := ext_upd (S.sub.none nl)
      exact q _ _ _ (S.laid nl (plain_tup _).1 (show Len (.tup ws) from (show ws.length ≤ sizeLine from S.lens _ _ h1))) x1 (dq_tuple.mpr ⟨l, ws, rfl, upd_same, h2.mono x1⟩)
    · obtain ⟨x, rfl, h⟩ := dqa1 qa
      obtain ⟨p, ws, rfl, h1, h2⟩ := dq_tuple.mp h
      exact ⟨p, ws, rfl, .inr ⟨.inl (.inl (S.sub _ _ h1)), q _ R H S (Ext.refl R) h⟩⟩) hm (by decide +kernel) (aCons h aNil he) hg (by decide) (by decide) he (fun _ => rfl)
def listO : List D → Option Ow
  | [.list ds] => some (.l ds)
  | [.tuple ds] => some (.l ds)
  | _ => none
theorem oList {e : Expr} {m : ME} {p pos : Pos} (fm : Fm G k 𝒳) (hm : G.mg "list" = none) (h : CE 𝒳 G e m) (hg : ∀ i, Gl (𝒳 i) "list" := by intro _; rfl)
    (he : ∀ i, starEach [e] (𝒳 i).env = (false, eval e (𝒳 i).env) :: starEach [] (𝒳 i).env := by intro _; rfl) : CO 𝒳 G (.Call (.Name "list" p) [e] [] pos) (mCallO listO (mCons m mNil)) :=
  oCallTy fm (fun i => fm.call (p := fun K xs H Q => ∃ p ys, xs = [.ref p] ∧ (SqL K H p ys ∨ SqT K H p ys) ∧ ∀ l, H l = none → Q (.ref l) (upd H l (.lst ys))) i call_list_of) (fun Φ R H ρ σ ds d vs S e qa Q q => by
    unfold listO at e
    split at e <;> cases e
    · obtain ⟨x, rfl, h⟩ := dqa1 qa
      obtain ⟨p, ws, rfl, h1, h2⟩ := dq_list.mp h
      exact ⟨p, ws, rfl, .inl (.inl (.inl (S.sub _ _ h1))), fun l nl => q l R _ (S.made nl) (Ext.refl R) (S.mine nl) ⟨ws, upd_same, h2, (show ws.length ≤ sizeLine from S.lens _ _ h1)⟩⟩
    · obtain ⟨x, rfl, h⟩ := dqa1 qa
      obtain ⟨p, ws, rfl, h1, h2⟩ := dq_tuple.mp h
      exact ⟨p, ws, rfl, .inr (.inl (.inl (S.sub _ _ h1))), fun l nl => q l R _ (S.made nl) (Ext.refl R) (S.mine nl) ⟨ws, upd_same, h2, (show ws.length ≤ sizeLine from S.lens _ _ h1)⟩⟩) hm (by decide +kernel) (aCons h aNil he) hg (by decide) (by decide) he (fun _ => rfl)
/-! ### isinstance(x, T) -/
def tyD : D → String
  | .none => "NoneType"
  | .bool _ => "bool"
  | .int _ => "int"
  | .str _ => "str"
  | .list _ => "list"
  | .tuple _ => "tuple"
  | .dict _ => "dict"
theorem Dq.ty {K : PySem.W.Frag} {R H : Hp} (s : Ext R H) : ∀ {d : D} {v : V}, Dq K R d v → TyX K H v (.type (tyD d))
  | .none, _, h => by rw [dq_none] at h; subst h; exact .base .non
  | .bool _, _, h => by rw [dq_bool] at h; subst h; exact .base (.bl _)
  | .int _, _, h => by rw [dq_int] at h; subst h; exact .base (.int _)
  | .str _, _, h => by rw [dq_str] at h; subst h; exact .base (.str _)
  | .list _, _, h => by obtain ⟨a, xs, rfl, h1, _⟩ := dq_list.mp h; exact .base (.lst (s _ _ h1))
  | .tuple _, _, h => by obtain ⟨a, xs, rfl, h1, _⟩ := dq_tuple.mp h; exact .base (.tup (s _ _ h1))
  | .dict _, _, h => by
    obtain ⟨a, xs, rfl, h1, _⟩ := dq_dict.mp h
    rcases h1 with ⟨ks, _, h2, _⟩ | ⟨ks, _, h2, _⟩
    · exact .base (.dK (s _ _ h2))
    · exact .base (.dT (s _ _ h2))
/-- the three that are asked -/
def isiInt : D → Bool
  | .bool _ => true
  | .int _ => true
  | _ => false
def isiBool : D → Bool
  | .bool _ => true
  | _ => false
def isiTup : D → Bool
  | .tuple _ => true
  | _ => false
def mIsi (f : D → Bool) (m : ME) : ME := fun ρ => (m ρ).bind fun d ρ1 => .ok (.bool (f d)) ρ1
theorem cIsi {T : String} {x : Str} {f : D → Bool} {e : Expr} {m : ME} {p p2 pos : Pos} (fm : Fm G k 𝒳) (hf : ∀ d, kitB (tyD d) T = some (f d)) (hm : G.mg "isinstance" = none) (hmT : G.mg x = none) (hvT : bootBuiltins x = some (.type T)) (h : CE 𝒳 G e m) (hg : ∀ i, Gl (𝒳 i) "isinstance") (hgT : ∀ i, Gl (𝒳 i) x)
    (hn : x ≠ "__name__") (hd : (x == ("__debug__" : Str)) = false)
    (he : ∀ i, starEach [e, .Name x p2] (𝒳 i).env = (false, eval e (𝒳 i).env) :: starEach [.Name x p2] (𝒳 i).env) : CE 𝒳 G (.Call (.Name "isinstance" p) [e, .Name x p2] [] pos) (mIsi f m) := by
  obtain ⟨t, hp, hi⟩ := h
  refine ⟨tCB (rIsi G.K) (tCons t (tCons (tC (.ty T)) tNil)), fun i => pe_callB (fm.call i call_isi) (hg i) (by rw [fm.mg i]; exact hm) (by decide +kernel) (pa_cons (hp i) (pa_cons (pe_bltn (v := .ty T) (hgT i) (by rw [fm.mg i]; exact hmT) hvT rfl hn hd) pa_nil rfl) (he i)) (by decide) (by decide) (he i) rfl, fun Φ R ρ σ H d ρ' S e Q q => ?_⟩
  obtain ⟨a, ρ1, e1, e⟩ := Re.of_bind e
  cases e
  refine hi Φ R ρ σ H a _ S e1 _ fun v R1 H1 S1 x1 q1 => ?_
  exact ⟨v, .ty T, _, _, f a, rfl, .ty T, q1.ty S1.sub, kit_ty (hf a), q _ R1 H1 S1 x1 (dq_bool.mpr rfl)⟩
theorem kit_int (d : D) : kitB (tyD d) "int" = some (isiInt d) := match d with
  | .none => (by decide +kernel : kitB "NoneType" "int" = some false)
  | .bool _ => (by decide +kernel : kitB "bool" "int" = some true)
  | .int _ => (by decide +kernel : kitB "int" "int" = some true)
  | .str _ => (by decide +kernel : kitB "str" "int" = some false)
  | .list _ => (by decide +kernel : kitB "list" "int" = some false)
  | .tuple _ => (by decide +kernel : kitB "tuple" "int" = some false)
  | .dict _ => (by decide +kernel : kitB "dict" "int" = some false)
theorem kit_bool (d : D) : kitB (tyD d) "bool" = some (isiBool d) := match d with
  | .none => (by decide +kernel : kitB "NoneType" "bool" = some false)
  | .bool _ => (by decide +kernel : kitB "bool" "bool" = some true)
  | .int _ => (by decide +kernel : kitB "int" "bool" = some false)
  | .str _ => (by decide +kernel : kitB "str" "bool" = some false)
  | .list _ => (by decide +kernel : kitB "list" "bool" = some false)
  | .tuple _ => (by decide +kernel : kitB "tuple" "bool" = some false)
  | .dict _ => (by decide +kernel : kitB "dict" "bool" = some false)
theorem kit_tup (d : D) : kitB (tyD d) "tuple" = some (isiTup d) := match d with
  | .none => (by decide +kernel : kitB "NoneType" "tuple" = some false)
  | .bool _ => (by decide +kernel : kitB "bool" "tuple" = some false)
  | .int _ => (by decide +kernel : kitB "int" "tuple" = some false)
  | .str _ => (by decide +kernel : kitB "str" "tuple" = some false)
  | .list _ => (by decide +kernel : kitB "list" "tuple" = some false)
  | .tuple _ => (by decide +kernel : kitB "tuple" "tuple" = some true)
  | .dict _ => (by decide +kernel : kitB "dict" "tuple" = some false)
theorem cIsiInt {e : Expr} {m : ME} {p p2 pos : Pos} (fm : Fm G k 𝒳) (hm : G.mg "isinstance" = none) (hmT : G.mg "int" = none) (h : CE 𝒳 G e m) (hg : ∀ i, Gl (𝒳 i) "isinstance" := by intro _; rfl) (hgT : ∀ i, Gl (𝒳 i) "int" := by intro _; rfl)
    (he : ∀ i, starEach [e, .Name "int" p2] (𝒳 i).env = (false, eval e (𝒳 i).env) :: starEach [.Name "int" p2] (𝒳 i).env := by intro _; rfl) : CE 𝒳 G (.Call (.Name "isinstance" p) [e, .Name "int" p2] [] pos) (mIsi isiInt m) :=
  cIsi fm kit_int hm hmT (by decide +kernel) h hg hgT (by decide) (by decide) he
theorem cIsiBool {e : Expr} {m : ME} {p p2 pos : Pos} (fm : Fm G k 𝒳) (hm : G.mg "isinstance" = none) (hmT : G.mg "bool" = none) (h : CE 𝒳 G e m) (hg : ∀ i, Gl (𝒳 i) "isinstance" := by intro _; rfl) (hgT : ∀ i, Gl (𝒳 i) "bool" := by intro _; rfl)
    (he : ∀ i, starEach [e, .Name "bool" p2] (𝒳 i).env = (false, eval e (𝒳 i).env) :: starEach [.Name "bool" p2] (𝒳 i).env := by intro _; rfl) : CE 𝒳 G (.Call (.Name "isinstance" p) [e, .Name "bool" p2] [] pos) (mIsi isiBool m) :=
  cIsi fm kit_bool hm hmT (by decide +kernel) h hg hgT (by decide) (by decide) he
theorem cIsiTup {e : Expr} {m : ME} {p p2 pos : Pos} (fm : Fm G k 𝒳) (hm : G.mg "isinstance" = none) (hmT : G.mg "tuple" = none) (h : CE 𝒳 G e m) (hg : ∀ i, Gl (𝒳 i) "isinstance" := by intro _; rfl) (hgT : ∀ i, Gl (𝒳 i) "tuple" := by intro _; rfl)
    (he : ∀ i, starEach [e, .Name "tuple" p2] (𝒳 i).env = (false, eval e (𝒳 i).env) :: starEach [.Name "tuple" p2] (𝒳 i).env := by intro _; rfl) : CE 𝒳 G (.Call (.Name "isinstance" p) [e, .Name "tuple" p2] [] pos) (mIsi isiTup m) :=
  cIsi fm kit_tup hm hmT (by decide +kernel) h hg hgT (by decide) (by decide) he
end
end Pm

/-! Pm6: calls of the text's own defs; what is walked; targets; list comprehensions. -/
namespace Pm
open PySem PySem.Spec PyProof.Rows L2
/-! ### promises -/
inductive Out where
  | ok (d : D)
  | exc (n : Str)
  | bad
inductive OutD where
  | ok (d : D) (c : List D)
  | exc (n : Str) (c : List D)
  | bad
structure Start (G : Gx) (R H : Hp) : Prop where
  sub : Ext R H
  dat : ∀ a ps, R a ≠ some (.tbl ps)
  lens : ∀ a o, R a = some o → Len o
  tabs : LamX.Tabs G.T H
def excAt (H : Hp) (dx : Addr) (n : Str) : Prop := H dx = some (.xd [(("name" : Str), V.str n)])
/-- a def that changes nothing: its answer, or the name that it refuses -/
def spP (G : Gx) (np : Nat) (F : List D → Out) : Sp := fun vs H Q E => vs.length = np ∧ ∃ R ds, Start G R H ∧ DqA G.K R ds vs ∧ match F ds with
  | .ok d => ∀ v R' H', After G none R H R' H' → Dq G.K R' d v → Q v H'
  | .exc n => ∀ dx R' H', After G none R H R' H' → excAt H' dx n → E (.ref G.C) (some dx) H'
  | .bad => False
/-- a def that draws: its first argument is the dice's list -/
def spD (G : Gx) (np : Nat) (F : List D → List D → OutD) : Sp := fun vs H Q E => vs.length = np + 1 ∧ ∃ R a xs c vr ds, vs = .ref a :: vr ∧ R a = none ∧ H a = some (.lst xs) ∧ DqA G.K R c xs ∧ Start G R H ∧ DqA G.K R ds vr ∧ match F c ds with
  | .ok d c' => ∀ v R' H' xs', After G (some a) R H R' H' → H' a = some (.lst xs') → DqA G.K R' c' xs' → Dq G.K R' d v → Q v H'
  | .exc n c' => ∀ dx R' H' xs', After G (some a) R H R' H' → H' a = some (.lst xs') → DqA G.K R' c' xs' → excAt H' dx n → E (.ref G.C) (some dx) H'
  | .bad => False
/-- a def of the text that keeps a promise -/
structure PrF (G : Gx) (k : Nat) (x : Str) (s : Stmt) (f : Addr) (ps : List Str) (sp : Sp) : Prop where
  ex : ∃ fd, FunD G.K x x (defArgs s) (defBody s) (defScope s) [] [] f fd ∧ FnOk G.P G.w G.K G.mg G.base (L2.CX G.P G.w) k f fd ps sp ∧ L2.Binds G.K fd ps []
  gm : G.mg x = some (.ref f)
section
variable {ι : Type} {𝒳 : ι → Cx} {G : Gx} {k : Nat}
theorem SR.start {Φ : Fx} {R H : Hp} {ρ : PE0} {σ : L2.St} (S : SR G Φ R ρ σ H) : Start G R H := ⟨S.sub, S.dat, S.lens, S.tabs⟩
theorem Fm.fn (fm : Fm G k 𝒳) {kf : Nat} {f : Addr} {fd : FuncData} {ps : List Str} {sp : Sp} (i : ι) (F : FnOk G.P G.w G.K G.mg G.base (L2.CX G.P G.w) kf f fd ps sp) : FnOk (𝒳 i).prog (𝒳 i).w (𝒳 i).K (𝒳 i).mg (𝒳 i).base (L2.CX (𝒳 i).prog (𝒳 i).w) kf f fd ps sp := by
  rw [fm.prog i, fm.w i, fm.K i, fm.mg i, fm.base i]
  exact F
def mCall (F : List D → Out) (ma : MA) : ME := fun ρ => (ma ρ).bind fun ds ρ1 => match F ds with
  | .ok d => .ok d ρ1
  | _ => .bad
/-- f(e, ..) that raises nothing -/
theorem cCall {kf np : Nat} {x : Str} {s : Stmt} {f : Addr} {ps : List Str} {F : List D → Out} {e : Expr} {es : List Expr} {ma : MA} {p pos : Pos} (fm : Fm G k 𝒳) (P : PrF G kf x s f ps (spP G np F)) (hk : kf ≤ k) (ha : CA 𝒳 G (e :: es) ma) (hl : (e :: es).length = np := by rfl)
    (hg : ∀ i, Gl (𝒳 i) x := by intro _; rfl) (hdb : (x == ("__debug__" : Str)) = false := by decide)
    (he : ∀ i, starEach (e :: es) (𝒳 i).env = (false, eval e (𝒳 i).env) :: starEach es (𝒳 i).env := by intro _; rfl) (hpl : ∀ i, (backTo pos (starEach es (𝒳 i).env)).any (·.1) = false := by intro _; rfl) :
    CE 𝒳 G (.Call (.Name x p) (e :: es) [] pos) (mCall F ma) := by
  obtain ⟨fd, FD, FO, FB⟩ := P.ex
  obtain ⟨t, hp, hi, hlen⟩ := ha
  refine ⟨tCall (spP G np F) [] E0 t, fun i => pe_call (fm.fn i FO) ((fm.room i).mono hk) (hg i) (by rw [fm.mg i]; exact P.gm) (by rw [fm.K i]; exact FD.kp) (by rw [fm.K i]; exact FB) .nil passL (hp i) hdb (he i) (hpl i), fun Φ R ρ σ H d ρ' S e Q q => ?_⟩
  obtain ⟨ds, ρ1, e1, e⟩ := Re.of_bind e
  refine hi Φ R ρ σ H ds ρ1 S e1 _ fun vs R1 H1 S1 x1 q1 => ?_
  rw [List.append_nil]
  refine ⟨by rw [← q1.length, hlen _ _ _ e1]; exact hl, R1, ds, S1.start, q1, ?_⟩
  cases hF : F ds with
  | ok d0 =>
    rw [hF] at e
    cases e
    exact fun v R' H' A dq => q v R' H' (S1.after A) (x1.trans A.ext) dq
  | exc n => rw [hF] at e; cases e
  | bad => rw [hF] at e; cases e
/-! ### f(.., k = e): the written values in the parameters' order -/
def pickAll {α : Type} (is : List Nat) (xs : List α) : List α := is.filterMap fun i => xs[i]?
theorem Vals.pick {is : List Nat} {vs : List V} {us : List Value} (r : Vals vs us) : Vals (pickAll is vs) (pickAll is us) := by
  unfold pickAll
  induction is with
  | nil => exact .nil
  | cons i is ih =>
    rw [List.filterMap_cons, List.filterMap_cons]
    cases q : vs[i]? with
    | none => rw [Vals.none_of r q]; exact ih
    | some v =>
      obtain ⟨u, e, rv⟩ := Vals.get r q
      rw [e]
      exact .cons rv ih
theorem DqA.pick {K : PySem.W.Frag} {R : Hp} {is : List Nat} {ds : List D} {vs : List V} (h : DqA K R ds vs) : DqA K R (pickAll is ds) (pickAll is vs) := by
  unfold pickAll
  induction is with
  | nil => exact dqa_nil.mpr rfl
  | cons i is ih =>
    rw [List.filterMap_cons, List.filterMap_cons]
    cases q : ds[i]? with
    | none =>
      have : vs[i]? = none := by
        rw [List.getElem?_eq_none_iff] at q ⊢
        rw [← h.length]; exact q
      rw [this]; exact ih
    | some d =>
      obtain ⟨v, e, dv⟩ := h.get q
      rw [e]
      exact dqa_cons.mpr ⟨_, _, rfl, dv, ih⟩
/-- keywords' values -/
def CK (𝒳 : ι → Cx) (G : Gx) (kws : List Keyword) (m : MA) : Prop := ∃ t, (∀ i, PK (𝒳 i) kws t) ∧ (∀ Φ, IA G Φ t m) ∧ ∀ ρ ds ρ', m ρ = .ok ds ρ' → ds.length = kws.length
theorem kNil : CK 𝒳 G [] mNil := ⟨tNil, fun _ => pk_nil, fun Φ R ρ σ H d ρ' S e Q q => by cases e; exact q _ R H S (Ext.refl R) (dqa_nil.mpr rfl), fun ρ ds ρ' e => by cases e; rfl⟩
theorem kCons {nm : Option Str} {e : Expr} {kpos : Pos} {kws : List Keyword} {m : ME} {r : MA} (h : CE 𝒳 G e m) (hr : CK 𝒳 G kws r) : CK 𝒳 G (⟨nm, e, kpos⟩ :: kws) (mCons m r) := by
  obtain ⟨t, hp, hi⟩ := h
  obtain ⟨u, hpr, hir, hl⟩ := hr
  refine ⟨tCons t u, fun j => pk_cons (hp j) (hpr j), fun Φ R ρ σ H ds ρ' S e Q q => ?_, fun ρ ds ρ' e => ?_⟩
  · obtain ⟨d, ρ1, e1, e⟩ := Re.of_bind e
    obtain ⟨ds', ρ2, e2, e⟩ := Re.of_bind e
    cases e
    refine hi Φ R ρ σ H d ρ1 S e1 _ fun v R1 H1 S1 x1 q1 => ?_
    refine hir Φ R1 ρ1 σ H1 ds' _ S1 e2 _ fun vs R2 H2 S2 x2 q2 => ?_
    exact q _ R2 H2 S2 (x1.trans x2) (dqa_cons.mpr ⟨_, _, rfl, q1.mono x2, q2⟩)
  · obtain ⟨d, ρ1, e1, e⟩ := Re.of_bind e
    obtain ⟨ds', ρ2, e2, e⟩ := Re.of_bind e
    cases e
    rw [List.length_cons, List.length_cons, hl _ _ _ e2]
/-- g(us, ws): the places is of us, then ws -/
def kwG {α : Type} (is : List Nat) (us ws : List α) : List α := pickAll is (us ++ ws)
def mCallK (F : List D → Out) (is : List Nat) (ma mk : MA) : ME := fun ρ => (ma ρ).bind fun ds ρ1 => (mk ρ1).bind fun es ρ2 => match F (kwG is ds es) with
  | .ok d => .ok d ρ2
  | _ => .bad
/-- how the def's arguments bind by keywords -/
def KwOk (s : Stmt) (x : Str) (ps : List Str) (n : Nat) (ks : List Str) (is : List Nat) : Prop :=
  ∀ (kV doc pm : Value) (an : Option Addr) (cdv ct : Value) (us ws : List Value), us.length = n → ws.length = ks.length → bindArgs (PySem.W.fnOf x x (defArgs s) (defBody s) (defScope s) .none kV doc pm an cdv ct) ⟨us, ks.zip ws⟩ = pure (ps.zip (kwG is us ws))
theorem kw_kbn {K : PySem.W.Frag} {x : Str} {s : Stmt} {f : Addr} {fd : FuncData} {ps ks : List Str} {n : Nat} {is : List Nat} (F : FunD K x x (defArgs s) (defBody s) (defScope s) [] [] f fd) (h : KwOk s x ps n ks is) : KBn K fd ps n ks (kwG is) (kwG is) := by
  obtain ⟨oc, od, dV, kV, doc, pm, an, cdv, ct, osl, rfl, lk, hcd, hD, hK⟩ := F.ex
  rcases hD with ⟨_, rfl⟩ | ⟨e, _⟩
  · exact ⟨fun s us ws _ h1 h2 => .of_eq (h kV doc pm an cdv ct us ws h1 h2), fun r1 r2 => Vals.pick (r1.append r2)⟩
  · exact absurd rfl e
/-- no positional value -/
theorem pe_callN0 {X : Cx} {CX : CXT} {k : Nat} {f : Addr} {fd : FuncData} {ps ks : List Str} {sp : Sp} {E : XK} {x : Str} {p pos : Pos} {kws : List Keyword} {tk : TA} {g : List Value → List Value → List Value} {gV : List V → List V → List V}
    (F : FnOk X.prog X.w X.K X.mg X.base CX k f fd ps sp) (hr : Room k X.A) (hg : Gl X x) (hm : X.mg x = some (.ref f)) (hk : PySem.W.keepIn X.K (.ref f) = true) (hb : KBn X.K fd ps 0 ks g gV) (hx : Passes CX X E)
    (hkw : PK X kws tk) (hall : (backToKw pos (keywordEach kws X.env)).all (·.1.isSome) = true) (hks : (backToKw pos (keywordEach kws X.env)).filterMap (·.1) = ks) (hdb : (x == ("__debug__" : Str)) = false)
    (hpl : ((backTo pos (starEach [] X.env)).any (·.1) || (backToKw pos (keywordEach kws X.env)).any (·.1.isNone)) = false) :
    PE X (.Call (.Name x p) [] kws pos) (tCallN 0 ks.length sp gV E tNil tk) := by
  refine ⟨fun pins s σ H Q I h => wpAny_Call_Name_kw (ld_glob I hg hm ?_ hdb)⟩
  refine PySem.W.callWith_KW0 (h₀ := X.base) I.ok.mod.kin hk hall (thn (hkw.run pos pins s σ H _ I h) fun ws s2 hh => ?_) hpl
  obtain ⟨zs, H2, I2, rz, l1, l2, q2⟩ := hh
  refine ⟨I2.kIn, ?_⟩
  rw [hks]
  exact run_fnN (us := []) F hr hb hx I2 .nil rz l1 l2 q2
theorem iCallK {Φ : Fx} {np n m : Nat} {F : List D → Out} {is : List Nat} {t tk : TA} {ma mk : MA} (hi : IA G Φ t ma) (hik : IA G Φ tk mk) (l1 : ∀ ρ ds ρ', ma ρ = .ok ds ρ' → ds.length = n) (l2 : ∀ ρ ds ρ', mk ρ = .ok ds ρ' → ds.length = m)
    (hl : ∀ ds es : List D, ds.length = n → es.length = m → (kwG is ds es).length = np) : IE G Φ (tCallN n m (spP G np F) (kwG is) E0 t tk) (mCallK F is ma mk) := fun R ρ σ H d ρ' S e Q q => by
  obtain ⟨ds, ρ1, e1, e⟩ := Re.of_bind e
  obtain ⟨es, ρ2, e2, e⟩ := Re.of_bind e
  refine hi R ρ σ H ds ρ1 S e1 _ fun vs R1 H1 S1 x1 q1 => ?_
  refine hik R1 ρ1 σ H1 es ρ2 S1 e2 _ fun zs R2 H2 S2 x2 q2 => ?_
  have qk : DqA G.K R2 (kwG is ds es) (kwG is vs zs) := ((q1.mono x2).append q2).pick
  refine ⟨by rw [← q1.length]; exact l1 _ _ _ e1, by rw [← q2.length]; exact l2 _ _ _ e2, by rw [← qk.length]; exact hl ds es (l1 _ _ _ e1) (l2 _ _ _ e2), R2, kwG is ds es, S2.start, qk, ?_⟩
  cases hF : F (kwG is ds es) with
  | ok d0 =>
    rw [hF] at e
    cases e
    exact fun v R' H' A dq => q v R' H' (S2.after A) ((x1.trans x2).trans A.ext) dq
  | exc n => rw [hF] at e; cases e
  | bad => rw [hF] at e; cases e
/-- f(e, .., k = e, ..) -/
theorem cCallK {kf np n : Nat} {x : Str} {s : Stmt} {f : Addr} {ps ks : List Str} {F : List D → Out} {is : List Nat} {e : Expr} {es : List Expr} {kws : List Keyword} {ma mk : MA} {p pos : Pos} (fm : Fm G k 𝒳) (P : PrF G kf x s f ps (spP G np F)) (hk : kf ≤ k) (ha : CA 𝒳 G (e :: es) ma) (hkw : CK 𝒳 G kws mk)
    (ok : KwOk s x ps n ks is) (hl : ∀ ds es : List D, ds.length = n → es.length = ks.length → (kwG is ds es).length = np) (hn : (e :: es).length = n := by rfl) (hks : kws.length = ks.length := by rfl)
    (hg : ∀ i, Gl (𝒳 i) x := by intro _; rfl) (hall : ∀ i, (backToKw pos (keywordEach kws (𝒳 i).env)).all (·.1.isSome) = true := by intro _; rfl) (hk2 : ∀ i, (backToKw pos (keywordEach kws (𝒳 i).env)).filterMap (·.1) = ks := by intro _; rfl) (hdb : (x == ("__debug__" : Str)) = false := by decide)
    (he : ∀ i, starEach (e :: es) (𝒳 i).env = (false, eval e (𝒳 i).env) :: starEach es (𝒳 i).env := by intro _; rfl)
    (hpl : ∀ i, ((backTo pos (starEach (e :: es) (𝒳 i).env)).any (·.1) || (backToKw pos (keywordEach kws (𝒳 i).env)).any (·.1.isNone)) = false := by intro _; rfl) :
    CE 𝒳 G (.Call (.Name x p) (e :: es) kws pos) (mCallK F is ma mk) := by
  obtain ⟨fd, FD, FO, _⟩ := P.ex
  obtain ⟨t, hp, hi, hlen⟩ := ha
  obtain ⟨tk, hpk, hik, hlenk⟩ := hkw
  exact ⟨_, fun i => pe_callN (fm.fn i FO) ((fm.room i).mono hk) (hg i) (by rw [fm.mg i]; exact P.gm) (by rw [fm.K i]; exact FD.kp) (by rw [fm.K i]; exact kw_kbn FD ok) passL (hp i) (hpk i) (hall i) (hk2 i) hdb (he i) (hpl i),
    fun Φ => iCallK (hi Φ) (hik Φ) (fun ρ ds ρ' e => by rw [hlen ρ ds ρ' e]; exact hn) (fun ρ ds ρ' e => by rw [hlenk ρ ds ρ' e]; exact hks) hl⟩
/-- f(k = e, ..) -/
theorem cCallK0 {kf np : Nat} {x : Str} {s : Stmt} {f : Addr} {ps ks : List Str} {F : List D → Out} {is : List Nat} {kws : List Keyword} {mk : MA} {p pos : Pos} (fm : Fm G k 𝒳) (P : PrF G kf x s f ps (spP G np F)) (hk : kf ≤ k) (hkw : CK 𝒳 G kws mk)
    (ok : KwOk s x ps 0 ks is) (hl : ∀ ds es : List D, ds.length = 0 → es.length = ks.length → (kwG is ds es).length = np) (hks : kws.length = ks.length := by rfl)
    (hg : ∀ i, Gl (𝒳 i) x := by intro _; rfl) (hall : ∀ i, (backToKw pos (keywordEach kws (𝒳 i).env)).all (·.1.isSome) = true := by intro _; rfl) (hk2 : ∀ i, (backToKw pos (keywordEach kws (𝒳 i).env)).filterMap (·.1) = ks := by intro _; rfl) (hdb : (x == ("__debug__" : Str)) = false := by decide)
    (hpl : ∀ i, ((backTo pos (starEach [] (𝒳 i).env)).any (·.1) || (backToKw pos (keywordEach kws (𝒳 i).env)).any (·.1.isNone)) = false := by intro _; rfl) :
    CE 𝒳 G (.Call (.Name x p) [] kws pos) (mCallK F is mNil mk) := by
  obtain ⟨fd, FD, FO, _⟩ := P.ex
  obtain ⟨tk, hpk, hik, hlenk⟩ := hkw
  exact ⟨_, fun i => pe_callN0 (fm.fn i FO) ((fm.room i).mono hk) (hg i) (by rw [fm.mg i]; exact P.gm) (by rw [fm.K i]; exact FD.kp) (by rw [fm.K i]; exact kw_kbn FD ok) passL (hpk i) (hall i) (hk2 i) hdb (hpl i),
    fun Φ => iCallK (n := 0) (fun R ρ σ H d ρ' S e Q q => by cases e; exact q _ R H S (Ext.refl R) (dqa_nil.mpr rfl)) (hik Φ) (fun ρ ds ρ' e => by cases e; rfl) (fun ρ ds ρ' e => by rw [hlenk ρ ds ρ' e]; exact hks) hl⟩

/-! ### calls of defs that draw: the first argument is the dice's slot -/
def diceAt (i : Nat) (ρ : PE0) : Option (List D) := match ρ[i]? with
  | some (.dice c) => some c
  | _ => none
def mCallD (F : List D → List D → OutD) (i : Nat) (ma : MA) : ME := fun ρ => match diceAt i ρ with
  | some _ => (ma ρ).bind fun ds ρ1 => match diceAt i ρ1 with
    | some c => match F c ds with
      | .ok d c' => .ok d (ρ1.set i (.dice c'))
      | _ => .bad
    | none => .bad
  | none => .bad
theorem diceAt_eq {i : Nat} {ρ : PE0} {c : List D} (h : diceAt i ρ = some c) : ρ[i]? = some (.dice c) := by
  unfold diceAt at h
  split at h <;> cases h
  assumption
theorem cCallD {kf np : Nat} (i : Nat) {x y : Str} {s : Stmt} {f : Addr} {ps : List Str} {F : List D → List D → OutD} {es : List Expr} {ma : MA} {p py pos : Pos} (fm : Fm G k 𝒳) (P : PrF G kf x s f ps (spD G np F)) (hk : kf ≤ k) (ha : CA 𝒳 G es ma) (hl : es.length = np := by rfl)
    (hN : ∀ j, (𝒳 j).N[i]? = some y := by intro _; rfl) (hv : ∀ j, Vis (𝒳 j).env.scope y := by first | exact fun _ => Or.inl rfl | exact fun _ => Or.inr (Or.inl rfl) | exact fun _ => Or.inr (Or.inr rfl)) (hd : (y == ("__debug__" : Str)) = false := by decide) (hcd : (y == ("__classdict__" : Str)) = false := by decide)
    (hg : ∀ i, Gl (𝒳 i) x := by intro _; rfl) (hdb : (x == ("__debug__" : Str)) = false := by decide)
    (he : ∀ i, starEach (.Name y py :: es) (𝒳 i).env = (false, eval (.Name y py) (𝒳 i).env) :: starEach es (𝒳 i).env := by intro _; rfl) (hpl : ∀ i, (backTo pos (starEach es (𝒳 i).env)).any (·.1) = false := by intro _; rfl) :
    CE 𝒳 G (.Call (.Name x p) (.Name y py :: es) [] pos) (mCallD F i ma) := by
  obtain ⟨fd, FD, FO, FB⟩ := P.ex
  obtain ⟨t, hp, hi, hlen⟩ := ha
  refine ⟨tCall (spD G np F) [] E0 (tCons (tVar i) t), fun j => pe_call (fm.fn j FO) ((fm.room j).mono hk) (hg j) (by rw [fm.mg j]; exact P.gm) (by rw [fm.K j]; exact FD.kp) (by rw [fm.K j]; exact FB) .nil passL (pa_cons (pe_var (hN j) (hv j) hd hcd) (hp j) (he j)) hdb (he j) (hpl j), fun Φ R ρ σ H d ρ' S e Q q => ?_⟩
  unfold mCallD at e
  split at e
  · rename_i c0 hc0
    obtain ⟨ds, ρ1, e1, e⟩ := Re.of_bind e
    split at e
    · rename_i c hc
      split at e <;> cases e
      rename_i c' hF
      obtain ⟨a, _, z1, z2, _⟩ := S.sl i _ (diceAt_eq hc0)
      refine ⟨.ref a, z1, ?_⟩
      refine hi Φ R ρ σ H ds ρ1 S e1 _ fun vs R1 H1 S1 x1 q1 => ?_
      obtain ⟨b, xs, y1, y2, y3, y4, y5⟩ := S1.sl i _ (diceAt_eq hc)
      obtain rfl : a = b := by rw [z2] at y2; exact Option.some.inj y2
      rw [List.append_nil]
      refine ⟨by rw [List.length_cons, ← q1.length, hlen _ _ _ e1, hl], R1, a, xs, c, vs, ds, rfl, y3, y4, y5, S1.start, q1, ?_⟩
      rw [hF]
      exact fun v R' H' xs' A hw hd' dq => q v R' H' (S1.writeD (diceAt_eq hc) z1 A hw hd') (x1.trans A.ext) dq
    · cases e
  · cases e
end
end Pm

/-! Pm7: what is walked; targets; list comprehensions. -/
namespace Pm
open PySem PySem.Spec PyProof.Rows L2
theorem Start.after {G : Gx} {R H : Hp} (S : Start G R H) (d : Option Addr) : After G d R H R H := ⟨Ext.refl R, S.sub, S.dat, S.lens, fun _ _ h _ _ => h, fun _ h => h, S.tabs, fun _ h => .inl h⟩
theorem After.start {G : Gx} {d : Option Addr} {R H R' H' : Hp} (A : After G d R H R' H') : Start G R' H' := ⟨A.sub, A.dat, A.lens, A.tabs⟩
/-- a thing just laid, readable -/
theorem Start.laid {G : Gx} {R H : Hp} {p : Addr} {o : HO} (S : Start G R H) (hp : H p = none) (hn : ∀ ps, o ≠ .tbl ps) (hl : Len o) : After G none R H (upd R p o) (upd H p o) :=
  ⟨ext_upd (S.sub.none hp), S.sub.both, fun a ps => by
      by_cases e : a = p
      · subst e; rw [upd_same]; intro z; exact hn ps (Option.some.inj z)
      · rw [upd_ne e]; exact S.dat a ps,
    fun a u h => by
      by_cases e : a = p
      · subst e; rw [upd_same] at h; cases h; exact hl
      · rw [upd_ne e] at h; exact S.lens a u h,
    fun a u h _ _ => by rw [upd_ne (ne_of_none h hp)]; exact h,
    fun a h => by
      by_cases e : a = p
      · subst e; exact absurd (nt_none hp) h
      · rw [nt_upd_ne e]; exact h,
    S.tabs.ext fun b u h => by rw [upd_ne (ne_of_none h hp)]; exact h,
    fun a h => by
      by_cases e : a = p
      · subst e; exact .inr (.inl (nt_none hp))
      · rw [upd_ne e] at h; exact .inl h⟩
/-- J yields ds, wherever R may be read -/
structure Yld (G : Gx) (J : It) (R : Hp) (ds : List D) : Prop where
  len : ds.length ≤ sizeLine
  go : ∀ (R1 H1 : Hp) (i : Nat) (d : D), Ext R R1 → Start G R1 H1 → ds[i]? = some d → J.go i H1 ∧ ∀ x H', J.yld i H1 x H' → ∃ R', After G none R1 H1 R' H' ∧ Dq G.K R' d x
  stop : ∀ (R1 H1 : Hp) (i : Nat), Ext R R1 → Start G R1 H1 → ds.length ≤ i → J.stop i H1
theorem Yld.mono {G : Gx} {J : It} {R R' : Hp} {ds : List D} (y : Yld G J R ds) (e : Ext R R') : Yld G J R' ds := ⟨y.len, fun R1 H1 i d x => y.go R1 H1 i d (e.trans x), fun R1 H1 i x => y.stop R1 H1 i (e.trans x)⟩
def II (G : Gx) (Φ : Fx) (wi : TI) (mi : MA) : Prop := ∀ (R : Hp) (ρ : PE0) (σ : L2.St) (H : Hp) (ds : List D) (ρ' : PE0), SR G Φ R ρ σ H → mi ρ = .ok ds ρ' →
  ∀ Q : It → Hp → Prop, (∀ (J : It) (R' H' : Hp), SR G Φ R' ρ' σ H' → Ext R R' → Yld G J R' ds → Q J H') → wi σ H Q
abbrev MG := D → PE0 → Option PE0
def IG (G : Gx) (Φ : Fx) (g : TG) (mg : MG) (vs : List Nat) : Prop := ∀ (R : Hp) (ρ : PE0) (σ : L2.St) (H : Hp) (v : V) (d : D) (ρ' : PE0), SR G Φ R ρ σ H → Dq G.K R d v → mg d ρ = some ρ' →
  ∀ Q : L2.St → Hp → Prop, (∀ σ' : L2.St, SR G Φ R ρ' σ' H → L2.wipe σ' vs = L2.wipe σ vs → Q σ' H) → g v σ H Q
def IGs (G : Gx) (Φ : Fx) (g : TGs) (mg : List D → PE0 → Option PE0) (vs : List Nat) : Prop := ∀ (R : Hp) (ρ : PE0) (σ : L2.St) (H : Hp) (xs : List V) (ds : List D) (ρ' : PE0), SR G Φ R ρ σ H → DqA G.K R ds xs → mg ds ρ = some ρ' →
  ∀ Q : L2.St → Hp → Prop, (∀ σ' : L2.St, SR G Φ R ρ' σ' H → L2.wipe σ' vs = L2.wipe σ vs → Q σ' H) → g xs σ H Q
theorem wipe_at_in {σ : L2.St} {i : Nat} : ∀ {vs : List Nat}, i ∈ vs → i < σ.length → (L2.wipe σ vs)[i]? = some none
  | [], h, _ => by cases h
  | v :: vs, h, l => by
    rw [wipe_cons]
    by_cases e : v = i
    · subst e
      exact List.getElem?_set_self (by rw [wipe_length]; exact l)
    · rw [List.getElem?_set_ne e]
      exact wipe_at_in ((List.mem_cons.mp h).elim (fun z => absurd z.symm e) id) l
theorem wipe_set {σ : L2.St} {i : Nat} {x : Option V} {vs : List Nat} (h : i ∈ vs) : L2.wipe (σ.set i x) vs = L2.wipe σ vs := by
  apply List.ext_getElem?
  intro j
  by_cases hj : j ∈ vs
  · by_cases l : j < σ.length
    · rw [wipe_at_in hj l, wipe_at_in hj (by rw [List.length_set]; exact l)]
    · rw [List.getElem?_eq_none (by rw [wipe_length, List.length_set]; omega), List.getElem?_eq_none (by rw [wipe_length]; omega)]
  · rw [wipe_at hj, wipe_at hj, List.getElem?_set_ne (fun e => hj (by rw [← e]; exact h))]
section
variable {ι : Type} {𝒳 : ι → Cx} {G : Gx} {k : Nat}
def CI (𝒳 : ι → Cx) (G : Gx) (tg iter : Expr) (mi : MA) : Prop := ∃ t, (∀ i, PI (𝒳 i) tg iter t) ∧ ∀ Φ, II G Φ t mi
def CG (𝒳 : ι → Cx) (G : Gx) (tg : Expr) (mg : MG) (vs : List Nat) : Prop := ∃ t, (∀ i, PG (𝒳 i) tg t) ∧ ∀ Φ, IG G Φ t mg vs
def CGs (𝒳 : ι → Cx) (G : Gx) (tgs : List Expr) (mg : List D → PE0 → Option PE0) (vs : List Nat) : Prop := ∃ t, (∀ i, PGs (𝒳 i) tgs t) ∧ ∀ Φ, IGs G Φ t mg vs

/-! ### targets -/
def gSet (i : Nat) : MG := fun d ρ => if i < ρ.length then some (ρ.set i (.v d)) else none
theorem gNm (i : Nat) {x : Str} {pos : Pos} {vs : List Nat} (fm : Fm G k 𝒳) (hi : i ∈ vs := by decide) (hN : ∀ j, (𝒳 j).N[i]? = some x := by intro _; rfl) (hx : ∀ j, Loc (𝒳 j).env.scope x := by first | exact fun _ => Or.inl rfl | exact fun _ => Or.inr rfl)
    (hf : ∀ j, (𝒳 j).fn x = true ∨ (𝒳 j).env.scope.names.lookup x = some .local := by first | exact fun _ => .inl rfl | exact fun _ => .inr rfl) : CG 𝒳 G (.Name x pos) (gSet i) vs := by
  refine ⟨gName i, fun j => pg_name (fm.nod j) (hN j) (hx j) (hf j), fun Φ R ρ σ H v d ρ' S q e Q hq => ?_⟩
  unfold gSet at e
  split at e <;> cases e
  rename_i h
  exact hq _ (S.store h q) (wipe_set hi)
def gsNil : List D → PE0 → Option PE0
  | [], ρ => some ρ
  | _ :: _, _ => none
def gsCons (m : MG) (r : List D → PE0 → Option PE0) : List D → PE0 → Option PE0
  | d :: ds, ρ => (m d ρ).bind (r ds)
  | [], _ => none
theorem gsN {vs : List Nat} : CGs 𝒳 G [] gsNil vs := by
  refine ⟨gNil, fun _ => pgs_nil, fun Φ R ρ σ H xs ds ρ' S q e Q hq => ?_⟩
  cases ds with
  | nil => cases e; exact ⟨dqa_nil.mp q, hq σ S rfl⟩
  | cons d ds => cases e
theorem gsC {e : Expr} {es : List Expr} {m : MG} {r : List D → PE0 → Option PE0} {vs : List Nat} (h : CG 𝒳 G e m vs) (hr : CGs 𝒳 G es r vs) (hs : ∀ j, (assignEach (e :: es) (𝒳 j).env).map (·.2) = assign e (𝒳 j).env :: (assignEach es (𝒳 j).env).map (·.2) := by intro _; rfl) : CGs 𝒳 G (e :: es) (gsCons m r) vs := by
  obtain ⟨t, hp, hi⟩ := h
  obtain ⟨u, hpr, hir⟩ := hr
  refine ⟨gCons t u, fun j => pgs_cons (hp j) (hpr j) (hs j), fun Φ R ρ σ H xs ds ρ' S q e Q hq => ?_⟩
  cases ds with
  | nil => cases e
  | cons d ds =>
    obtain ⟨x, xr, rfl, q1, q2⟩ := dqa_cons.mp q
    obtain ⟨ρ1, e1, e2⟩ := Option.bind_eq_some_iff.mp e
    exact ⟨x, xr, rfl, hi Φ R ρ σ H x d ρ1 S q1 e1 _ fun σ1 S1 w1 => hir Φ R ρ1 σ1 H xr ds ρ' S1 q2 e2 _ fun σ2 S2 w2 => hq σ2 S2 (w2.trans w1)⟩
def gTupM (n : Nat) (r : List D → PE0 → Option PE0) : MG := fun d ρ => match d with
  | .tuple ds => if ds.length = n then r ds ρ else none
  | _ => none
theorem gTp {es : List Expr} {kk n : Nat} {pos : Pos} {r : List D → PE0 → Option PE0} {vs : List Nat} (fm : Fm G k 𝒳) (h : CGs 𝒳 G es r vs) (hn : ∀ j, (assignEach es (𝒳 j).env).length = n := by intro _; rfl) (hst : ∀ j, (assignEach es (𝒳 j).env).findIdx? (·.1) = none := by intro _; rfl) : CG 𝒳 G (.Tuple es kk pos) (gTupM n r) vs := by
  obtain ⟨t, hp, hi⟩ := h
  refine ⟨gTup G.K n t, fun j => Eq.mp (congrArg (fun K => PG (𝒳 j) (.Tuple es kk pos) (gTup K n t)) (fm.K j)) (pg_tup (fm.calm j) (hp j) (hn j) (hst j)), fun Φ R ρ σ H v d ρ' S q e Q hq => ?_⟩
  unfold gTupM at e
  split at e
  · rename_i ds
    split at e
    · rename_i hl
      obtain ⟨a, xs, rfl, h1, h2⟩ := dq_tuple.mp q
      exact ⟨a, xs, rfl, .inl (.inl (S.sub _ _ h1)), by rw [← h2.length]; exact hl, hi Φ R ρ σ H xs ds ρ' S h2 e Q hq⟩
    · cases e
  · cases e

/-! ### what is walked -/
def seqI (K : PySem.W.Frag) (t : TE) : TI := fun σ H R => t σ H fun x H1 => ∃ a, x = .ref a ∧ ((∃ xs, SqL K H1 a xs ∧ R (Itl K a) H1) ∨ (∃ xs, SqT K H1 a xs ∧ R (Itt K a) H1))
theorem pi_seq {X : Cx} {tg l : Expr} {t : TE} (hl : PE X l t) : PI X tg l (seqI X.K t) := by
  refine ⟨fun pins s σ H R inv hw => thn (hl.run pins s σ H _ inv hw) ?_⟩
  rintro v s1 ⟨x, H1, inv1, rx, a, rfl, hd⟩
  cases rx
  have at_ : ∀ b ∈ [s1.heap.objs.size], FpOk X pins H1 b := fun b hb => by
    rw [List.mem_singleton] at hb
    rw [hb]
    exact inv1.fpOk (Nat.le_refl _) (inv1.hok.fresh (Nat.le_refl _))
  rcases hd with ⟨xs, hx, hR⟩ | ⟨xs, hx, hR⟩
  · obtain ⟨its, _, pl, _⟩ := inv1.list hx
    exact wpAny_pyIter_list pl.isList ⟨_, [s1.heap.objs.size], _, _, H1, rfl, inv1.kept (t' := s1.toks) fun _ _ z => Heap.get?_push_of_some _ z, turn_list a _, ⟨_, Heap.get?_push_size _ rfl, rfl, rfl⟩, at_, hR⟩
  · obtain ⟨its, _, pl, _⟩ := inv1.tuple hx
    exact wpAny_pyIter_tuple (show s1.heap.IsTuple a its.toArray from pl) ⟨_, [s1.heap.objs.size], _, _, H1, rfl, inv1.kept (t' := s1.toks) fun _ _ z => Heap.get?_push_of_some _ z, turn_tuple a _, ⟨_, Heap.get?_push_size _ rfl, rfl, rfl⟩, at_, hR⟩
theorem yld_list {R : Hp} {a : Addr} {xs : List V} {ds : List D} (hR : R a = some (.lst xs)) (q : DqA G.K R ds xs) (hz : xs.length ≤ sizeLine) : Yld G (Itl G.K a) R ds := by
  refine ⟨by rw [q.length]; exact hz, fun R1 H1 i d e S hd => ?_, fun R1 H1 i e S hd => ⟨xs, .inl (.inl (S.sub _ _ (e _ _ hR))), by rw [← q.length]; exact hd⟩⟩
  obtain ⟨x, hx, qx⟩ := q.get hd
  have hl : SqL G.K H1 a xs := .inl (.inl (S.sub _ _ (e _ _ hR)))
  refine ⟨⟨xs, x, hl, hx⟩, fun y H' hy => ?_⟩
  obtain ⟨rfl, hy⟩ := hy
  have := hy xs hl
  rw [hx] at this
  cases this
  exact ⟨R1, S.after none, qx.mono e⟩
theorem yld_tup {R : Hp} {a : Addr} {xs : List V} {ds : List D} (hR : R a = some (.tup xs)) (q : DqA G.K R ds xs) (hz : xs.length ≤ sizeLine) : Yld G (Itt G.K a) R ds := by
  refine ⟨by rw [q.length]; exact hz, fun R1 H1 i d e S hd => ?_, fun R1 H1 i e S hd => ⟨xs, .inl (.inl (S.sub _ _ (e _ _ hR))), by rw [← q.length]; exact hd⟩⟩
  obtain ⟨x, hx, qx⟩ := q.get hd
  have hl : SqT G.K H1 a xs := .inl (.inl (S.sub _ _ (e _ _ hR)))
  refine ⟨⟨xs, x, hl, hx⟩, fun y H' hy => ?_⟩
  obtain ⟨rfl, hy⟩ := hy
  have := hy xs hl
  rw [hx] at this
  cases this
  exact ⟨R1, S.after none, qx.mono e⟩
def itemsD : D → Option (List D)
  | .list ds => some ds
  | .tuple ds => some ds
  | _ => none
def mItems (m : ME) : MA := fun ρ => (m ρ).bind fun d ρ1 => Re.opt (itemsD d) ρ1
theorem iSeqC {tg l : Expr} {m : ME} (fm : Fm G k 𝒳) (h : CE 𝒳 G l m) : CI 𝒳 G tg l (mItems m) := by
  obtain ⟨t, hp, hi⟩ := h
  refine ⟨seqI G.K t, fun i => Eq.mp (congrArg (fun K => PI (𝒳 i) tg l (seqI K t)) (fm.K i)) (pi_seq (hp i)), fun Φ R ρ σ H ds ρ' S e Q q => ?_⟩
  obtain ⟨d, ρ1, e1, e⟩ := Re.of_bind e
  obtain ⟨e2, rfl⟩ := Re.of_opt e
  refine hi Φ R ρ σ H d _ S e1 _ fun x R1 H1 S1 x1 qx => ?_
  cases d with
  | list ds0 =>
    cases e2
    obtain ⟨a, xs, rfl, h1, h2⟩ := dq_list.mp qx
    exact ⟨a, rfl, .inl ⟨xs, .inl (.inl (S1.sub _ _ h1)), q _ R1 H1 S1 x1 (yld_list h1 h2 (S1.lens _ _ h1))⟩⟩
  | tuple ds0 =>
    cases e2
    obtain ⟨a, xs, rfl, h1, h2⟩ := dq_tuple.mp qx
    exact ⟨a, rfl, .inr ⟨xs, .inl (.inl (S1.sub _ _ h1)), q _ R1 H1 S1 x1 (yld_tup h1 h2 (S1.lens _ _ h1))⟩⟩
  | _ => cases e2
/-- lo, lo + 1, .. -/
def rngD (lo : Int) (n : Nat) : List D := (List.range n).map fun i : Nat => .int (lo + i)
theorem yld_rng {R : Hp} {lo : Int} {n : Nat} (h : n ≤ 2000000) : Yld G (Itr lo n) R (rngD lo n) := by
  have hl : (rngD lo n).length = n := by unfold rngD; rw [List.length_map, List.length_range]
  refine ⟨by rw [hl]; unfold sizeLine; omega, fun R1 H1 i d e S hd => ?_, fun R1 H1 i e S hd => by rw [hl] at hd; exact hd⟩
  have hi : i < n := by
    have := (List.getElem?_eq_some_iff.mp hd).1
    rw [hl] at this; exact this
  refine ⟨hi, fun x H' hy => ?_⟩
  obtain ⟨rfl, rfl⟩ := hy
  refine ⟨R1, S.after none, ?_⟩
  unfold rngD at hd
  rw [List.getElem?_map, List.getElem?_range hi] at hd
  cases hd
  exact dq_int.mpr rfl
def smallI (i : Int) : Bool := decide (-1000000 ≤ i) && decide (i ≤ 1000000)
theorem smallI_iff {i : Int} (h : smallI i = true) : -1000000 ≤ i ∧ i ≤ 1000000 := by
  unfold smallI at h
  rw [Bool.and_eq_true, decide_eq_true_eq, decide_eq_true_eq] at h
  exact h
def rng1 : List D → Option (List D)
  | [.int j] => if smallI j then some (rngD 0 j.toNat) else none
  | _ => none
def rng2 : List D → Option (List D)
  | [.int i, .int j] => if smallI i && smallI j then some (rngD i (j - i).toNat) else none
  | _ => none
def mRng (f : List D → Option (List D)) (ma : MA) : MA := fun ρ => (ma ρ).bind fun ds ρ1 => Re.opt (f ds) ρ1
theorem iRange1 {tg a : Expr} {m : ME} {p pos : Pos} (fm : Fm G k 𝒳) (hm : G.mg "range" = none) (h : CE 𝒳 G a m) (hg : ∀ i, Gl (𝒳 i) "range" := by intro _; rfl) (hs : ∀ i, starEach [a] (𝒳 i).env = [(false, eval a (𝒳 i).env)] := by intro _; rfl) : CI 𝒳 G tg (.Call (.Name "range" p) [a] [] pos) (mRng rng1 (mCons m mNil)) := by
  obtain ⟨t, hp, hi, _⟩ := aCons h aNil hs
  refine ⟨iRng1 t, fun i => pi_range1 (hg i) (by rw [fm.mg i]; exact hm) (hp i) (hs i), fun Φ R ρ σ H ds ρ' S e Q q => ?_⟩
  obtain ⟨as, ρ1, e1, e⟩ := Re.of_bind e
  obtain ⟨e2, rfl⟩ := Re.of_opt e
  refine hi Φ R ρ σ H as _ S e1 _ fun vs R1 H1 S1 x1 qx => ?_
  unfold rng1 at e2
  split at e2
  · rename_i j
    split at e2 <;> cases e2
    have hj : smallI j = true := by assumption
    have hb := smallI_iff hj
    obtain ⟨x, rfl, z1⟩ := dqa1 qx
    cases dq_int.mp z1
    exact ⟨j, rfl, by omega, by omega, q _ R1 H1 S1 x1 (yld_rng (by omega))⟩
  · cases e2
theorem iRange2 {tg a b : Expr} {ma mb : ME} {p pos : Pos} (fm : Fm G k 𝒳) (hm : G.mg "range" = none) (ha : CE 𝒳 G a ma) (hb : CE 𝒳 G b mb) (hg : ∀ i, Gl (𝒳 i) "range" := by intro _; rfl) (hs : ∀ i, starEach [a, b] (𝒳 i).env = [(false, eval a (𝒳 i).env), (false, eval b (𝒳 i).env)] := by intro _; rfl) (hs2 : ∀ i, starEach [b] (𝒳 i).env = [(false, eval b (𝒳 i).env)] := by intro _; rfl) :
    CI 𝒳 G tg (.Call (.Name "range" p) [a, b] [] pos) (mRng rng2 (mCons ma (mCons mb mNil))) := by
  obtain ⟨t, hp, hi, _⟩ := aCons ha (aCons hb aNil (fun i => hs2 i)) (fun i => by rw [hs i, hs2 i])
  refine ⟨iRng2 t, fun i => pi_range2 (hg i) (by rw [fm.mg i]; exact hm) (hp i) (hs i) (hs2 i), fun Φ R ρ σ H ds ρ' S e Q q => ?_⟩
  obtain ⟨as, ρ1, e1, e⟩ := Re.of_bind e
  obtain ⟨e2, rfl⟩ := Re.of_opt e
  refine hi Φ R ρ σ H as _ S e1 _ fun vs R1 H1 S1 x1 qx => ?_
  unfold rng2 at e2
  split at e2
  · rename_i i j
    split at e2 <;> cases e2
    have hj : (smallI i && smallI j) = true := by assumption
    rw [Bool.and_eq_true] at hj
    have h1 := smallI_iff hj.1
    have h2 := smallI_iff hj.2
    obtain ⟨x, y, rfl, z1, z2⟩ := dqa2 qx
    cases dq_int.mp z1
    cases dq_int.mp z2
    exact ⟨i, j, rfl, ⟨by omega, by omega, by omega, by omega⟩, q _ R1 H1 S1 x1 (yld_rng (by omega))⟩
  · cases e2
/-- pairs of two lists, of two tuples -/
def zipD : List D → Option (List D)
  | [.list xs, .list ys] => some ((xs.zip ys).map fun p => .tuple [p.1, p.2])
  | [.tuple xs, .tuple ys] => some ((xs.zip ys).map fun p => .tuple [p.1, p.2])
  | _ => none
theorem pair_at {xs ys : List D} {i : Nat} {d : D} (h : ((xs.zip ys).map fun p => PyData.tuple [p.1, p.2])[i]? = some d) : ∃ x y, xs[i]? = some x ∧ ys[i]? = some y ∧ d = .tuple [x, y] := by
  rw [List.getElem?_map] at h
  cases q : (xs.zip ys)[i]? with
  | none => rw [q] at h; cases h
  | some p =>
    rw [q] at h
    cases h
    obtain ⟨h1, h2⟩ := List.getElem?_zip_eq_some.mp q
    exact ⟨_, _, h1, h2, rfl⟩
theorem iZipC {e e2 : Expr} {ma mb : ME} {p pos tpos : Pos} {elts : List Expr} {kk : Nat} (fm : Fm G k 𝒳) (hm : G.mg "zip" = none) (ha : CE 𝒳 G e ma) (hb : CE 𝒳 G e2 mb) (hg : ∀ i, Gl (𝒳 i) "zip" := by intro _; rfl)
    (hs : ∀ i, starEach [e, e2] (𝒳 i).env = (false, eval e (𝒳 i).env) :: starEach [e2] (𝒳 i).env := by intro _; rfl) (hs2 : ∀ i, starEach [e2] (𝒳 i).env = (false, eval e2 (𝒳 i).env) :: starEach [] (𝒳 i).env := by intro _; rfl) (hpl : ∀ i, (backTo pos (starEach [e2] (𝒳 i).env)).any (·.1) = false := by intro _; rfl) :
    CI 𝒳 G (.Tuple elts kk tpos) (.Call (.Name "zip" p) [e, e2] [] pos) (mRng zipD (mCons ma (mCons mb mNil))) := by
  obtain ⟨t, hp, hi, _⟩ := aCons ha (aCons hb aNil hs2) hs
  refine ⟨RZ.iZipA G.K t, fun i => Eq.mp (congrArg (fun K => PI (𝒳 i) (.Tuple elts kk tpos) (.Call (.Name "zip" p) [e, e2] [] pos) (RZ.iZipA K t)) (fm.K i)) (RZ.pi_zipA (hg i) (by rw [fm.mg i]; exact hm) (hp i) (hs i) (hpl i)), fun Φ R ρ σ H ds ρ' S e Q q => ?_⟩
  obtain ⟨as, ρ1, e1, e⟩ := Re.of_bind e
  obtain ⟨e2, rfl⟩ := Re.of_opt e
  refine hi Φ R ρ σ H as _ S e1 _ fun vs R1 H1 S1 x1 qx => ?_
  have two : 2 ≤ sizeLine := by decide
  unfold zipD at e2
  split at e2
  · rename_i us ws
    cases e2
    obtain ⟨x, y, rfl, w1, w2⟩ := dqa2 qx
    obtain ⟨a, xs, rfl, h1, h2⟩ := dq_list.mp w1
    obtain ⟨b, ys, rfl, h3, h4⟩ := dq_list.mp w2
    have z1 : ∀ {R' H'}, Ext R1 R' → Start G R' H' → SqL G.K H' a xs := fun e s => .inl (.inl (s.sub _ _ (e _ _ h1)))
    have z2 : ∀ {R' H'}, Ext R1 R' → Start G R' H' → SqL G.K H' b ys := fun e s => .inl (.inl (s.sub _ _ (e _ _ h3)))
    refine ⟨a, b, xs, ys, rfl, .inl ⟨z1 (Ext.refl _) S1.start, z2 (Ext.refl _) S1.start, q _ R1 H1 S1 x1 ⟨?_, fun R2 H2 i d e s hd => ?_, fun R2 H2 i e s hd => ⟨xs, ys, z1 e s, z2 e s, ?_⟩⟩⟩⟩
    · rw [List.length_map, List.length_zip, h2.length]
      have := S1.lens _ _ h1
      have : xs.length ≤ sizeLine := this
      omega
    · obtain ⟨du, dw, hu, hw, rfl⟩ := pair_at hd
      obtain ⟨u, hu, qu⟩ := h2.get hu
      obtain ⟨w, hw, qw⟩ := h4.get hw
      refine ⟨⟨xs, ys, u, w, z1 e s, z2 e s, hu, hw⟩, fun v H' hy => ?_⟩
      obtain ⟨T, u', w', rfl, hT, rfl, f1, f2⟩ := hy
      have f1 := f1 xs (z1 e s)
      have f2 := f2 ys (z2 e s)
      rw [hu] at f1
      rw [hw] at f2
      cases f1
      cases f2
      refine ⟨_, s.laid hT (plain_tup _).1 two, dq_tuple.mpr ⟨T, _, rfl, upd_same, ?_⟩⟩
      have x2 : Ext R1 (upd R2 T (.tup [u, w])) := e.trans (ext_upd (s.sub.none hT))
      exact dqa_cons.mpr ⟨_, _, rfl, qu.mono x2, dqa_one (qw.mono x2)⟩
    · rw [List.length_map, List.length_zip, h2.length, h4.length] at hd
      omega
  · rename_i us ws
    cases e2
    obtain ⟨x, y, rfl, w1, w2⟩ := dqa2 qx
    obtain ⟨a, xs, rfl, h1, h2⟩ := dq_tuple.mp w1
    obtain ⟨b, ys, rfl, h3, h4⟩ := dq_tuple.mp w2
    have z1 : ∀ {R' H'}, Ext R1 R' → Start G R' H' → SqT G.K H' a xs := fun e s => .inl (.inl (s.sub _ _ (e _ _ h1)))
    have z2 : ∀ {R' H'}, Ext R1 R' → Start G R' H' → SqT G.K H' b ys := fun e s => .inl (.inl (s.sub _ _ (e _ _ h3)))
    refine ⟨a, b, xs, ys, rfl, .inr ⟨z1 (Ext.refl _) S1.start, z2 (Ext.refl _) S1.start, q _ R1 H1 S1 x1 ⟨?_, fun R2 H2 i d e s hd => ?_, fun R2 H2 i e s hd => ⟨xs, ys, z1 e s, z2 e s, ?_⟩⟩⟩⟩
    · rw [List.length_map, List.length_zip, h2.length]
      have := S1.lens _ _ h1
      have : xs.length ≤ sizeLine := this
      omega
    · obtain ⟨du, dw, hu, hw, rfl⟩ := pair_at hd
      obtain ⟨u, hu, qu⟩ := h2.get hu
      obtain ⟨w, hw, qw⟩ := h4.get hw
      refine ⟨⟨xs, ys, u, w, z1 e s, z2 e s, hu, hw⟩, fun v H' hy => ?_⟩
      obtain ⟨T, u', w', rfl, hT, rfl, f1, f2⟩ := hy
      have f1 := f1 xs (z1 e s)
      have f2 := f2 ys (z2 e s)
      rw [hu] at f1
      rw [hw] at f2
      cases f1
      cases f2
      refine ⟨_, s.laid hT (plain_tup _).1 two, dq_tuple.mpr ⟨T, _, rfl, upd_same, ?_⟩⟩
      have x2 : Ext R1 (upd R2 T (.tup [u, w])) := e.trans (ext_upd (s.sub.none hT))
      exact dqa_cons.mpr ⟨_, _, rfl, qu.mono x2, dqa_one (qw.mono x2)⟩
    · rw [List.length_map, List.length_zip, h2.length, h4.length] at hd
      omega
  · cases e2
end
end Pm

/-! Pm8: list comprehensions. -/
namespace Pm
open PySem PySem.Spec PyProof.Rows L2
section
variable {G : Gx} {Φ : Fx} {R H : Hp} {ρ : PE0} {σ : L2.St} {p : Addr}
/-- what is ours alone is written -/
theorem SR.mineSet {o u : HO} (S : SR G Φ R ρ σ H) (M : Mine Φ R ρ σ p) (ho : H p = some o) (hp : Plain o) (hu : Plain u) : SR G Φ R ρ σ (upd H p u) := by
  refine ⟨S.sub.put M.nr, S.dat, S.lens, fun c v h d n => ?_, fun c h => ?_, tabs_write S.tabs ho hp.1 hp.2, S.old, S.r0, S.r00, S.len, fun j s e => ?_, S.dis, S.one⟩
  · rw [upd_ne (ne_of_none h M.nh)]; exact S.kept c v h d n
  · by_cases e : c = p
    · subst e; exact nt_ne upd_same hu.1
    · rw [nt_upd_ne e]; exact S.there c h
  · have z := S.sl j s e
    cases s with
    | un => trivial
    | v d => exact z
    | raw x => exact z
    | fn n => exact z
    | scr ns => exact z
    | own w2 =>
      obtain ⟨b, f1, f2, f3, f4⟩ := z
      have ne : b ≠ p := fun q => M.ns j w2 e (by rw [f1, q])
      exact ⟨b, f1, f2, f3, f4.mono (Ext.refl R) (upd_ne ne)⟩
    | dice ds =>
      obtain ⟨b, xs, f1, f2, f3, f4, f5⟩ := z
      have ne : b ≠ p := fun q => by
        have := (S.r0 b f2).2
        rw [q] at this
        exact this M.nh
      exact ⟨b, xs, f1, f2, f3, by rw [upd_ne ne]; exact f4, f5⟩
theorem Mine.wipe {vs : List Nat} (M : Mine Φ R ρ σ p) : Mine Φ R (wipeP vs ρ) (L2.wipe σ vs) p := by
  refine ⟨M.nr, M.nh, ?_⟩
  induction vs with
  | nil => exact M.ns
  | cons v vs ih =>
    intro i w h
    have h : ((wipeP vs ρ).set v .un)[i]? = some (.own w) := h
    rw [wipe_cons]
    by_cases e : v = i
    · subst e
      by_cases l : v < (wipeP vs ρ).length
      · rw [List.getElem?_set_self l] at h; cases h
      · rw [List.getElem?_eq_none (by rw [List.length_set]; omega)] at h; cases h
    · rw [List.getElem?_set_ne e] at h
      rw [List.getElem?_set_ne e]
      exact ih i w h
theorem Mine.back {ρ0 : PE0} {vs : List Nat} (hp : plainAt vs ρ0 = true) (hl : ρ.length = ρ0.length) (M : Mine Φ R ρ (L2.wipe σ vs) p) : Mine Φ R (backP vs ρ0 ρ) σ p := by
  refine ⟨M.nr, M.nh, fun i w h => ?_⟩
  by_cases hi : i ∈ vs
  · have hlt : i < ρ.length := by
      have := (List.getElem?_eq_some_iff.mp h).1
      rw [backP_length] at this
      exact this
    have e0 : ρ0[i]? = some ρ0[i] := List.getElem?_eq_getElem (by omega)
    rw [backP_in hi e0 hlt] at h
    have h := Option.some.inj h
    have := List.all_eq_true.mp hp i hi
    rw [e0] at this
    have this : Sl.plain ρ0[i] = true := this
    rw [h] at this
    cases this
  · rw [backP_out hi] at h
    have := M.ns i w h
    rw [wipe_at hi] at this
    exact this
theorem wipe_wipe {vs : List Nat} : L2.wipe (L2.wipe σ vs) vs = L2.wipe σ vs := by
  apply List.ext_getElem?
  intro j
  by_cases hj : j ∈ vs
  · by_cases l : j < σ.length
    · rw [wipe_at_in hj (by rw [wipe_length]; exact l), wipe_at_in hj l]
    · rw [List.getElem?_eq_none (by rw [wipe_length, wipe_length]; omega), List.getElem?_eq_none (by rw [wipe_length]; omega)]
  · rw [wipe_at hj]
end
section
variable {ι : Type} {𝒳 : ι → Cx} {G : Gx} {k : Nat}
/-! ### the contexts of a comprehension's block -/
structure BlkIx where
  s : Shared
  H : Hp
  C : Addr
  cl : List (Str × Addr)
  fp : List Addr
def blkF (𝒳 : ι → Cx) (scope : Scope) : ι × BlkIx → Cx := fun q => (𝒳 q.1).blk q.2.s q.2.H scope (compEnvC scope q.2.cl q.2.C (𝒳 q.1).env) q.2.fp
theorem Fm.blk (fm : Fm G k 𝒳) (scope : Scope) : Fm G k (blkF 𝒳 scope) := ⟨fun q => fm.prog q.1, fun q => fm.w q.1, fun q => fm.K q.1, fun q => fm.mg q.1, fun q => fm.base q.1, fun q => fm.room q.1, fun q => fm.calm q.1, fun q => fm.nod q.1⟩
def CTs (𝒳 : ι → Cx) (G : Gx) (ifs : List Expr) (m : MT) : Prop := ∃ t, (∀ i, PTs (𝒳 i) ifs t) ∧ ∀ Φ, IT G Φ t m
def mYes : MT := fun ρ => .ok true ρ
theorem tsNil : CTs 𝒳 G [] mYes := ⟨tYes, fun _ => pts_nil, fun Φ R ρ σ H b ρ' S e Q q => by cases e; exact q R H S (Ext.refl R)⟩
theorem tsOne {c : Expr} {m : MT} (h : CT 𝒳 G c m) : CTs 𝒳 G [c] m := by
  obtain ⟨t, hp, hi⟩ := h
  exact ⟨t, fun j => pts_one (hp j), hi⟩

def lcGo (vs : List Nat) (mg : MG) (mt : MT) (me : ME) : List D → PE0 → Re (List D)
  | [], ρ => .ok [] ρ
  | d :: ds, ρ => match mg d (wipeP vs ρ) with
    | none => .bad
    | some ρ1 => (mt ρ1).bind fun b ρ2 => if b = true then (me ρ2).bind fun y ρ3 => (lcGo vs mg mt me ds ρ3).bind fun ys ρ4 => .ok (y :: ys) ρ4 else lcGo vs mg mt me ds ρ2
def mLc (vs : List Nat) (mi : MA) (mg : MG) (mt : MT) (me : ME) : MO := fun ρ => (mi ρ).bind fun ds ρ1 => if plainAt vs ρ1 = true then (lcGo vs mg mt me ds ρ1).bind fun ys ρ2 => .ok (.l ys) (backP vs ρ1 (wipeP vs ρ2)) else .bad
theorem iLc {Φ : Fx} {wi : TI} {g : TG} {tt : TT} {te : TE} {vs : List Nat} {mi : MA} {mg : MG} {mt : MT} {me : ME} (hi : II G Φ wi mi) (hg : ∀ Φ, IG G Φ g mg vs) (ht : ∀ Φ, IT G Φ tt mt) (he : ∀ Φ, IE G Φ te me) : IO G Φ (tLc wi g tt te vs) (mLc vs mi mg mt me) := by
  intro R ρ σ H w ρ' S e Q q
  obtain ⟨ds, ρ1, e1, e⟩ := Re.of_bind e
  have hpl : plainAt vs ρ1 = true := by
    cases z : plainAt vs ρ1 with
    | true => rfl
    | false => rw [z, if_neg Bool.false_ne_true] at e; cases e
  rw [if_pos hpl] at e
  obtain ⟨ys, ρ2, e2, e⟩ := Re.of_bind e
  cases e
  refine hi R ρ σ H ds ρ1 S e1 _ fun J R1 H1 S1 x1 Y => ?_
  intro D hD
  let Lw : Nat → Hp → Prop := fun i H => ∃ R2 ρa acc ad rest, SR G Φ R2 (wipeP vs ρa) (L2.wipe σ vs) H ∧ Mine Φ R2 (wipeP vs ρa) (L2.wipe σ vs) D ∧ H D = some (.lst acc) ∧ DqA G.K R2 ad acc ∧ acc.length ≤ i ∧ Ext R1 R2 ∧ lcGo vs mg mt me (ds.drop i) ρa = .ok rest ρ2 ∧ ys = ad ++ rest
  refine ⟨fun i m H => i ≤ ds.length ∧ m = ds.length - i ∧ Lw i H, ⟨ds.length, Nat.zero_le _, rfl, R1, ρ1, [], [], ys, (S1.made hD).wipe vs, (S1.mine hD).wipe, upd_same, dqa_nil.mpr rfl, Nat.le_refl _, Ext.refl R1, e2, rfl⟩, ?_⟩
  rintro i m H2 ⟨hle, rfl, R2, ρa, acc, ad, rest, S2, M2, hD2, qa, hal, x2, ego, eys⟩
  by_cases hlt : i < ds.length
  · right
    have hd : ds[i]? = some ds[i] := List.getElem?_eq_getElem hlt
    obtain ⟨go, yl⟩ := Y.go R2 H2 i _ x2 S2.start hd
    refine ⟨go, Lw (i + 1), fun H' h => ⟨ds.length - (i + 1), by omega, hlt, rfl, h⟩, fun x H3 hy => ?_⟩
    obtain ⟨R3, A3, qx⟩ := yl x H3 hy
    have hpl2 := plain_lst acc
    have S3 := S2.after A3
    have hD3 : H3 D = some (.lst acc) := A3.kept D _ hD2 (by simp) hpl2.1
    have M3 := M2.after A3 (nt_ne hD2 hpl2.1) (fun _ z => by rw [hD3] at z; cases z)
    have Sg := S3.guard M3 hD3 hpl2.1
    rw [List.drop_eq_getElem_cons hlt] at ego
    unfold lcGo at ego
    cases egt : mg ds[i] (wipeP vs ρa) with
    | none => rw [egt] at ego; cases ego
    | some ρb =>
      rw [egt] at ego
      obtain ⟨b, ρc, e3, ego⟩ := Re.of_bind ego
      refine hg _ R3 _ _ H3 x _ ρb Sg qx egt _ fun σ4 S4 w4 => ⟨w4.trans wipe_wipe, ?_⟩
      have w4 := w4.trans wipe_wipe
      refine ht _ R3 ρb σ4 H3 b ρc S4 e3 _ fun R5 H5 S5 x5 => ?_
      cases b with
      | true =>
        rw [if_pos rfl] at ego
        obtain ⟨y, ρd, e4, ego⟩ := Re.of_bind ego
        obtain ⟨ys', ρe, e5, ego⟩ := Re.of_bind ego
        cases ego
        rw [if_pos rfl]
        refine he _ R5 ρc σ4 H5 y ρd S5 e4 _ fun v R6 H6 S6 x6 qv => ?_
        have S6' := S6.wiped w4
        obtain ⟨S7, M7, hD7⟩ := S6'.unguard' S3 M3 hpl2.1
        have hz : acc.length < sizeLine := Nat.lt_of_le_of_lt hal (Nat.lt_of_lt_of_le hlt Y.len)
        refine ⟨acc, hD7, hz, R6, ρd, acc ++ [v], ad ++ [y], ys', S7.mineSet M7 hD7 hpl2 (plain_lst _), M7, upd_same, ?_, by rw [List.length_append]; exact Nat.add_le_add_right hal 1, ((x2.trans A3.ext).trans x5).trans x6, e5, by rw [eys, List.append_assoc]; rfl⟩
        exact (((qa.mono A3.ext).mono x5).mono x6).append (dqa_one qv)
      | false =>
        rw [if_neg Bool.false_ne_true] at ego
        rw [if_neg Bool.false_ne_true]
        obtain ⟨S7, M7, hD7⟩ := (S5.wiped w4).unguard' S3 M3 hpl2.1
        exact ⟨R5, ρc, acc, ad, rest, S7, M7, hD7, (qa.mono A3.ext).mono x5, Nat.le_succ_of_le hal, (x2.trans A3.ext).trans x5, ego, eys⟩
  · left
    have hi : i = ds.length := by omega
    subst hi
    rw [List.drop_length] at ego
    cases ego
    rw [List.append_nil] at eys
    subst eys
    refine ⟨Y.stop R2 H2 _ x2 S2.start (Nat.le_refl _), ?_⟩
    have hl : (wipeP vs ρ2).length = ρ1.length := by rw [← S2.len, ← S1.len, wipe_length]
    exact q D R2 H2 (S1.back x2 hpl S2) (x1.trans x2) (M2.back hpl hl) ⟨acc, hD2, qa, Nat.le_trans hal Y.len⟩
/-- [elt for tg in iter if ..] -/
theorem oLc {elt tg iter : Expr} {ifs : List Expr} {scope : Scope} (own : List (Str × Nat)) {pos : Pos} {mi : MA} {mg : MG} {mt : MT} {me : ME} (fm : Fm G k 𝒳) (hi : CI 𝒳 G tg iter mi) (hg : CG (blkF 𝒳 scope) G tg mg (own.map (·.2))) (ht : CTs (blkF 𝒳 scope) G ifs mt) (he : CE (blkF 𝒳 scope) G elt me)
    (ok : ∀ j, BlkOk (𝒳 j).N (𝒳 j).env.scope scope own) (hs : ∀ j x, foldedSetIterable iter (𝒳 j).env x = pure x := by intro _ _; rfl) : CO 𝒳 G (.ListComp elt [⟨tg, iter, ifs, 0⟩] scope pos) (mLc (own.map (·.2)) mi mg mt me) := by
  obtain ⟨wi, pi, ii⟩ := hi
  obtain ⟨g, pg, ig⟩ := hg
  obtain ⟨tt, pt, it⟩ := ht
  obtain ⟨te, pe, ie⟩ := he
  exact ⟨_, fun j => pe_lc (fm.calm j) (fm.nod j) (pi j) (ok j) (fun s H C cl fp => pg (j, ⟨s, H, C, cl, fp⟩)) (fun s H C cl fp => pt (j, ⟨s, H, C, cl, fp⟩)) (fun s H C cl fp => pe (j, ⟨s, H, C, cl, fp⟩)) (hs j), fun Φ => iLc (ii Φ) ig it ie⟩
end
end Pm

/-! Pm9: statements. -/
namespace Pm
open PySem PySem.Spec PyProof.Rows L2
def EndOk (G : Gx) (Φ : Fx) (W : WX) (R : Hp) : Fl → Ends → Prop
  | .nx ρ', D => ∀ (σ' : L2.St) (R' H' : Hp), SR G Φ R' ρ' σ' H' → Ext R R' → D.nx σ' H'
  | .rt d ρ', D => ∀ (v : V) (σ' : L2.St) (R' H' : Hp), SR G Φ R' ρ' σ' H' → Ext R R' → Dq G.K R' d v → D.rt v H'
  | .rto w ρ', D => ∀ (p : Addr) (σ' : L2.St) (R' H' : Hp), SR G Φ R' ρ' σ' H' → Ext R R' → Mine Φ R' ρ' σ' p → OwnAt G.K R' H' p w → D.rt (.ref p) H'
  | .bk ρ', D => ∀ (σ' : L2.St) (R' H' : Hp), SR G Φ R' ρ' σ' H' → Ext R R' → D.bk σ' H'
  | .ct ρ', D => ∀ (σ' : L2.St) (R' H' : Hp), SR G Φ R' ρ' σ' H' → Ext R R' → D.ct σ' H'
  | .ex n ρ', D => ∀ (dx : Addr) (σ' : L2.St) (R' H' : Hp), SR G Φ R' ρ' σ' H' → Ext R R' → excAt H' dx n → W (.ref G.C) (some dx) σ' H'
  | .bad, _ => False
theorem EndOk.mono {G : Gx} {Φ : Fx} {W : WX} {R R1 : Hp} {fl : Fl} {D : Ends} (h : EndOk G Φ W R fl D) (e : Ext R R1) : EndOk G Φ W R1 fl D := by
  cases fl with
  | nx ρ => exact fun σ R' H' S x => h σ R' H' S (e.trans x)
  | rt d ρ => exact fun v σ R' H' S x => h v σ R' H' S (e.trans x)
  | rto w ρ => exact fun p σ R' H' S x => h p σ R' H' S (e.trans x)
  | bk ρ => exact fun σ R' H' S x => h σ R' H' S (e.trans x)
  | ct ρ => exact fun σ R' H' S x => h σ R' H' S (e.trans x)
  | ex n ρ => exact fun dx σ R' H' S x => h dx σ R' H' S (e.trans x)
  | bad => exact h
def IS (G : Gx) (Φ : Fx) (W : WX) (t : TS) (m : MS) : Prop := ∀ (R : Hp) (ρ : PE0) (σ : L2.St) (H : Hp), SR G Φ R ρ σ H → ∀ D : Ends, EndOk G Φ W R (m ρ) D → t D σ H
/-- what the contexts of a def's body share beyond -/
structure Fs {ι : Type} (𝒳 : ι → Cx) (W : WX) : Prop where
  tk : ∀ i, Takes (𝒳 i) W
  pass : ∀ i, PassesOwn (model (𝒳 i).prog (𝒳 i).w) (𝒳 i).A (𝒳 i).env (𝒳 i).xe
section
variable {ι : Type}
def CS (𝒳 : ι → Cx) (G : Gx) (W : WX) (s : Stmt) (m : MS) : Prop := ∃ t, (∀ i, PS (𝒳 i) s t) ∧ ∀ Φ, IS G Φ W t m
def CSs (𝒳 : ι → Cx) (G : Gx) (W : WX) (s : List Stmt) (m : MS) : Prop := ∃ t, (∀ i, PSs (𝒳 i) s t) ∧ ∀ Φ, IS G Φ W t m
end
section
variable {ι : Type} {𝒳 : ι → Cx} {G : Gx} {k : Nat} {W : WX}
def mNx : MS := fun ρ => .nx ρ
def mSq (a b : MS) : MS := fun ρ => match a ρ with
  | .nx ρ1 => b ρ1
  | fl => fl
theorem ssNil : CSs 𝒳 G W [] mNx := ⟨tNext, fun _ => pss_nil, fun Φ R ρ σ H S D h => h σ R H S (Ext.refl R)⟩
theorem ssOne {s : Stmt} {m : MS} (h : CS 𝒳 G W s m) : CSs 𝒳 G W [s] m := by
  obtain ⟨t, hp, hi⟩ := h
  exact ⟨t, fun i => pss_one (hp i), hi⟩
theorem ssCons {s : Stmt} {r : List Stmt} {a b : MS} (h : CS 𝒳 G W s a) (hr : CSs 𝒳 G W r b) : CSs 𝒳 G W (s :: r) (mSq a b) := by
  obtain ⟨t, hp, hi⟩ := h
  obtain ⟨u, hpr, hir⟩ := hr
  refine ⟨tSeq t u, fun i => pss_cons (hp i) (hpr i), fun Φ R ρ σ H S D h => ?_⟩
  refine hi Φ R ρ σ H S _ ?_
  unfold mSq at h
  cases e : a ρ with
  | nx ρ1 =>
    rw [e] at h
    exact fun σ' R' H' S' x => hir Φ R' ρ1 σ' H' S' D (h.mono x)
  | rt d ρ1 => rw [e] at h; exact h
  | rto d ρ1 => rw [e] at h; exact h
  | bk ρ1 => rw [e] at h; exact h
  | ct ρ1 => rw [e] at h; exact h
  | ex n ρ1 => rw [e] at h; exact h
  | bad => rw [e] at h; exact h
def Fl.of {α : Type} (r : Re α) (f : α → PE0 → Fl) : Fl := match r with
  | .ok a ρ => f a ρ
  | .bad => .bad
@[simp] theorem Fl.of_ok {α : Type} (a : α) (ρ : PE0) (f : α → PE0 → Fl) : Fl.of (.ok a ρ) f = f a ρ := rfl
@[simp] theorem Fl.of_bad {α : Type} (f : α → PE0 → Fl) : Fl.of (.bad : Re α) f = .bad := rfl
theorem EndOk.of {Φ : Fx} {R : Hp} {α : Type} {r : Re α} {f : α → PE0 → Fl} {D : Ends} (h : EndOk G Φ W R (Fl.of r f) D) : ∃ a ρ1, r = .ok a ρ1 ∧ EndOk G Φ W R (f a ρ1) D := by
  cases r with
  | ok a ρ1 => exact ⟨a, ρ1, rfl, h⟩
  | bad => exact False.elim h
theorem sBreak {pos : Pos} : CS 𝒳 G W (.Break pos) (fun ρ => .bk ρ) := ⟨tBreak, fun _ => ps_break, fun Φ R ρ σ H S D h => h σ R H S (Ext.refl R)⟩
theorem sCont {pos : Pos} : CS 𝒳 G W (.Continue pos) (fun ρ => .ct ρ) := ⟨tCont, fun _ => ps_continue, fun Φ R ρ σ H S D h => h σ R H S (Ext.refl R)⟩
theorem sPass {pos : Pos} : CS 𝒳 G W (.Pass pos) mNx := ⟨tNext, fun _ => ps_pass, fun Φ R ρ σ H S D h => h σ R H S (Ext.refl R)⟩
def mRet (m : ME) : MS := fun ρ => Fl.of (m ρ) fun d ρ1 => .rt d ρ1
theorem sRet {e : Expr} {m : ME} {pos : Pos} (h : CE 𝒳 G e m) : CS 𝒳 G W (.Return (some e) pos) (mRet m) := by
  obtain ⟨t, hp, hi⟩ := h
  refine ⟨_, fun i => ps_ret (hp i), fun Φ R ρ σ H S D h => ?_⟩
  obtain ⟨d, ρ1, e1, h⟩ := EndOk.of h
  exact hi Φ R ρ σ H d ρ1 S e1 _ fun v R' H' S' x q => h v σ R' H' S' x q
def mRetO (m : MO) : MS := fun ρ => Fl.of (m ρ) fun w ρ1 => .rto w ρ1
theorem sRetO {e : Expr} {m : MO} {pos : Pos} (h : CO 𝒳 G e m) : CS 𝒳 G W (.Return (some e) pos) (mRetO m) := by
  obtain ⟨t, hp, hi⟩ := h
  refine ⟨_, fun i => ps_ret (hp i), fun Φ R ρ σ H S D h => ?_⟩
  obtain ⟨d, ρ1, e1, h⟩ := EndOk.of h
  exact hi Φ R ρ σ H d ρ1 S e1 _ fun p R' H' S' x M o => h p σ R' H' S' x M o
def mDrop (m : ME) : MS := fun ρ => Fl.of (m ρ) fun _ ρ1 => .nx ρ1
theorem sDrop {e : Expr} {m : ME} {pos : Pos} (h : CE 𝒳 G e m) (hs : ∀ i, swapsWith e none pos.line (𝒳 i).env = pure false := by intro _; rfl) : CS 𝒳 G W (.Expr e pos) (mDrop m) := by
  obtain ⟨t, hp, hi⟩ := h
  refine ⟨_, fun i => ps_expr (hp i) (hs i), fun Φ R ρ σ H S D h => ?_⟩
  obtain ⟨d, ρ1, e1, h⟩ := EndOk.of h
  exact hi Φ R ρ σ H d ρ1 S e1 _ fun v R' H' S' x q => h σ R' H' S' x
def mIfS (mc : MT) (a b : MS) : MS := fun ρ => Fl.of (mc ρ) fun c ρ1 => if c = true then a ρ1 else b ρ1
theorem sIf {c : Expr} {a b : List Stmt} {mc : MT} {ma mb : MS} {pos : Pos} (hc : CT 𝒳 G c mc) (ha : CSs 𝒳 G W a ma) (hb : CSs 𝒳 G W b mb) : CS 𝒳 G W (.If c a b pos) (mIfS mc ma mb) := by
  obtain ⟨tc, pc, ic⟩ := hc
  obtain ⟨ta, pa, ia⟩ := ha
  obtain ⟨tb, pb, ib⟩ := hb
  refine ⟨_, fun i => ps_if (pc i) (pa i) (pb i), fun Φ R ρ σ H S D h => ?_⟩
  obtain ⟨d, ρ1, e1, h⟩ := EndOk.of h
  refine ic Φ R ρ σ H d ρ1 S e1 _ fun R' H' S' x => ?_
  cases d with
  | true => rw [if_pos rfl] at h ⊢; exact ia Φ R' ρ1 σ H' S' D (h.mono x)
  | false => rw [if_neg Bool.false_ne_true] at h ⊢; exact ib Φ R' ρ1 σ H' S' D (h.mono x)

/-! ### stores -/
def mSt (i : Nat) (m : ME) : MS := fun ρ => Fl.of (m ρ) fun d ρ1 => if i < ρ1.length then .nx (ρ1.set i (.v d)) else .bad
def mStO (i : Nat) (m : MO) : MS := fun ρ => Fl.of (m ρ) fun w ρ1 => if i < ρ1.length then .nx (ρ1.set i (.own w)) else .bad
theorem EndOk.ite {Φ : Fx} {R : Hp} {c : Prop} [Decidable c] {fl : Fl} {D : Ends} (h : EndOk G Φ W R (if c then fl else .bad) D) : c ∧ EndOk G Φ W R fl D := by
  by_cases z : c
  · rw [if_pos z] at h; exact ⟨z, h⟩
  · rw [if_neg z] at h; exact h.elim
theorem iSt {Φ : Fx} {i : Nat} {t : TE} {m : ME} (hi : IE G Φ t m) : IS G Φ W (tAsg t (gName i)) (mSt i m) := by
  intro R ρ σ H S D h
  obtain ⟨d, ρ1, e1, h⟩ := EndOk.of h
  obtain ⟨hl, h⟩ := h.ite
  exact hi R ρ σ H d ρ1 S e1 _ fun v R' H' S' x q => h _ R' H' (S'.store hl q) x
theorem iStO {Φ : Fx} {i : Nat} {t : TE} {m : MO} (hi : IO G Φ t m) : IS G Φ W (tAsg t (gName i)) (mStO i m) := by
  intro R ρ σ H S D h
  obtain ⟨d, ρ1, e1, h⟩ := EndOk.of h
  obtain ⟨hl, h⟩ := h.ite
  exact hi R ρ σ H d ρ1 S e1 _ fun p R' H' S' x M o => h _ R' H' (S'.storeOwn hl M o) x
section
variable (i : Nat) {x : Str} {e : Expr} {pos pos' : Pos} (fm : Fm G k 𝒳)
theorem sSet {m : ME} (fm : Fm G k 𝒳) (h : CE 𝒳 G e m) (hN : ∀ j, (𝒳 j).N[i]? = some x := by intro _; rfl) (hx : ∀ j, Loc (𝒳 j).env.scope x := by first | exact fun _ => Or.inl rfl | exact fun _ => Or.inr rfl)
    (hs : ∀ j, swapsWith e (some (.Name x pos')) pos.line (𝒳 j).env = pure false := by intro _; rfl) (hf : ∀ j, (𝒳 j).fn x = true ∨ (𝒳 j).env.scope.names.lookup x = some .local := by first | exact fun _ => .inl rfl | exact fun _ => .inr rfl) : CS 𝒳 G W (.Assign [.Name x pos'] e pos) (mSt i m) := by
  obtain ⟨t, hp, hi⟩ := h
  exact ⟨_, fun j => ps_set (fm.nod j) (hN j) (hx j) (hp j) (hs j) (hf j), fun Φ => iSt (hi Φ)⟩
theorem sSetO {m : MO} (fm : Fm G k 𝒳) (h : CO 𝒳 G e m) (hN : ∀ j, (𝒳 j).N[i]? = some x := by intro _; rfl) (hx : ∀ j, Loc (𝒳 j).env.scope x := by first | exact fun _ => Or.inl rfl | exact fun _ => Or.inr rfl)
    (hs : ∀ j, swapsWith e (some (.Name x pos')) pos.line (𝒳 j).env = pure false := by intro _; rfl) (hf : ∀ j, (𝒳 j).fn x = true ∨ (𝒳 j).env.scope.names.lookup x = some .local := by first | exact fun _ => .inl rfl | exact fun _ => .inr rfl) : CS 𝒳 G W (.Assign [.Name x pos'] e pos) (mStO i m) := by
  obtain ⟨t, hp, hi⟩ := h
  exact ⟨_, fun j => ps_set (fm.nod j) (hN j) (hx j) (hp j) (hs j) (hf j), fun Φ => iStO (hi Φ)⟩
end
/-- name = [..], all on one row -/
theorem setLcP (i : Nat) {y : Str} {py : Pos} {elt tg iter : Expr} {ifs : List Expr} {scope : Scope} (own : List (Str × Nat)) {pos spos : Pos} {mi : MA} {mg : MG} {mt : MT} {me : ME} (fm : Fm G k 𝒳) (hi : CI 𝒳 G tg iter mi) (hg : CG (blkF 𝒳 scope) G tg mg (own.map (·.2))) (ht : CTs (blkF 𝒳 scope) G ifs mt) (he : CE (blkF 𝒳 scope) G elt me)
    (ok : ∀ j, BlkOk (𝒳 j).N (𝒳 j).env.scope scope own) (hN : ∀ j, (𝒳 j).N[i]? = some y) (hyl : ∀ j, (𝒳 j).env.scope.names.lookup y = some .local)
    (hsw : ∀ j, swapsWith (.ListComp elt [⟨tg, iter, ifs, 0⟩] scope pos) (some (.Name y py)) spos.line (𝒳 j).env = pure true) (hs : ∀ j x, foldedSetIterable iter (𝒳 j).env x = pure x) :
    ∃ t, (∀ j, PS (𝒳 j) (.Assign [.Name y py] (.ListComp elt [⟨tg, iter, ifs, 0⟩] scope pos) spos) (tAsg t (gName i))) ∧ ∀ Φ, IO G Φ t (mLc (own.map (·.2)) mi mg mt me) := by
  obtain ⟨wi, pi, ii⟩ := hi
  obtain ⟨g, pg, ig⟩ := hg
  obtain ⟨tt, pt, it⟩ := ht
  obtain ⟨te, pe, ie⟩ := he
  exact ⟨_, fun j => ps_setLc (fm.calm j) (fm.nod j) (hN j) (hyl j) (hsw j) (pi j) (ok j) (fun s H C cl fp => pg (j, ⟨s, H, C, cl, fp⟩)) (fun s H C cl fp => pt (j, ⟨s, H, C, cl, fp⟩)) (fun s H C cl fp => pe (j, ⟨s, H, C, cl, fp⟩)) (hs j), fun Φ => iLc (ii Φ) ig it ie⟩
theorem iGive {Φ : Fx} {t : TE} {m : MO} (hi : IO G Φ t m) : IE G Φ t (mGive m) := by
  intro R ρ σ H d ρ' S e Q q
  obtain ⟨w, ρ1, e1, e2⟩ := Re.of_bind e
  cases e2
  refine hi R ρ σ H w _ S e1 Q fun p R' H' S' x M o => ?_
  obtain ⟨R2, S2, x2, dq⟩ := S'.give M o
  exact q _ R2 H' S2 (x.trans x2) dq
section
variable (i : Nat) {y : Str} {py : Pos} {elt tg iter : Expr} {ifs : List Expr} {scope : Scope} (own : List (Str × Nat)) {pos spos : Pos} {mi : MA} {mg : MG} {mt : MT} {me : ME} 
theorem sSetLc (fm : Fm G k 𝒳) (hi : CI 𝒳 G tg iter mi) (hg : CG (blkF 𝒳 scope) G tg mg (own.map (·.2))) (ht : CTs (blkF 𝒳 scope) G ifs mt) (he : CE (blkF 𝒳 scope) G elt me)
    (ok : ∀ j, BlkOk (𝒳 j).N (𝒳 j).env.scope scope own) (hN : ∀ j, (𝒳 j).N[i]? = some y := by intro _; rfl) (hyl : ∀ j, (𝒳 j).env.scope.names.lookup y = some .local := by intro _; rfl)
    (hsw : ∀ j, swapsWith (.ListComp elt [⟨tg, iter, ifs, 0⟩] scope pos) (some (.Name y py)) spos.line (𝒳 j).env = pure true) (hs : ∀ j x, foldedSetIterable iter (𝒳 j).env x = pure x := by intro _ _; rfl) :
    CS 𝒳 G W (.Assign [.Name y py] (.ListComp elt [⟨tg, iter, ifs, 0⟩] scope pos) spos) (mSt i (mGive (mLc (own.map (·.2)) mi mg mt me))) := by
  obtain ⟨t, hp, hi⟩ := setLcP i own fm hi hg ht he ok hN hyl hsw hs
  exact ⟨_, hp, fun Φ => iSt (iGive (hi Φ))⟩
theorem sSetLcO (fm : Fm G k 𝒳) (hi : CI 𝒳 G tg iter mi) (hg : CG (blkF 𝒳 scope) G tg mg (own.map (·.2))) (ht : CTs (blkF 𝒳 scope) G ifs mt) (he : CE (blkF 𝒳 scope) G elt me)
    (ok : ∀ j, BlkOk (𝒳 j).N (𝒳 j).env.scope scope own) (hN : ∀ j, (𝒳 j).N[i]? = some y := by intro _; rfl) (hyl : ∀ j, (𝒳 j).env.scope.names.lookup y = some .local := by intro _; rfl)
    (hsw : ∀ j, swapsWith (.ListComp elt [⟨tg, iter, ifs, 0⟩] scope pos) (some (.Name y py)) spos.line (𝒳 j).env = pure true) (hs : ∀ j x, foldedSetIterable iter (𝒳 j).env x = pure x := by intro _ _; rfl) :
    CS 𝒳 G W (.Assign [.Name y py] (.ListComp elt [⟨tg, iter, ifs, 0⟩] scope pos) spos) (mStO i (mLc (own.map (·.2)) mi mg mt me)) := by
  obtain ⟨t, hp, hi⟩ := setLcP i own fm hi hg ht he ok hN hyl hsw hs
  exact ⟨_, hp, fun Φ => iStO (hi Φ)⟩
end
/-- target = e -/
def mAsg (mg : MG) (m : ME) : MS := fun ρ => Fl.of (m ρ) fun d ρ1 => match mg d ρ1 with
  | some ρ2 => .nx ρ2
  | none => .bad
theorem sAsg {tg e : Expr} {m : ME} {mg : MG} {vs : List Nat} {pos : Pos} (h : CE 𝒳 G e m) (hg : CG 𝒳 G tg mg vs) (hs : ∀ i, swapsWithSole [tg] e pos.line (𝒳 i).env = pure false := by intro _; rfl) (hw : ∀ i, swappedStores [tg] e (𝒳 i).env = pure none := by intro _; rfl)
    (h1 : ∀ i, (assignEach [tg] (𝒳 i).env).map (·.2) = [assign tg (𝒳 i).env] := by intro _; rfl) : CS 𝒳 G W (.Assign [tg] e pos) (mAsg mg m) := by
  obtain ⟨t, hp, hi⟩ := h
  obtain ⟨g, pg, ig⟩ := hg
  refine ⟨_, fun i => ps_asg (hp i) (pg i) (hs i) (hw i) (h1 i), fun Φ R ρ σ H S D h => ?_⟩
  obtain ⟨d, ρ1, e1, h⟩ := EndOk.of h
  cases e2 : mg d ρ1 with
  | none => rw [e2] at h; exact h.elim
  | some ρ2 =>
    rw [e2] at h
    exact hi Φ R ρ σ H d ρ1 S e1 _ fun v R' H' S' x q => ig Φ R' ρ1 σ H' v d ρ2 S' q e2 _ fun σ' S2 _ => h σ' R' H' S2 x
def mPar (i j : Nat) (m : MA) : MS := fun ρ => Fl.of (m ρ) fun ds ρ1 => match ds with
  | [a, b] => if i < ρ1.length ∧ j < ρ1.length then .nx ((ρ1.set i (.v a)).set j (.v b)) else .bad
  | _ => .bad
theorem sPar (i j : Nat) {x y : Str} {a b : Expr} {m : MA} {px py pt pos : Pos} {kt k2 pt2} (fm : Fm G k 𝒳) (h : CA 𝒳 G [a, b] m) (hi : ∀ q, (𝒳 q).N[i]? = some x := by intro _; rfl) (hj : ∀ q, (𝒳 q).N[j]? = some y := by intro _; rfl) (hij : i ≠ j := by decide)
    (hx : ∀ q, (𝒳 q).env.scope.names.lookup x = some .local := by intro _; rfl) (hy : ∀ q, (𝒳 q).env.scope.names.lookup y = some .local := by intro _; rfl)
    (hw : ∀ q, swappedStores [.Tuple [.Name x px, .Name y py] kt pt] (.Tuple [a, b] k2 pt2) (𝒳 q).env = pure (some [x, y]) := by intro _; rfl)
    (hs : ∀ q, swapsWithSole [.Tuple [.Name x px, .Name y py] kt pt] (.Tuple [a, b] k2 pt2) pos.line (𝒳 q).env = pure false := by intro _; rfl) : CS 𝒳 G W (.Assign [.Tuple [.Name x px, .Name y py] kt pt] (.Tuple [a, b] k2 pt2) pos) (mPar i j m) := by
  obtain ⟨t, hp, hI, _⟩ := h
  refine ⟨_, fun q => ps_par (fm.calm q) (fm.nod q) (hi q) (hj q) hij (hx q) (hy q) (hp q) (hw q) (hs q), fun Φ R ρ σ H S D h => ?_⟩
  obtain ⟨ds, ρ1, e1, h⟩ := EndOk.of h
  split at h
  · rename_i a b
    obtain ⟨hl, h⟩ := EndOk.ite h
    refine hI Φ R ρ σ H _ ρ1 S e1 _ fun vs R' H' S' x q => ?_
    obtain ⟨u, w, rfl, qu, qw⟩ := dqa2 q
    exact ⟨u, w, rfl, h _ R' H' ((S'.store hl.1 qu).store (by rw [List.length_set]; exact hl.2) qw) x⟩
  · exact False.elim h
def mPar3 (i j l : Nat) (m : MA) : MS := fun ρ => Fl.of (m ρ) fun ds ρ1 => match ds with
  | [a, b, c] => if i < ρ1.length ∧ j < ρ1.length ∧ l < ρ1.length then .nx (((ρ1.set i (.v a)).set j (.v b)).set l (.v c)) else .bad
  | _ => .bad
theorem dqa3 {K : PySem.W.Frag} {R : Hp} {d e f : D} {vs : List V} (h : DqA K R [d, e, f] vs) : ∃ x y z, vs = [x, y, z] ∧ Dq K R d x ∧ Dq K R e y ∧ Dq K R f z := by
  obtain ⟨x, r, rfl, q1, h⟩ := dqa_cons.mp h
  obtain ⟨y, z, rfl, q2, q3⟩ := dqa2 h
  exact ⟨x, y, z, rfl, q1, q2, q3⟩
theorem sPar3 (i j l : Nat) {x y z : Str} {a b c : Expr} {m : MA} {px py pz pt pos : Pos} {kt k2 pt2} (fm : Fm G k 𝒳) (h : CA 𝒳 G [a, b, c] m) (hi : ∀ q, (𝒳 q).N[i]? = some x := by intro _; rfl) (hj : ∀ q, (𝒳 q).N[j]? = some y := by intro _; rfl) (hl : ∀ q, (𝒳 q).N[l]? = some z := by intro _; rfl) (hij : i ≠ j := by decide) (hil : i ≠ l := by decide) (hjl : j ≠ l := by decide)
    (hx : ∀ q, (𝒳 q).env.scope.names.lookup x = some .local := by intro _; rfl) (hy : ∀ q, (𝒳 q).env.scope.names.lookup y = some .local := by intro _; rfl) (hz : ∀ q, (𝒳 q).env.scope.names.lookup z = some .local := by intro _; rfl)
    (hw : ∀ q, swappedStores [.Tuple [.Name x px, .Name y py, .Name z pz] kt pt] (.Tuple [a, b, c] k2 pt2) (𝒳 q).env = pure (some [x, y, z]) := by intro _; rfl)
    (hs : ∀ q, swapsWithSole [.Tuple [.Name x px, .Name y py, .Name z pz] kt pt] (.Tuple [a, b, c] k2 pt2) pos.line (𝒳 q).env = pure false := by intro _; rfl) : CS 𝒳 G W (.Assign [.Tuple [.Name x px, .Name y py, .Name z pz] kt pt] (.Tuple [a, b, c] k2 pt2) pos) (mPar3 i j l m) := by
  obtain ⟨t, hp, hI, _⟩ := h
  refine ⟨_, fun q => ps_par3 (fm.calm q) (fm.nod q) (hi q) (hj q) (hl q) hij hil hjl (hx q) (hy q) (hz q) (hp q) (hw q) (hs q), fun Φ R ρ σ H S D h => ?_⟩
  obtain ⟨ds, ρ1, e1, h⟩ := EndOk.of h
  split at h
  · rename_i a b c
    obtain ⟨hl, h⟩ := EndOk.ite h
    refine hI Φ R ρ σ H _ ρ1 S e1 _ fun vs R' H' S' x q => ?_
    obtain ⟨u, w, v, rfl, qu, qw, qv⟩ := dqa3 q
    exact ⟨u, w, v, rfl, h _ R' H' (((S'.store hl.1 qu).store (by rw [List.length_set]; exact hl.2.1) qw).store (by rw [List.length_set, List.length_set]; exact hl.2.2) qv) x⟩
  · exact False.elim h
/-- name += int, name -= int -/
def mAug (i : Nat) (f : Int → Int → Int) (m : ME) : MS := fun ρ => match ρ[i]? with
  | some (.v (.int a)) => Fl.of (m ρ) fun d ρ1 => match d with
    | .int b => if i < ρ1.length then .nx (ρ1.set i (.v (.int (f a b)))) else .bad
    | _ => .bad
  | _ => .bad
theorem iAug {Φ : Fx} {i : Nat} {f : Int → Int → Int} {t : TE} {m : ME} (hi : IE G Φ t m) : IS G Φ W (tAug i t (ipI f)) (mAug i f m) := by
  intro R ρ σ H S D h
  unfold mAug at h
  split at h
  · rename_i a ha
    obtain ⟨d, ρ1, e1, h⟩ := EndOk.of h
    obtain ⟨x, ex, qx⟩ := S.sl i _ ha
    cases dq_int.mp qx
    split at h
    · rename_i b
      obtain ⟨hl, h⟩ := EndOk.ite h
      refine ⟨_, ex, hi R ρ σ H _ ρ1 S e1 _ fun v R' H' S' x q => ?_⟩
      cases dq_int.mp q
      exact ⟨a, b, rfl, rfl, h _ R' H' (S'.store hl (dq_int.mpr rfl)) x⟩
    · exact False.elim h
  · exact False.elim h
theorem sAugAdd (i : Nat) {x : Str} {e : Expr} {m : ME} {pos pos' : Pos} (fm : Fm G k 𝒳) (h : CE 𝒳 G e m) (hN : ∀ j, (𝒳 j).N[i]? = some x := by intro _; rfl) (hx : ∀ j, Loc (𝒳 j).env.scope x := by first | exact fun _ => Or.inl rfl | exact fun _ => Or.inr rfl)
    (hf : ∀ j, (𝒳 j).fn x = true ∨ (𝒳 j).env.scope.names.lookup x = some .local := by first | exact fun _ => .inl rfl | exact fun _ => .inr rfl) : CS 𝒳 G W (.AugAssign (.Name x pos') .Add e pos) (mAug i (fun a b => a + b) m) := by
  obtain ⟨t, hp, hi⟩ := h
  exact ⟨_, fun j => ps_aug (fm.nod j) (hN j) (hx j) (hp j) ip_add (hf j), fun Φ => iAug (hi Φ)⟩
theorem sAugSub (i : Nat) {x : Str} {e : Expr} {m : ME} {pos pos' : Pos} (fm : Fm G k 𝒳) (h : CE 𝒳 G e m) (hN : ∀ j, (𝒳 j).N[i]? = some x := by intro _; rfl) (hx : ∀ j, Loc (𝒳 j).env.scope x := by first | exact fun _ => Or.inl rfl | exact fun _ => Or.inr rfl)
    (hf : ∀ j, (𝒳 j).fn x = true ∨ (𝒳 j).env.scope.names.lookup x = some .local := by first | exact fun _ => .inl rfl | exact fun _ => .inr rfl) : CS 𝒳 G W (.AugAssign (.Name x pos') .Sub e pos) (mAug i (fun a b => a - b) m) := by
  obtain ⟨t, hp, hi⟩ := h
  exact ⟨_, fun j => ps_aug (fm.nod j) (hN j) (hx j) (hp j) ip_sub (hf j), fun Φ => iAug (hi Φ)⟩

/-! ### loops -/
def forGo (mg : MG) (mb : MS) : List D → PE0 → Fl
  | [], ρ => .nx ρ
  | d :: ds, ρ => match mg d ρ with
    | none => .bad
    | some ρ1 => match mb ρ1 with
      | .nx ρ2 => forGo mg mb ds ρ2
      | .ct ρ2 => forGo mg mb ds ρ2
      | .bk ρ2 => .nx ρ2
      | fl => fl
def mFor (mi : MA) (mg : MG) (mb : MS) : MS := fun ρ => Fl.of (mi ρ) fun ds ρ1 => forGo mg mb ds ρ1
theorem iFor {Φ : Fx} {wi : TI} {g : TG} {tb : TS} {mi : MA} {mg : MG} {mb : MS} {vs : List Nat} (hi : II G Φ wi mi) (hg : IG G Φ g mg vs) (hb : IS G Φ W tb mb) : IS G Φ W (tFor wi g tb) (mFor mi mg mb) := by
  intro R ρ σ H S D h
  obtain ⟨ds, ρ1, e1, h⟩ := EndOk.of h
  refine hi R ρ σ H ds ρ1 S e1 _ fun J R1 H1 S1 x1 Y => ?_
  have h := h.mono x1
  refine ⟨fun i m σ H => i ≤ ds.length ∧ m = ds.length - i ∧ ∃ R2 ρ2, SR G Φ R2 ρ2 σ H ∧ Ext R1 R2 ∧ EndOk G Φ W R2 (forGo mg mb (ds.drop i) ρ2) D, ⟨ds.length, Nat.zero_le _, rfl, R1, ρ1, S1, Ext.refl R1, h⟩, ?_⟩
  rintro i m σ2 H2 ⟨hle, rfl, R2, ρ2, S2, x2, h2⟩
  by_cases hlt : i < ds.length
  · right
    have hd : ds[i]? = some ds[i] := List.getElem?_eq_getElem hlt
    obtain ⟨go, yl⟩ := Y.go R2 H2 i _ x2 S2.start hd
    refine ⟨go, fun σ H => ∃ R3 ρ3, SR G Φ R3 ρ3 σ H ∧ Ext R1 R3 ∧ EndOk G Φ W R3 (forGo mg mb (ds.drop (i + 1)) ρ3) D, fun σ' H' hh => ⟨ds.length - (i + 1), by omega, hlt, rfl, hh⟩, fun x H3 hy => ?_⟩
    obtain ⟨R3, A3, qx⟩ := yl x H3 hy
    have S3 := S2.after A3
    rw [List.drop_eq_getElem_cons hlt] at h2
    unfold forGo at h2
    cases egt : mg ds[i] ρ2 with
    | none => rw [egt] at h2; exact False.elim h2
    | some ρb =>
      rw [egt] at h2
      refine hg R3 ρ2 σ2 H3 x _ ρb S3 qx egt _ fun σ4 S4 _ => ?_
      refine hb R3 ρb σ4 H3 S4 _ ?_
      have h2 := h2.mono A3.ext
      dsimp only at h2
      have x3 := x2.trans A3.ext
      cases em : mb ρb with
      | nx ρc => rw [em] at h2; exact fun σ' R' H' S' x => ⟨R', ρc, S', x3.trans x, h2.mono x⟩
      | ct ρc => rw [em] at h2; exact fun σ' R' H' S' x => ⟨R', ρc, S', x3.trans x, h2.mono x⟩
      | bk ρc => rw [em] at h2; exact h2
      | rt d ρc => rw [em] at h2; exact h2
      | rto d ρc => rw [em] at h2; exact h2
      | ex n ρc => rw [em] at h2; exact h2
      | bad => rw [em] at h2; exact h2
  · left
    have hi : i = ds.length := by omega
    subst hi
    rw [List.drop_length] at h2
    exact ⟨Y.stop R2 H2 _ x2 S2.start (Nat.le_refl _), h2 σ2 R2 H2 S2 (Ext.refl R2)⟩
theorem sFor {tg iter : Expr} {body : List Stmt} {mi : MA} {mg : MG} {mb : MS} {vs : List Nat} {pos : Pos} (fm : Fm G k 𝒳) (fs : Fs 𝒳 W) (hi : CI 𝒳 G tg iter mi) (hg : CG 𝒳 G tg mg vs) (hb : CSs 𝒳 G W body mb)
    (hs : ∀ j x, foldedSetIterable iter (𝒳 j).env x = pure x := by intro _ _; rfl) : CS 𝒳 G W (.For tg iter body [] pos) (mFor mi mg mb) := by
  obtain ⟨wi, pi, ii⟩ := hi
  obtain ⟨g, pg, ig⟩ := hg
  obtain ⟨t, hp, ib⟩ := hb
  exact ⟨_, fun j => ps_for (fs.pass j) (fm.calm j) (pi j) (pg j) (hp j) (hs j), fun Φ => iFor (ii Φ) (ig Φ) (ib Φ)⟩
def whGo (mc : MT) (mb : MS) : Nat → PE0 → Fl
  | 0, _ => .bad
  | n + 1, ρ => Fl.of (mc ρ) fun c ρ1 => if c = true then (match mb ρ1 with
      | .nx ρ2 => whGo mc mb n ρ2
      | .ct ρ2 => whGo mc mb n ρ2
      | .bk ρ2 => .nx ρ2
      | fl => fl) else .nx ρ1
theorem iWh {Φ : Fx} {n : Nat} {tc : TT} {tb : TS} {mc : MT} {mb : MS} (hc : IT G Φ tc mc) (hb : IS G Φ W tb mb) : IS G Φ W (tWhile tc tb) (whGo mc mb n) := by
  intro R ρ σ H S D h
  refine ⟨fun m σ H => ∃ R2 ρ2, SR G Φ R2 ρ2 σ H ∧ EndOk G Φ W R2 (whGo mc mb m ρ2) D, ⟨n, R, ρ, S, h⟩, ?_⟩
  rintro m σ2 H2 ⟨R2, ρ2, S2, h2⟩
  cases m with
  | zero => exact False.elim h2
  | succ m =>
    obtain ⟨c, ρ1, e1, h2⟩ := EndOk.of h2
    refine hc R2 ρ2 σ2 H2 c ρ1 S2 e1 _ fun R3 H3 S3 x3 => ?_
    have h2 := h2.mono x3
    cases c with
    | true =>
      rw [if_pos rfl] at h2 ⊢
      refine ⟨fun σ H => ∃ R2 ρ2, SR G Φ R2 ρ2 σ H ∧ EndOk G Φ W R2 (whGo mc mb m ρ2) D, fun σ' H' hh => ⟨m, Nat.lt_succ_self m, hh⟩, ?_⟩
      refine hb R3 ρ1 σ2 H3 S3 _ ?_
      cases em : mb ρ1 with
      | nx ρc => rw [em] at h2; exact fun σ' R' H' S' x => ⟨R', ρc, S', h2.mono x⟩
      | ct ρc => rw [em] at h2; exact fun σ' R' H' S' x => ⟨R', ρc, S', h2.mono x⟩
      | bk ρc => rw [em] at h2; exact h2
      | rt d ρc => rw [em] at h2; exact h2
      | rto d ρc => rw [em] at h2; exact h2
      | ex n ρc => rw [em] at h2; exact h2
      | bad => rw [em] at h2; exact h2
    | false =>
      rw [if_neg Bool.false_ne_true] at h2 ⊢
      exact h2 σ2 R3 H3 S3 (Ext.refl R3)
theorem sWhile (n : Nat) {c : Expr} {body : List Stmt} {mc : MT} {mb : MS} {pos : Pos} (fs : Fs 𝒳 W) (hc : CT 𝒳 G c mc) (hb : CSs 𝒳 G W body mb) : CS 𝒳 G W (.While c body [] pos) (whGo mc mb n) := by
  obtain ⟨tc, pc, ic⟩ := hc
  obtain ⟨t, hp, ib⟩ := hb
  exact ⟨_, fun j => ps_while (fs.pass j) (pc j) (hp j), fun Φ => iWh (ic Φ) (ib Φ)⟩

/-! ### an own list is written -/
def mMeth (i : Nat) (f : List D → List D → Option (List D)) (m : MA) : MS := fun ρ => Fl.of (m ρ) fun ds ρ1 => match ρ[i]?, ρ1[i]? with
  | some (.own (.l _)), some (.own (.l xs)) => match f xs ds with
    | some ys => .nx (ρ1.set i (.own (.l ys)))
    | none => .bad
  | _, _ => .bad
def appD : List D → List D → Option (List D)
  | xs, [d] => if xs.length < sizeLine then some (xs ++ [d]) else none
  | _, _ => none
def extD : List D → List D → Option (List D)
  | xs, [.list ds] => if xs.length + ds.length ≤ sizeLine then some (xs ++ ds) else none
  | _, _ => none
theorem iMeth {Φ : Fx} {i : Nat} {t : TA} {m : MA} {r : V → List V → Hp → VK → Prop} {f : List D → List D → Option (List D)} (hi : IA G Φ t m)
    (hr : ∀ (R H : Hp) (ρ : PE0) (σ : L2.St) (p : Addr) (xs : List V) (vs : List V) (cs ds ys : List D), SR G Φ R ρ σ H → H p = some (.lst xs) → xs.length ≤ sizeLine → DqA G.K R cs xs → DqA G.K R ds vs → f cs ds = some ys →
      ∀ Q : VK, (∀ (v : V) (zs : List V), DqA G.K R ys zs → zs.length ≤ sizeLine → Q v (upd H p (.lst zs))) → r (.ref p) vs H Q) :
    IS G Φ W (tDrop (tBM G.K "list" r (tVar i) t)) (mMeth i f m) := by
  intro R ρ σ H S D h
  obtain ⟨ds, ρ1, e1, h⟩ := EndOk.of h
  split at h
  · rename_i xs0 xs e0 e2
    obtain ⟨p, z1, z2, z3, z4⟩ := S.sl i _ e0
    obtain ⟨us0, z4, _⟩ := z4
    refine ⟨.ref p, z1, .inl ⟨rfl, us0, .inl (.inl z4)⟩, hi R ρ σ H ds ρ1 S e1 _ fun vs R1 H1 S1 x1 qv => ?_⟩
    obtain ⟨p2, y1, y2, y3, us, y4, y5, y6⟩ := S1.sl i _ e2
    rw [z1] at y1
    cases y1
    cases ef : f xs ds with
    | none => rw [ef] at h; exact False.elim h
    | some ys =>
      rw [ef] at h
      refine hr R1 H1 ρ1 σ p us vs xs ds ys S1 y4 y6 y5 qv ef _ fun v zs qz hz => ?_
      exact h σ R1 _ (S1.write e2 z1 y4 (plain_lst us) ⟨zs, upd_same, qz, hz⟩) x1
  · exact False.elim h
section
variable (i : Nat) {x : Str} {e : Expr} {m : ME} {px apos cpos pos : Pos}
theorem sAppend (fm : Fm G k 𝒳) (h : CE 𝒳 G e m) (hN : ∀ j, (𝒳 j).N[i]? = some x := by intro _; rfl) (hv : ∀ j, Vis (𝒳 j).env.scope x := by first | exact fun _ => Or.inl rfl | exact fun _ => Or.inr (Or.inl rfl) | exact fun _ => Or.inr (Or.inr rfl)) (hd : (x == ("__debug__" : Str)) = false := by decide) (hcd : (x == ("__classdict__" : Str)) = false := by decide)
    (hbase : ∀ j, attributeBase (.Name x px) "append" (𝒳 j).env (eval (.Name x px) (𝒳 j).env) = eval (.Name x px) (𝒳 j).env := by intro _; rfl)
    (hfew : ∀ j, ((backTo cpos (starEach [e] (𝒳 j).env)).all (fun x => !x.1) && (backToKw cpos (keywordEach [] (𝒳 j).env)).all (fun x => x.1.isSome) && decide (([e] : List Expr).length + ([] : List Keyword).length + (if ([] : List Keyword).isEmpty then 0 else 1) < 30)) = true := by intro _; rfl)
    (hline : (apos.endLine == cpos.line) = true := by rfl) (hs : ∀ j, starEach [e] (𝒳 j).env = (false, eval e (𝒳 j).env) :: starEach [] (𝒳 j).env := by intro _; rfl)
    (hsw : ∀ j, swapsWith (.Call (.Attribute (.Name x px) "append" apos) [e] [] cpos) none pos.line (𝒳 j).env = pure false := by intro _; rfl) :
    CS 𝒳 G W (.Expr (.Call (.Attribute (.Name x px) "append" apos) [e] [] cpos) pos) (mMeth i appD (mCons m mNil)) := by
  obtain ⟨t, hp, hi, _⟩ := aCons h aNil hs
  refine ⟨tDrop (tBM G.K "list" rAppend (tVar i) t), fun j => ps_expr (Eq.mp (congrArg (fun K => PE (𝒳 j) _ (tBM K "list" rAppend (tVar i) t)) (fm.K j)) (pe_bm PySem.F.plainAttrs_list PySem.F.slot_list_append PySem.F.type_list_append mt_append (pe_var (hN j) (hv j) hd hcd) (hp j) (hbase j) (hfew j) hline (hs j) rfl)) (hsw j), fun Φ => iMeth (hi Φ) fun R H ρ σ p xs vs cs ds ys S hH hz qc qv ef Q q => ?_⟩
  unfold appD at ef
  split at ef
  · rename_i d
    split at ef <;> cases ef
    have hlt : cs.length < sizeLine := by assumption
    rw [qc.length] at hlt
    obtain ⟨y, rfl, qy⟩ := dqa1 qv
    exact ⟨p, xs, y, rfl, rfl, hH, hlt, q _ _ (qc.append (dqa_one qy)) (by rw [List.length_append]; exact hlt)⟩
  · cases ef
theorem sExtend (fm : Fm G k 𝒳) (h : CE 𝒳 G e m) (hN : ∀ j, (𝒳 j).N[i]? = some x := by intro _; rfl) (hv : ∀ j, Vis (𝒳 j).env.scope x := by first | exact fun _ => Or.inl rfl | exact fun _ => Or.inr (Or.inl rfl) | exact fun _ => Or.inr (Or.inr rfl)) (hd : (x == ("__debug__" : Str)) = false := by decide) (hcd : (x == ("__classdict__" : Str)) = false := by decide)
    (hbase : ∀ j, attributeBase (.Name x px) "extend" (𝒳 j).env (eval (.Name x px) (𝒳 j).env) = eval (.Name x px) (𝒳 j).env := by intro _; rfl)
    (hfew : ∀ j, ((backTo cpos (starEach [e] (𝒳 j).env)).all (fun x => !x.1) && (backToKw cpos (keywordEach [] (𝒳 j).env)).all (fun x => x.1.isSome) && decide (([e] : List Expr).length + ([] : List Keyword).length + (if ([] : List Keyword).isEmpty then 0 else 1) < 30)) = true := by intro _; rfl)
    (hline : (apos.endLine == cpos.line) = true := by rfl) (hs : ∀ j, starEach [e] (𝒳 j).env = (false, eval e (𝒳 j).env) :: starEach [] (𝒳 j).env := by intro _; rfl)
    (hsw : ∀ j, swapsWith (.Call (.Attribute (.Name x px) "extend" apos) [e] [] cpos) none pos.line (𝒳 j).env = pure false := by intro _; rfl) :
    CS 𝒳 G W (.Expr (.Call (.Attribute (.Name x px) "extend" apos) [e] [] cpos) pos) (mMeth i extD (mCons m mNil)) := by
  obtain ⟨t, hp, hi, _⟩ := aCons h aNil hs
  refine ⟨tDrop (tBM G.K "list" rExtend (tVar i) t), fun j => ps_expr (Eq.mp (congrArg (fun K => PE (𝒳 j) _ (tBM K "list" rExtend (tVar i) t)) (fm.K j)) (pe_bm PySem.F.plainAttrs_list PySem.F.slot_list_extend PySem.F.type_list_extend mt_extend (pe_var (hN j) (hv j) hd hcd) (hp j) (hbase j) (hfew j) hline (hs j) rfl)) (hsw j), fun Φ => iMeth (hi Φ) fun R H ρ σ p xs vs cs ds ys S hH hz qc qv ef Q q => ?_⟩
  unfold extD at ef
  split at ef
  · rename_i es
    split at ef <;> cases ef
    have hlt : cs.length + es.length ≤ sizeLine := by assumption
    obtain ⟨y, rfl, qy⟩ := dqa1 qv
    obtain ⟨b, zs, rfl, h1, h2⟩ := dq_list.mp qy
    rw [qc.length, h2.length] at hlt
    exact ⟨p, b, xs, zs, rfl, rfl, hH, S.sub _ _ h1, hlt, q _ _ (qc.append h2) (by rw [List.length_append]; exact hlt)⟩
  · cases ef
end

/-! ### the dice's list -/
def mDix (i : Nat) (m : ME) : ME := fun ρ => match diceAt i ρ with
  | some _ => (m ρ).bind fun d ρ1 => match diceAt i ρ1 with
    | some c => Re.opt (ixD (.list c) d) ρ1
    | none => .bad
  | none => .bad
theorem cDix (i : Nat) {y : Str} {b : Expr} {m : ME} {py pos : Pos} (fm : Fm G k 𝒳) (h : CE 𝒳 G b m) (hN : ∀ j, (𝒳 j).N[i]? = some y := by intro _; rfl) (hv : ∀ j, Vis (𝒳 j).env.scope y := by first | exact fun _ => Or.inl rfl | exact fun _ => Or.inr (Or.inl rfl) | exact fun _ => Or.inr (Or.inr rfl)) (hd : (y == ("__debug__" : Str)) = false := by decide) (hcd : (y == ("__classdict__" : Str)) = false := by decide)
    (hs : PlainIx b := by exact fun _ _ => rfl) : CE 𝒳 G (.Subscript (.Name y py) b pos) (mDix i m) := by
  obtain ⟨t, hp, hi⟩ := h
  refine ⟨tOp (rIxL G.K) (tVar i) t, fun j => pe_ix (fm.ix (p := rIxL) j ix_list) (pe_var (hN j) (hv j) hd hcd) (hp j) hs, fun Φ R ρ σ H d ρ' S e Q q => ?_⟩
  unfold mDix at e
  split at e
  · rename_i c0 hc0
    obtain ⟨d1, ρ1, e1, e⟩ := Re.of_bind e
    split at e
    · rename_i c hc
      obtain ⟨e2, rfl⟩ := Re.of_opt e
      obtain ⟨a, _, z1, z2, _⟩ := S.sl i _ (diceAt_eq hc0)
      refine ⟨.ref a, z1, hi Φ R ρ σ H d1 ρ' S e1 _ fun v R1 H1 S1 x1 qv => ?_⟩
      obtain ⟨b2, xs, y1, y2, y3, y4, y5⟩ := S1.sl i _ (diceAt_eq hc)
      rw [z1] at y1
      cases y1
      unfold ixD at e2
      cases d1 with
      | int n =>
        obtain ⟨u, hu, qu⟩ := y5.atI e2
        cases dq_int.mp qv
        exact ⟨a, xs, n, u, rfl, rfl, .inl (.inl y4), hu, q u R1 H1 S1 x1 qu⟩
      | _ => cases e2
    · cases e
  · cases e
theorem after_dice {R H : Hp} {a : Addr} {xs ys : List V} (S : Start G R H) (ha : R a = none) (hH : H a = some (.lst xs)) : After G (some a) R H R (upd H a (.lst ys)) :=
  ⟨Ext.refl R, S.sub.put ha, S.dat, S.lens, fun b o h d _ => by rw [upd_ne (fun z => d (by rw [z]))]; exact h, fun b h => by
      by_cases e : b = a
      · subst e; exact nt_ne upd_same (plain_lst ys).1
      · rw [nt_upd_ne e]; exact h,
    tabs_write S.tabs hH (plain_lst xs).1 (plain_lst xs).2, fun b h => .inl h⟩
/-- dice[n] = e -/
def mDset (i : Nat) (n : Int) (m : ME) : MS := fun ρ => Fl.of (m ρ) fun d ρ1 => match diceAt i ρ1 with
  | some c => match ixN c.length n with
    | some j => .nx (ρ1.set i (.dice (c.set j d)))
    | none => .bad
  | none => .bad
theorem sDset (i : Nat) {y : Str} {n : Int} {e : Expr} {m : ME} {py pn tpos pos : Pos} {kn : Tok} (h : CE 𝒳 G e m) (hN : ∀ j, (𝒳 j).N[i]? = some y := by intro _; rfl) (hv : ∀ j, Vis (𝒳 j).env.scope y := by first | exact fun _ => Or.inl rfl | exact fun _ => Or.inr (Or.inl rfl) | exact fun _ => Or.inr (Or.inr rfl)) (hd : (y == ("__debug__" : Str)) = false := by decide) (hcd : (y == ("__classdict__" : Str)) = false := by decide)
    (hs : ∀ j, swapsWithSole [.Subscript (.Name y py) (.Constant (.int n) kn pn) tpos] e pos.line (𝒳 j).env = pure false := by intro _; rfl) (hw : ∀ j, swappedStores [.Subscript (.Name y py) (.Constant (.int n) kn pn) tpos] e (𝒳 j).env = pure none := by intro _; rfl)
    (h1 : ∀ j, (assignEach [.Subscript (.Name y py) (.Constant (.int n) kn pn) tpos] (𝒳 j).env).map (·.2) = [assign (.Subscript (.Name y py) (.Constant (.int n) kn pn) tpos) (𝒳 j).env] := by intro _; rfl) :
    CS 𝒳 G W (.Assign [.Subscript (.Name y py) (.Constant (.int n) kn pn) tpos] e pos) (mDset i n m) := by
  obtain ⟨t, hp, hi⟩ := h
  refine ⟨tAsg t (gSub (tVar i) (tC (.int n)) rSetL), fun j => ps_asg (hp j) (pg_sub (pe_var (hN j) (hv j) hd hcd) pe_int set_list) (hs j) (hw j) (h1 j), fun Φ R ρ σ H S D h => ?_⟩
  obtain ⟨d, ρ1, e1, h⟩ := EndOk.of h
  refine hi Φ R ρ σ H d ρ1 S e1 _ fun v R1 H1 S1 x1 qv => ?_
  split at h
  · rename_i c hc
    obtain ⟨a, xs, y1, y2, y3, y4, y5⟩ := S1.sl i _ (diceAt_eq hc)
    split at h
    · rename_i j hj
      rw [y5.length] at hj
      exact ⟨.ref a, y1, a, xs, n, j, rfl, rfl, y4, hj, h σ R1 _ (S1.writeD (diceAt_eq hc) y1 (after_dice S1.start y3 y4) upd_same (y5.set j qv)) x1⟩
    · exact False.elim h
  · exact False.elim h

/-! ### f(..) as a row of its own, which may raise -/
def mCallX (F : List D → Out) (m : MA) : MS := fun ρ => Fl.of (m ρ) fun ds ρ1 => match F ds with
  | .ok _ => .nx ρ1
  | .exc n => .ex n ρ1
  | .bad => .bad
theorem sCallX {kf np : Nat} {x : Str} {s : Stmt} {f : Addr} {ps : List Str} {F : List D → Out} {e : Expr} {es : List Expr} {ma : MA} {p cpos pos : Pos} (fm : Fm G k 𝒳) (fs : Fs 𝒳 W) (P : PrF G kf x s f ps (spP G np F)) (hk : kf ≤ k) (ha : CA 𝒳 G (e :: es) ma) (hl : (e :: es).length = np := by rfl)
    (hg : ∀ i, Gl (𝒳 i) x := by intro _; rfl) (hdb : (x == ("__debug__" : Str)) = false := by decide)
    (he : ∀ i, starEach (e :: es) (𝒳 i).env = (false, eval e (𝒳 i).env) :: starEach es (𝒳 i).env := by intro _; rfl) (hpl : ∀ i, (backTo cpos (starEach es (𝒳 i).env)).any (·.1) = false := by intro _; rfl)
    (hsw : ∀ i, swapsWith (.Call (.Name x p) (e :: es) [] cpos) none pos.line (𝒳 i).env = pure false := by intro _; rfl) :
    CS 𝒳 G W (.Expr (.Call (.Name x p) (e :: es) [] cpos) pos) (mCallX F ma) := by
  obtain ⟨fd, FD, FO, FB⟩ := P.ex
  obtain ⟨t, hp, hi, hlen⟩ := ha
  refine ⟨tDrop (tCallS (spP G np F) (WE W) t), fun i => ps_expr (pe_callS (fm.fn i FO) ((fm.room i).mono hk) (hg i) (by rw [fm.mg i]; exact P.gm) (by rw [fm.K i]; exact FD.kp) (by rw [fm.K i]; exact FB) (fun σ => passAt (fs.tk i) σ) (hp i) hdb (he i) (hpl i)) (hsw i), fun Φ R ρ σ H S D h => ?_⟩
  obtain ⟨ds, ρ1, e1, h⟩ := EndOk.of h
  refine hi Φ R ρ σ H ds ρ1 S e1 _ fun vs R1 H1 S1 x1 q1 => ?_
  refine ⟨by rw [← q1.length, hlen _ _ _ e1]; exact hl, R1, ds, S1.start, q1, ?_⟩
  cases hF : F ds with
  | ok d0 =>
    rw [hF] at h
    exact fun v R' H' A dq => h σ R' H' (S1.after A) (x1.trans A.ext)
  | exc n =>
    rw [hF] at h
    exact fun dx R' H' A hx => h dx σ R' H' (S1.after A) (x1.trans A.ext) hx
  | bad => rw [hF] at h; exact False.elim h
end
end Pm

/-! Pm10: a def keeps the promise of its plain function. -/
namespace Pm
open PySem PySem.Spec PyProof.Rows L2
structure FIx (K : PySem.W.Frag) (k : Nat) (qual : Str) (scope : Scope) (f : Addr) where
  cdv : Value
  code : ∃ oc od fd osl, K.lookup f = some ⟨oc, od, .func fd, osl⟩ ∧ fd.code = cdv
  A : Around
  outer : List Env
  s : Shared
  H : Hp
  room : Room k (A.deeper (envOfC qual scope s.heap.objs.size f cdv))
def fX (G : Gx) (N : List Str) (qual : Str) (scope : Scope) (f : Addr) (k : Nat) (E : XK) : FIx G.K k qual scope f → Cx := fun i => cxOf (L2.CX G.P G.w) G.P G.w G.K G.mg G.base N qual scope f i.cdv i.A i.outer i.s i.H E
abbrev WK (E : XK) : WX := fun cls d _ H => E cls d H
theorem fX_fm {G : Gx} {N : List Str} {qual : Str} {scope : Scope} {f : Addr} {k : Nat} {E : XK} (nd : N.Nodup) : Fm G k (fX G N qual scope f k E) := ⟨fun _ => rfl, fun _ => rfl, fun _ => rfl, fun _ => rfl, fun _ => rfl, fun i => i.room, fun _ => rfl, fun _ => nd⟩
theorem fX_fs {G : Gx} {N : List Str} {qual : Str} {scope : Scope} {f : Addr} {k : Nat} {E : XK} : Fs (fX G N qual scope f k E) (WK E) := ⟨fun _ => takes_of rfl rfl rfl rfl, fun _ => passes_of rfl⟩
/-! ### the plain function of a body -/
def outOf : Fl → Out
  | .rt d _ => .ok d
  | .nx _ => .ok .none
  | .ex n _ => .exc n
  | _ => .bad
def ps0 (n : Nat) (ds : List D) : PE0 := ds.map Sl.v ++ List.replicate (n - ds.length) Sl.un
def fnP (n : Nat) (m : MS) : List D → Out := fun ds => outOf (m (ps0 n ds))
def outD : Fl → OutD
  | .rt d ρ => match diceAt 0 ρ with
    | some c => .ok d c
    | none => .bad
  | .nx ρ => match diceAt 0 ρ with
    | some c => .ok .none c
    | none => .bad
  | .ex n ρ => match diceAt 0 ρ with
    | some c => .exc n c
    | none => .bad
  | _ => .bad
def psD (n : Nat) (c ds : List D) : PE0 := Sl.dice c :: ds.map Sl.v ++ List.replicate (n - (ds.length + 1)) Sl.un
def fnD (n : Nat) (m : MS) : List D → List D → OutD := fun c ds => outD (m (psD n c ds))
section
variable {G : Gx}
theorem ps0_sl {R H : Hp} {Φ : Fx} {n : Nat} {ds : List D} {vs : List V} (h : DqA G.K R ds vs) (N : List Str) : ∀ (i : Nat) (s : Sl), (ps0 n ds)[i]? = some s → SlOk G Φ R H s ((L2.start N vs)[i]?) ∧ ((∃ d, s = .v d) ∨ s = .un) := by
  intro i s e
  unfold ps0 at e
  rw [List.getElem?_append] at e
  by_cases hl : i < (ds.map Sl.v).length
  · rw [if_pos hl, List.getElem?_map] at e
    rw [List.length_map] at hl
    rw [List.getElem?_eq_getElem hl] at e
    cases e
    obtain ⟨x, hx, qx⟩ := h.get (List.getElem?_eq_getElem hl)
    refine ⟨⟨x, ?_, qx⟩, .inl ⟨_, rfl⟩⟩
    unfold L2.start
    rw [List.getElem?_append, if_pos (by rw [List.length_map, ← h.length]; exact hl), List.getElem?_map, hx]
    rfl
  · rw [if_neg hl] at e
    have := List.mem_of_getElem? e
    rw [List.mem_replicate] at this
    rw [this.2]
    exact ⟨trivial, .inr rfl⟩
theorem ps0_len {n : Nat} {ds : List D} (h : ds.length ≤ n) : (ps0 n ds).length = n := by
  unfold ps0
  rw [List.length_append, List.length_map, List.length_replicate]
  omega
theorem start_len {N : List Str} {vs : List V} (h : vs.length ≤ N.length) : (L2.start N vs).length = N.length := by
  unfold L2.start
  rw [List.length_append, List.length_map, List.length_replicate]
  omega
theorem Start.nt {R H : Hp} (S : Start G R H) : Ext R (Pm.nt H) := fun a o h => nt_of (S.sub a o h) fun ps z => S.dat a ps (by rw [h, z])
theorem sr0 {R H : Hp} {N : List Str} {ds : List D} {vs : List V} (S : Start G R H) (h : DqA G.K R ds vs) (hl : ds.length ≤ N.length) : SR G ⟨R, nt H, none⟩ R (ps0 N.length ds) (L2.start N vs) H where
  sub := S.sub
  dat := S.dat
  lens := S.lens
  kept := fun a o h _ _ => (nt_some h).1
  there := fun a h => h
  tabs := S.tabs
  old := fun a h => .inl h
  r0 := fun a h => by cases h
  r00 := S.nt
  len := by rw [start_len (by rw [← h.length]; exact hl), ps0_len hl]
  sl := fun i s e => (ps0_sl h N i s e).1
  dis := fun i j w w' a _ h1 _ _ _ => by rcases (ps0_sl (H := H) (Φ := ⟨R, nt H, none⟩) h N i _ h1).2 with ⟨d, z⟩ | z <;> cases z
  one := fun i j d d' h1 _ => by rcases (ps0_sl (H := H) (Φ := ⟨R, nt H, none⟩) h N i _ h1).2 with ⟨d, z⟩ | z <;> cases z
theorem SR.out {R H R' H' : Hp} {δ : Option Addr} {ρ : PE0} {σ : L2.St} (S : SR G ⟨R, nt H, δ⟩ R' ρ σ H') (x : Ext R R') : After G δ R H R' H' :=
  ⟨x, S.sub, S.dat, S.lens, fun a o h d n => S.kept a o (nt_of h n) d n, fun a h => S.there a h, S.tabs, fun a h => S.old a h⟩
theorem okP {x : Str} {s : Stmt} {f : Addr} {N ps : List Str} {np k : Nat} {m : MS} (F : ∃ fd, FunD G.K x x (defArgs s) (defBody s) (defScope s) [] [] f fd) (gm : G.mg x = some (.ref f)) (S : FnScope N ps (defScope s))
    (hb : ∀ (kV doc pm : Value) (an : Option Addr) (cdv ct : Value) (us : List Value), us.length = ps.length → bindArgs (PySem.W.fnOf x x (defArgs s) (defBody s) (defScope s) .none kV doc pm an cdv ct) ⟨us, []⟩ = pure (ps.zip us))
    (hnp : ps.length = np) (hN : np ≤ N.length) (d : ∀ E, CSs (fX G N x (defScope s) f k E) G (WK E) (defBody s) m) : PrF G (k + 1) x s f ps (spP G np (fnP N.length m)) := by
  obtain ⟨fd, F⟩ := F
  have hbn := F.bindsN hb
  refine ⟨⟨fd, F, ?_, hbn⟩, gm⟩
  obtain ⟨oc, od, dV, kV, doc, pm, an, cdv, ct, osl, rfl, lk, hcd, _, _⟩ := F.ex
  refine fn_of lk hcd S (fun vs H Q E h => by rw [hnp]; exact h.1) fun A outer s0 H vs Q E hr h => ?_
  obtain ⟨t, hp, hi⟩ := d E
  obtain ⟨hl, R, ds, St, q, h⟩ := h
  refine ⟨t, hp ⟨cdv, ⟨oc, od, _, osl, lk, rfl⟩, A, outer, s0, H, hr⟩, ?_⟩
  have S0 := sr0 (N := N) St q (by rw [q.length, hl]; exact hN)
  refine hi _ R _ _ H S0 _ ?_
  unfold fnP at h
  cases e : m (ps0 N.length ds) with
  | nx ρ => rw [e] at h; exact fun σ' R' H' S' xx => h _ R' H' (S'.out xx) (dq_none.mpr rfl)
  | rt d ρ => rw [e] at h; exact fun v σ' R' H' S' xx qd => h v R' H' (S'.out xx) qd
  | ex n ρ => rw [e] at h; exact fun dx σ' R' H' S' xx hx => h dx R' H' (S'.out xx) hx
  | rto w ρ => rw [e] at h; exact False.elim h
  | bk ρ => rw [e] at h; exact False.elim h
  | ct ρ => rw [e] at h; exact False.elim h
  | bad => rw [e] at h; exact False.elim h
/-- a def that draws -/
theorem srD {R H : Hp} {N : List Str} {c ds : List D} {a : Addr} {xs vs : List V} (S : Start G R H) (ha : R a = none) (hH : H a = some (.lst xs)) (hc : DqA G.K R c xs) (h : DqA G.K R ds vs) (hl : ds.length + 1 ≤ N.length) : SR G ⟨R, nt H, some a⟩ R (psD N.length c ds) (L2.start N (.ref a :: vs)) H := by
  have e0 : psD N.length c ds = Sl.dice c :: ps0 (N.length - 1) ds := by
    unfold psD ps0
    rw [Nat.sub_add_eq, Nat.sub_right_comm]
    rfl
  have e1 : L2.start N (.ref a :: vs) = some (.ref a) :: L2.start (N.drop 1) vs := by
    unfold L2.start
    rw [List.map_cons, List.length_cons, List.length_drop, Nat.sub_add_eq, Nat.sub_right_comm]
    rfl
  have at_ : ∀ (i : Nat) (s : Sl), (psD N.length c ds)[i]? = some s → (i = 0 ∧ s = .dice c) ∨ (∃ j, i = j + 1 ∧ SlOk G ⟨R, nt H, some a⟩ R H s ((L2.start (N.drop 1) vs)[j]?) ∧ ((∃ d, s = .v d) ∨ s = .un)) := fun i s e => by
    rw [e0] at e
    cases i with
    | zero => cases e; exact .inl ⟨rfl, rfl⟩
    | succ i => exact .inr ⟨i, rfl, ps0_sl h (N.drop 1) i s e⟩
  refine ⟨S.sub, S.dat, S.lens, fun a o h _ _ => (nt_some h).1, fun a h => h, S.tabs, fun a h => .inl h, fun b hb => ?_, S.nt, ?_, fun i s e => ?_, fun i j w w' b _ h1 _ _ _ => ?_, fun i j d d' h1 h2 => ?_⟩
  · cases hb; exact ⟨ha, nt_ne hH (plain_lst xs).1⟩
  · rw [e0, List.length_cons, ps0_len (by omega), start_len (by rw [List.length_cons, ← h.length]; exact hl)]
    omega
  · rcases at_ i s e with ⟨rfl, rfl⟩ | ⟨j, rfl, z, _⟩
    · rw [e1]; exact ⟨a, xs, rfl, rfl, ha, hH, hc⟩
    · rw [e1]; exact z
  · rcases at_ i _ h1 with ⟨_, z⟩ | ⟨j, _, _, ⟨d, z⟩ | z⟩ <;> cases z
  · rcases at_ i _ h1 with ⟨z1, _⟩ | ⟨j, _, _, ⟨d, z⟩ | z⟩
    · rcases at_ j _ h2 with ⟨z2, _⟩ | ⟨j, _, _, ⟨d, z⟩ | z⟩
      · rw [z1, z2]
      · cases z
      · cases z
    · cases z
    · cases z
theorem dice_out {R H R' H' : Hp} {a : Addr} {ρ : PE0} {σ : L2.St} {c : List D} (S : SR G ⟨R, nt H, some a⟩ R' ρ σ H') (e : diceAt 0 ρ = some c) : ∃ xs, H' a = some (.lst xs) ∧ DqA G.K R' c xs := by
  obtain ⟨b, xs, _, h1, _, h3, h4⟩ := S.sl 0 _ (diceAt_eq e)
  cases h1
  exact ⟨xs, h3, h4⟩
theorem okD {x : Str} {s : Stmt} {f : Addr} {N ps : List Str} {np k : Nat} {m : MS} (F : ∃ fd, FunD G.K x x (defArgs s) (defBody s) (defScope s) [] [] f fd) (gm : G.mg x = some (.ref f)) (S : FnScope N ps (defScope s))
    (hb : ∀ (kV doc pm : Value) (an : Option Addr) (cdv ct : Value) (us : List Value), us.length = ps.length → bindArgs (PySem.W.fnOf x x (defArgs s) (defBody s) (defScope s) .none kV doc pm an cdv ct) ⟨us, []⟩ = pure (ps.zip us))
    (hnp : ps.length = np + 1) (hN : np + 1 ≤ N.length) (d : ∀ E, CSs (fX G N x (defScope s) f k E) G (WK E) (defBody s) m) : PrF G (k + 1) x s f ps (spD G np (fnD N.length m)) := by
  obtain ⟨fd, F⟩ := F
  have hbn := F.bindsN hb
  refine ⟨⟨fd, F, ?_, hbn⟩, gm⟩
  obtain ⟨oc, od, dV, kV, doc, pm, an, cdv, ct, osl, rfl, lk, hcd, _, _⟩ := F.ex
  refine fn_of lk hcd S (fun vs H Q E h => by rw [hnp]; exact h.1) fun A outer s0 H vs Q E hr h => ?_
  obtain ⟨t, hp, hi⟩ := d E
  obtain ⟨hl, R, a, xs, c, vr, ds, rfl, ha, hH, hc, St, q, h⟩ := h
  refine ⟨t, hp ⟨cdv, ⟨oc, od, _, osl, lk, rfl⟩, A, outer, s0, H, hr⟩, ?_⟩
  rw [List.length_cons] at hl
  have S0 := srD (N := N) St ha hH hc q (by rw [q.length]; omega)
  refine hi _ R _ _ H S0 _ ?_
  unfold fnD at h
  cases e : m (psD N.length c ds) with
  | nx ρ =>
    rw [e] at h
    cases e2 : diceAt 0 ρ with
    | none => unfold outD at h; dsimp only at h; rw [e2] at h; exact False.elim h
    | some c' =>
      unfold outD at h; dsimp only at h; rw [e2] at h
      exact fun σ' R' H' S' xx => let ⟨ys, h1, h2⟩ := dice_out S' e2; h _ R' H' ys (S'.out xx) h1 h2 (dq_none.mpr rfl)
  | rt d ρ =>
    rw [e] at h
    cases e2 : diceAt 0 ρ with
    | none => unfold outD at h; dsimp only at h; rw [e2] at h; exact False.elim h
    | some c' =>
      unfold outD at h; dsimp only at h; rw [e2] at h
      exact fun v σ' R' H' S' xx qd => let ⟨ys, h1, h2⟩ := dice_out S' e2; h v R' H' ys (S'.out xx) h1 h2 qd
  | ex n ρ =>
    rw [e] at h
    cases e2 : diceAt 0 ρ with
    | none => unfold outD at h; dsimp only at h; rw [e2] at h; exact False.elim h
    | some c' =>
      unfold outD at h; dsimp only at h; rw [e2] at h
      exact fun dx σ' R' H' S' xx hx => let ⟨ys, h1, h2⟩ := dice_out S' e2; h dx R' H' ys (S'.out xx) h1 h2 hx
  | rto w ρ => rw [e] at h; exact False.elim h
  | bk ρ => rw [e] at h; exact False.elim h
  | ct ρ => rw [e] at h; exact False.elim h
  | bad => rw [e] at h; exact False.elim h
/-- a promise that nobody asks for -/
theorem okN {x : Str} {s : Stmt} {f : Addr} {ps : List Str} {k : Nat} {sp : Sp} (F : ∃ fd, FunD G.K x x (defArgs s) (defBody s) (defScope s) [] [] f fd) (gm : G.mg x = some (.ref f))
    (hb : ∀ (kV doc pm : Value) (an : Option Addr) (cdv ct : Value) (us : List Value), us.length = ps.length → bindArgs (PySem.W.fnOf x x (defArgs s) (defBody s) (defScope s) .none kV doc pm an cdv ct) ⟨us, []⟩ = pure (ps.zip us))
    (h : ∀ vs H Q E, ¬ sp vs H Q E) : PrF G k x s f ps sp := by
  obtain ⟨fd, F⟩ := F
  exact ⟨⟨fd, F, ⟨fun vs H Q E z => (h _ _ _ _ z).elim, fun A outer s H args us vs Q E hr e b r z => (h _ _ _ _ z).elim⟩, F.bindsN hb⟩, gm⟩
theorem spP_bad {np : Nat} : ∀ vs H Q E, ¬ spP G np (fun _ => .bad) vs H Q E := fun vs H Q E h => h.2.elim fun _ h => h.elim fun _ h => h.2.2
theorem spD_bad {np : Nat} : ∀ vs H Q E, ¬ spD G np (fun _ _ => .bad) vs H Q E := fun vs H Q E h => by
  obtain ⟨_, _, _, _, _, _, _, _, _, _, _, _, _, z⟩ := h
  exact z
end
end Pm

/-! Pm11: the program's own error, made by its own __init__ over super().__init__. -/
namespace Pm
open PySem PySem.W PySem.Calls PyProof.Rows PySem.HandSPX
def bA : Arguments := { posonlyargs := [], args := [{ arg := "self", annotation := none, pos := ⟨6, 17, 6, 21⟩ }, { arg := "name", annotation := none, pos := ⟨6, 23, 6, 27⟩ }], vararg := none, kwonlyargs := [], kw_defaults := [], kwarg := none, defaults := [] }
def bB : List Stmt :=
  [.Expr (.Call (.Attribute (.Call (.Name "super" ⟨7, 8, 7, 13⟩) [] [] ⟨7, 8, 7, 15⟩) "__init__" ⟨7, 8, 7, 24⟩) [.Name "name" ⟨7, 25, 7, 29⟩] [] ⟨7, 8, 7, 30⟩) ⟨7, 8, 7, 30⟩, .Assign [.Attribute (.Name "self" ⟨8, 8, 8, 12⟩) "name" ⟨8, 8, 8, 17⟩] (.Name "name" ⟨8, 20, 8, 24⟩) ⟨8, 8, 8, 24⟩]
def bS : Scope := { kind := .function, names := [(PySem.Str.ofString "self", .local), (PySem.Str.ofString "name", .local), (PySem.Str.ofString "__class__", .free), (PySem.Str.ofString "super", .globalImplicit)], isGenerator := false, isCoroutine := false, more := [] }
structure BadTxt (P : Program) (K : Frag) (mg : Str → Option Value) (C : Addr) : Prop where
  gC : mg "BadArgument" = some (.ref C)
  gS : mg "super" = none
  top : (P.main.scope.names.lookup ("super" : Str)).isSome = false
  cls : ∃ nm q N bs bm sn sub ab col dd k0 k1 k2 k3 k5, K.lookup C = some (excClassObj nm q C N bs bm true sn sub ab col dd k0 k1 k2 k3 k5 "ValueError.__new__") ∧ refsVE bm = true
  sa : findIn K (.ref C) "__setattr__" = some (some (.builtin "object.__setattr__"))
  ga : findIn K (.ref C) "__getattribute__" = some (some (.builtin "BaseException.__getattribute__"))
  gg : findIn K (.ref C) "__getattr__" = some none
  noN : findIn K (.ref C) "name" = some none
  kC : keepIn K (.ref C) = true
  exC : subIn K (.ref C) (.type "BaseException") = some true
  tyC : typeIn K (.ref C) = some (.type "type")
  hdC : hasDictIn K C = true
  te : exmOne K (.ref C) (.ref C) = some true
  st : nsIn K cStatics "thirdparty.any" = some none
  sup : ks_superIn K C C "__init__" = some (some (.builtin "ValueError.__init__"))
  ve : subIn K (.ref C) (.type "ValueError") = some true
  slf : mroIn K C (.ref C) = some true
  fn : ∃ fI, findIn K (.ref C) "__init__" = some (some (.ref fI)) ∧ typeIn K (.ref fI) = some (.type "function") ∧
    ∃ (oc : Value) (od : Option Addr) (doc pm : Value) (an : Option Addr) (cda : Addr) (ct : Value) (cc : Addr) (osl : Array (Option Value)),
      K.lookup fI = some ⟨oc, od, .func (ksFn "__init__" "BadArgument.__init__" bA bB bS .none .none doc pm an (.ref cda) ct cc), osl⟩ ∧ codeIn K (.ref cda) "BadArgument.__init__" = true ∧
      (∃ (ccl : Value) (cdd : Option Addr) (vs : Array Value) (ccs : Array (Option Value)) (file : Str) (tf : Tok), K.lookup cda = some ⟨ccl, cdd, .fields vs, ccs⟩ ∧ vs[2]? = some (.str file tf) ∧ ((P.main.file : Str) == file) = true) ∧
      ∃ (cl : Value) (cld : Option Addr) (csl : Array (Option Value)), K.lookup cc = some ⟨cl, cld, .cell (some (.ref C)), csl⟩
/-- what __init__ leaves -/
structure BadEnd (h h' : Heap) (x C dx t1 : Addr) (v : Value) : Prop where
  keep : ∀ b o, b ≠ x → h.get? b = some o → h'.get? b = some o
  obj : h'.get? x = some { cls := .ref C, dict := some dx, data := .fields #[.ref t1, .none, .none, .none, .bool false, .none] }
  dbig : h.objs.size ≤ dx
  dne : dx ≠ x
  ns : h'.Ns1 dx (fun y => if y = "name" then some v else none)
structure BadMade (h h' : Heap) (e C d : Addr) (v : Value) : Prop where
  keep : ∀ b o, h.get? b = some o → h'.get? b = some o
  new : h.objs.size ≤ e
  obj : ∃ oe vs, h'.get? e = some oe ∧ oe.cls = .ref C ∧ oe.dict = some d ∧ oe.data = .fields vs ∧ vs[1]? = some .none
  dbig : h.objs.size ≤ d
  dne : d ≠ e
  ns : h'.Ns1 d (fun y => if y = "name" then some v else none)
theorem in_but {K : Frag} {h h' : Heap} {x : Addr} (X : K.In h) (hx : K.lookup x = none) (k : ∀ b o, b ≠ x → h.get? b = some o → h'.get? b = some o) : K.In h' := fun a o e =>
  k a o (fun z => by rw [z, hx] at e; cases e) (X a o e)
theorem one_ok (v : Value) : [v].length ≤ sizeLine := by rw [sizeLine_eq]; exact (by decide : 1 ≤ 16777216)
section
variable {prog : Program} {w : World} {A : Around} {E : Value → Shared → Prop} {R : Result → Shared → Prop} {K : Frag} {mg : Str → Option Value} {C : Addr}
/-- super().__init__ called, bound to x -/
theorem mw_call {h : Heap} {g : Array GenState} {d : Drawn} {t : Nat} {os : OsState} {nm q : Str} {N : Addr} {bs bm : List Value} {hdct : Bool} {sn : List Str} {sub : List Value} {ab : Bool} {col : Option Bool} {dd : Option Addr} {k0 k1 k2 k3 k5 : Option Value}
    {u x t0 : Addr} {rest : List Value} {Q : Value → Shared → Prop} (hC : h.get? C = some (excClassObj nm q C N bs bm hdct sn sub ab col dd k0 k1 k2 k3 k5 "ValueError.__new__")) (he : h.get? x = some (excO C t0)) (hu : h.get? u = some (kxs_mw "ValueError.__init__" x)) (hz : rest.length ≤ sizeLine)
    (hq : ∀ h' t1, (∀ b o, b ≠ x → h.get? b = some o → h'.get? b = some o) → h'.get? x = some (excO C t1) → Q .none ⟨h', g, d, t, os⟩) : wpAny (model prog w) A (call (.ref u) rest) Q E ⟨h, g, d, t, os⟩ := by
  refine wpAny_call (codeAny_of_tree ?_)
  show wpAny _ A.in1 (callAny (.ref u) ⟨rest, []⟩) _ _ _
  simp only [callAny]
  refine wpAny_bind (wpAny_load hu ?_)
  simp only [kxs_mw, show (Value.type "method-wrapper" == Value.type "method" || Value.type "method-wrapper" == Value.type "builtin_function_or_method" || Value.type "method-wrapper" == Value.type "method-wrapper") = true by decide, if_true]
  refine KFB.if_so (by decide) (wpAny_bind (check_bound_init F.excBase_ValueError.toExcCallFacts hC he rfl ?_))
  refine wpAny_bind (wpAny_pure (wpAny_pure ⟨plainId_quiet F.excBase_ValueError.init.plain _, codeAny_builtin F.excBase_ValueError.initEntry ?_⟩))
  exact exc_init_tree (cls := .ref C) (t0 := t0) (dv := none) (c2 := .none) (c3 := .none) (b4 := .bool false) he hz fun h' k e' _ => hq h' _ k e'
theorem bad_init (T : BadTxt prog K mg C) {fI : Addr} (hfI : findIn K (.ref C) "__init__" = some (some (.ref fI))) {s : Shared} {x t0 : Addr} {v : Value} (X : K.In s.heap) (hlim : s.heap.NoLimit) (hg : s.heap.Ns mainGlobals mg) (hb : ∃ mb, s.heap.Ns builtinsNs mb ∧ ∀ x : Str, x ≠ "__name__" → mb x = bootBuiltins x)
    (hx : s.heap.get? x = some (excO C t0)) (hxC : x ≠ C) (hnx : K.lookup x = none) (hroom : A.depth < recursionLimit)
    (hq : ∀ h' tk dx t1, BadEnd s.heap h' x C dx t1 v → R (.ok (.ret .none)) { s with heap := h', toks := tk }) : codeAny (model prog w) A (.call (.ref fI) ⟨[.ref x, v], []⟩) R s := by
  obtain ⟨fI', e1, tI, oc, od, doc, pm, an, cda, ct, cc, osl, ho, hcd, ⟨ccl, cdd, vs, ccs, file, tf, hcode, hvs, hfile⟩, cl, cld, csl, hcell⟩ := T.fn
  obtain rfl : fI' = fI := by rw [hfI] at e1; cases e1; rfl
  obtain ⟨nm, q, N, bs, bm, sn, sub, ab, col, dd, k0, k1, k2, k3, k5, hC, hbm⟩ := T.cls
  have hcl : clsIn K C = some { name := nm, bases := bs, mro := .ref C :: bm, ns := N, qualname := q, hasDict := true, slotNames := sn, subclasses := sub, abstract := ab, collection := col, hasDel := false } := by unfold clsIn; rw [hC] <;> rfl
  obtain ⟨mb, hb1, hb2⟩ := hb
  have hxl := Heap.lt_size hx
  refine ks_codeAny_call_defAt (fd := ksFn "__init__" "BadArgument.__init__" bA bB bS .none .none doc pm an (.ref cda) ct cc) (binds := [("self", .ref x), ("name", v)]) hroom (X _ _ ho) rfl hlim (codeRec_of X hcd) rfl (BindsTo.of_eq rfl)
    (show ∀ y ∈ bS.names, y.2 ≠ .cell by decide +kernel) (fun y hy => ?_) (fun h₁ hns hk₁ => ?_) rfl rfl rfl
  · have hy' : y = (("self" : Str), Value.ref x) ∨ y = (("name" : Str), v) := by simpa using hy
    rcases hy' with z | z
    · rw [z]; rfl
    · rw [z]; rfl
  show PySem.wpAt (model prog w) _ _ (execs bB (ksEnv "BadArgument.__init__" bS s.heap.objs.size fI' (.ref cda) cc)) _ _ _
  have X₁ : K.In h₁ := X.keeps hk₁
  have hx₁ := hk₁ _ _ hx
  have hC₁ := X₁ _ _ hC
  refine ks_wpAt_execs_cons (ks_wpAt_Expr_any (ks_wpAt_MethodCall ?_))
  refine ks_wpAt_super_base (env := ksEnv "BadArgument.__init__" bS s.heap.objs.size fI' (.ref cda) cc) rfl rfl (by decide) rfl (X₁ _ _ ho) rfl rfl rfl (X₁ _ _ hcode) rfl hvs hfile T.top ?_
  refine ks_loadName_global rfl rfl (loadGlobal_builtin (env := ksEnv "BadArgument.__init__" bS s.heap.objs.size fI' (.ref cda) cc) (hg.keeps hk₁) T.gS (hb1.keeps hk₁) ((hb2 _ (by decide)).trans (by first | rfl | boot_by_name | kernel_rfl)) ⟨rfl, ?_⟩)
  refine wpAny_loadName_free rfl rfl rfl ⟨_, X₁ _ _ hcell, rfl⟩ ?_
  refine wpAny_loadName_local rfl rfl hns (v := .ref x) (by first | rfl | with_unfolding_all rfl | kernel_rfl) ?_
  refine ks_wpAny_isType_cls hC₁ rfl ⟨rfl, ?_⟩
  refine ks_wpAny_call_super hC₁ rfl hx₁ rfl (fun c z => by cases z) (looks_mroIn X₁ T.slf) (fun h₂ hso hk₂ => ?_)
  have X₂ : K.In h₂ := X₁.keeps hk₂
  have hx₂ := hk₂ _ _ hx₁
  have I₂ : InstAt h₂ x (excO C t0) C none := ⟨hx₂, rfl, rfl, trivial⟩
  refine kxs_getMethod kxs_ValueError hso (looks_opaque X₂ T.st) (l₀ := .ref C :: bm) (fun A Q E s k z => wpAny_bind ((looks_clsIn X₂ hcl) A _ E s k (wpAny_pure z))) rfl X₂
    (by have z := T.sup; unfold ks_superIn at z; rw [hcl] at z; exact z) (I₂.type.andThen (looks_subIn X₂ T.ve)) hxC (by decide) ?_
  have k₃ : ∀ b o, h₂.get? b = some o → (h₂.push (kxs_mw "ValueError.__init__" x)).get? b = some o := fun b o z => Heap.get?_push_of_some _ z
  have hu : (h₂.push (kxs_mw "ValueError.__init__" x)).get? h₂.objs.size = some (kxs_mw "ValueError.__init__" x) := Heap.get?_push_at rfl rfl
  have hns₃ : (h₂.push (kxs_mw "ValueError.__init__" x)).Ns s.heap.objs.size (fun y => ([("self", .ref x), ("name", v)] : List (Str × Value)).reverse.lookup y) := (hns.keeps hk₂).keeps k₃
  have he : starEach [.Name "name" ⟨7, 25, 7, 29⟩] (ksEnv "BadArgument.__init__" bS s.heap.objs.size fI' (.ref cda) cc) = (false, eval (.Name "name" ⟨7, 25, 7, 29⟩) (ksEnv "BadArgument.__init__" bS s.heap.objs.size fI' (.ref cda) cc)) :: [] := rfl
  rw [he]
  refine kxs_callWith (i := "ValueError.__init__") (x := x) rfl ?_
  refine evalArgs_plain (spliced_cons ?_)
  refine wpAny_Name (wpAny_loadName_local rfl rfl hns₃ (v := v) (by first | rfl | with_unfolding_all rfl | kernel_rfl) ?_) (by decide)
  refine spliced_nil ⟨hu, ?_⟩
  have hx₃ := k₃ _ _ hx₂
  obtain ⟨hp, g, d, t, os⟩ := s
  refine mw_call (k₃ _ _ (X₂ _ _ hC)) hx₃ hu (one_ok v) fun h₄ t1 k₄ hx₄ => ?_
  have hLx : hp.objs.size ≠ x := Nat.ne_of_gt hxl
  have X₄ : K.In h₄ := in_but (X₂.keeps k₃) hnx k₄
  have hns₄ : h₄.Ns hp.objs.size (fun y => ([("self", .ref x), ("name", v)] : List (Str × Value)).reverse.lookup y) := hns₃.at fun o z => k₄ _ _ hLx z
  show PySem.wpAt (model prog w) _ _ (execs _ (ksEnv "BadArgument.__init__" bS hp.objs.size fI' (.ref cda) cc)) _ _ _
  refine ks_wpAt_execs_cons (wpAt_of_wpAny (plainObj_wpAny_Assign_Attribute ?_))
  refine wpAny_Name (wpAny_loadName_local rfl rfl hns₄ (v := v) (by first | rfl | with_unfolding_all rfl | kernel_rfl) ?_) (by decide)
  refine wpAny_Name (wpAny_loadName_local rfl rfl hns₄ (v := .ref x) (by first | rfl | with_unfolding_all rfl | kernel_rfl) ?_) (by decide)
  refine set_plain X₄ (ox := excO C t1) (od := none) ⟨hx₄, rfl, rfl, trivial⟩ T.sa ?_
  refine exc_osa X₄ hx₄ hcl (show refsVE (.ref C :: bm) = true from hbm) rfl T.noN (fun h₅ tk₅ dx k₅ dn dne hx₅ hn₅ => ?_)
  show PySem.wpAt (model prog w) _ _ (execs [] (ksEnv "BadArgument.__init__" bS hp.objs.size fI' (.ref cda) cc)) _ _ _
  refine wpAt_of_wpAny (wpAny_execs_nil ?_)
  have old : ∀ b o, b ≠ x → hp.get? b = some o → h₅.get? b = some o := fun b o hb z => k₅ b o hb (k₄ b o hb (k₃ _ _ (hk₂ _ _ (hk₁ _ _ z))))
  refine hq h₅ tk₅ dx t1 ⟨old, hx₅, ?_, dne, hn₅⟩
  obtain ⟨oL, _, _, eL, _⟩ := hns₄
  exact Nat.le_of_lt (Nat.lt_of_lt_of_le (Heap.lt_size eL) dn)
theorem bad_made (T : BadTxt prog K mg C) {s : Shared} {v : Value} (X : K.In s.heap) (hlim : s.heap.NoLimit) (hg : s.heap.Ns mainGlobals mg) (hb : ∃ mb, s.heap.Ns builtinsNs mb ∧ ∀ x : Str, x ≠ "__name__" → mb x = bootBuiltins x)
    (hroom : A.depth + 1 < recursionLimit) (hq : ∀ h' tk e d, BadMade s.heap h' e C d v → R (.ok (.ret (.ref e))) { s with heap := h', toks := tk }) : codeAny (model prog w) A (.call (.ref C) ⟨[v], []⟩) R s := by
  obtain ⟨fI, hfI, tI, _⟩ := T.fn
  obtain ⟨nm, q, N, bs, bm, sn, sub, ab, col, dd, k0, k1, k2, k3, k5, hC, hbm⟩ := T.cls
  obtain ⟨hp, g, dr, tk, os⟩ := s
  have k : ∀ b o, hp.get? b = some o → ((hp.push (kdv_tup [v])).push (excO C hp.objs.size)).get? b = some o := fun b o e => Heap.get?_push_of_some _ (Heap.get?_push_of_some _ e)
  have hget : ((hp.push (kdv_tup [v])).push (excO C hp.objs.size)).get? (hp.objs.size + 1) = some (excO C hp.objs.size) := by heap_get
  have big : ∀ {a : Addr} {o : Obj}, K.lookup a = some o → a < hp.objs.size := fun e => Heap.lt_size (X _ _ e)
  have hnx : K.lookup (hp.objs.size + 1) = none := by
    cases e : K.lookup (hp.objs.size + 1) with
    | none => rfl
    | some o => exact absurd (Nat.lt_of_succ_lt (big e)) (Nat.lt_irrefl _)
  have hxC : hp.objs.size + 1 ≠ C := fun z => by
    have y := big hC
    rw [← z] at y
    exact absurd (Nat.lt_of_succ_lt y) (Nat.lt_irrefl _)
  refine call_own F.excBase_ValueError (fun X => refsVE_contains X bm hbm) (X _ _ hC) (looks_findIn X hfI) (fun self => bind_fn X self tI) (one_ok v) ?_
  refine bad_init (s := ⟨(hp.push (kdv_tup [v])).push (excO C hp.objs.size), g, dr, tk, os⟩) T hfI (X.keeps k) (hlim.keeps k) (hg.keeps k) (hb.imp fun mb h => ⟨h.1.keeps k, h.2⟩) hget hxC hnx ?_ fun h' tk' dx t1 ⟨k', hx, dn, dne, hns⟩ => ?_
  · show A.depth + 1 < recursionLimit
    exact hroom
  · have old : ∀ b o, hp.get? b = some o → h'.get? b = some o := fun b o e => k' b o (Nat.ne_of_lt (Nat.lt_succ_of_lt (Heap.lt_size e))) (k b o e)
    have z : hp.objs.size + 1 + 1 ≤ dx := by
      have q := dn
      rw [show (Shared.heap ⟨(hp.push (kdv_tup [v])).push (excO C hp.objs.size), g, dr, tk, os⟩) = (hp.push (kdv_tup [v])).push (excO C hp.objs.size) from rfl, Heap.size_push, Heap.size_push] at q
      exact q
    exact ⟨rfl, hq h' tk' (hp.objs.size + 1) dx ⟨old, Nat.le_succ _, ⟨_, _, hx, rfl, rfl, rfl, rfl⟩, Nat.le_trans (Nat.le_trans (Nat.le_succ _) (Nat.le_succ _)) z, dne, hns⟩⟩
end
end Pm
namespace Pm
open PySem PySem.Spec PyProof.Rows L2
theorem relO_bad {v : V} {v' : Value} (r : RelV v v') (f : Str) : RelO (List.lookup f [(("name" : Str), v)]) (if f = "name" then some v' else none) := by
  rw [lookup_put]
  by_cases hw : f = "name"
  · rw [if_pos hw, if_pos hw]; exact r
  · rw [if_neg hw, if_neg hw]; trivial
/-- BadArgument(e) -/
def tMkBad (C : Addr) (ta : TA) : L2.St → Hp → XK → Prop := fun σ H Q => ta σ H fun vs H1 => ∃ v, vs = [v] ∧ ∀ d, H1 d = none → Q (.ref C) (some d) (upd H1 d (.xd [(("name" : Str), v)]))
theorem pmk_bad {X : Cx} {C : Addr} {a : Expr} {ta : TA} {p pos : Pos} {k : Nat} (T : BadTxt X.prog X.K X.mg C) (hr : Room k X.A) (ha : PA X [a] ta) (hg : Gl X "BadArgument" := by rfl)
    (he : starEach (a :: []) X.env = (false, eval a X.env) :: starEach [] X.env := by rfl) (hpl : (backTo pos (starEach [] X.env)).any (·.1) = false := by rfl) : PMk X (.Call (.Name "BadArgument" p) [a] [] pos) (tMkBad C ta) := by
  intro pins s σ H Q I h
  refine wpAny_Call_Name_kw (ld_glob I hg T.gC ?_)
  refine PySem.W.callWith_K (h₀ := X.base) I.ok.mod.kin T.kC (thn (ha.run pos pins s σ H _ I h) fun us s1 hh => ?_) he hpl
  obtain ⟨vs, H1, I1, r1, v, rfl, q1⟩ := hh
  refine ⟨I1.kIn, ?_⟩
  obtain ⟨v', rfl, rv⟩ := vals1 r1
  show wpAny _ _ (call (.ref C) [v']) _ _ _
  have hlim := I1.nolimit
  have hgl := I1.ok.mod.glob.keeps I1.bk
  have hbl : ∃ mb, s1.heap.Ns builtinsNs mb ∧ ∀ x : Str, x ≠ "__name__" → mb x = bootBuiltins x := I1.ok.mod.blt.imp fun mb h => ⟨h.1.keeps I1.bk, h.2⟩
  obtain ⟨hp, g, dr, tk, os⟩ := s1
  refine wpAny_call (bad_made T I1.kIn hlim hgl hbl (by have := hr.dp; omega) fun h' tk' e d M => ?_)
  show MkP X pins σ Q (.ref e) ⟨h', g, dr, tk', os⟩
  obtain ⟨oe, fv, hoe, hc, hd, hdat, h1⟩ := M.obj
  have hns := M.ns
  obtain ⟨G', g1, g2⟩ := restrict h' fun b => decide (b ≠ e)
  have gk : ∀ b, b ≠ e → G'.get? b = h'.get? b := fun b hb => g1 b (decide_eq_true hb)
  have ge : G'.get? e = none := g2 e (by simp)
  have J : Inv X pins σ (upd H1 d (.xd [(("name" : Str), v)])) ⟨G', g, dr, tk', os⟩ := I1.laid (t' := tk') (fun b o q => (gk b (Nat.ne_of_lt (Nat.lt_of_lt_of_le (Heap.lt_size q) M.new))).trans (M.keep b o q)) M.dbig ⟨_, hns.at (fun o q => (gk d M.dne).trans q), fun f => relO_bad rv f⟩
  refine ⟨e, oe, fv, ⟨G', g, dr, tk', os⟩, _, .ref C, some d, rfl, J, fun b o q => ?_, ge, hoe, ⟨hc, hd⟩, hdat, h1, ?_, rfl, I1.bare, raises_own T.exC T.tyC, q1 d (I1.hok.fresh M.dbig)⟩
  · by_cases hb : b = e
    · have q' : G'.get? b = some o := q
      rw [hb, ge] at q'; cases q'
    · exact (gk b hb).symm.trans q
  · rw [upd_ne (Ne.symm M.dne)]
    exact I1.hok.fresh M.new
section
variable {ι : Type} {𝒳 : ι → Cx} {G : Gx} {k : Nat} {W : WX}
def mRaise (m : ME) : MS := fun ρ => Fl.of (m ρ) fun d ρ1 => match d with
  | .str x => .ex x ρ1
  | _ => .bad
theorem sRaise {a : Expr} {m : ME} {p cpos pos : Pos} (fm : Fm G k 𝒳) (fs : Fs 𝒳 W) (T : BadTxt G.P G.K G.mg G.C) (h : CE 𝒳 G a m) (hg : ∀ i, Gl (𝒳 i) "BadArgument" := by intro _; rfl)
    (he : ∀ i, starEach (a :: []) (𝒳 i).env = (false, eval a (𝒳 i).env) :: starEach [] (𝒳 i).env := by intro _; rfl) (hpl : ∀ i, (backTo cpos (starEach [] (𝒳 i).env)).any (·.1) = false := by intro _; rfl) :
    CS 𝒳 G W (.Raise (some (.Call (.Name "BadArgument" p) [a] [] cpos)) none pos) (mRaise m) := by
  obtain ⟨t, hp, hi, _⟩ := aCons h aNil he
  refine ⟨_, fun i => ps_raise (fm.calm i) (fs.tk i) (pmk_bad (C := G.C) (by rw [fm.prog i, fm.K i, fm.mg i]; exact T) (fm.room i) (hp i) (hg i) (he i) (hpl i)), fun Φ R ρ σ H S D h => ?_⟩
  obtain ⟨d, ρ1, e1, h⟩ := EndOk.of h
  cases d with
  | str x =>
    refine hi Φ R ρ σ H [.str x] ρ1 S (by unfold mCons; rw [e1]; rfl) _ fun vs R1 H1 S1 x1 q1 => ?_
    obtain ⟨y, rfl, qy⟩ := dqa1 q1
    cases dq_str.mp qy
    exact ⟨_, rfl, fun dx ndx => h dx σ R1 _ (S1.made ndx) x1 upd_same⟩
  | _ => exact False.elim h
end
end Pm

/-! Pm12: what is refused: a lambda given to a def that calls it and tells the error's name. -/
namespace Pm
open PySem PySem.Spec PyProof.Rows L2
theorem After.lam {G : Gx} {R H H1 : Hp} (S : Start G R H) (e : LamX.ExtN H H1) (t : LamX.Tabs G.T H1) : After G none R H R H1 :=
  ⟨Ext.refl R, fun a o h => e a o (S.sub a o h) (fun ps z => S.dat a ps (by rw [h, z])), S.dat, S.lens, fun a o h _ n => e a o h n, fun a h => by
    cases q : nt H a with
    | none => exact absurd q h
    | some o => obtain ⟨h1, h2⟩ := nt_some q; exact nt_ne (e a o h1 h2) h2, t, fun a h => .inl h⟩
theorem Takes.len {X : Cx} {W : WX} (t : Takes X W) : Takes X (fun c d σ H => σ.length = X.N.length → W c d σ H) := fun u s' ⟨a, B, sI, pins, σ, H, cls, d, e, I, nb, up, sky, na, os, ag, w⟩ =>
  t u s' ⟨a, B, sI, pins, σ, H, cls, d, e, I, nb, up, sky, na, os, ag, w I.len⟩
def TTref (C : Addr) : (XK → Hp → VK → Prop) → Hp → VK → Prop := fun tl H Q => tl (fun cls d H' => cls = .ref C ∧ ∃ dd x, d = some dd ∧ excAt H' dd x ∧ Q (.str x) H') H fun _ H' => Q (.str "") H'
def refB (p1 p2 p3 p4 p5 p6 p7 p8 p9 p10 p11 : Pos) (j : Nat) : List Stmt :=
  [.Try [.Expr (.Call (.Name "call" p1) [] [] p2) p3] [.ExceptHandler (some (.Name "BadArgument" p4)) (some "e") [.Return (some (.Attribute (.Name "e" p5) "name" p6)) p7] p8] [] [] p9, .Return (some (.Constant (.str "") j p10)) p11]
theorem refused_gives {X : Cx} {x q : Str} {sg : Scope} {g C : Addr} {cdg : Value} {p1 p2 p3 p4 p5 p6 p7 p8 p9 p10 p11 : Pos} {j : Nat} (T : XfC X.K C) (hno : PySem.W.findIn X.K (.ref C) "name" = some none) (te : PySem.W.exmOne X.K (.ref C) (.ref C) = some true)
    (hge : sg.names.lookup ("BadArgument" : Str) = some .globalImplicit) (hme : X.mg "BadArgument" = some (.ref C)) (hln : sg.names.lookup ("e" : Str) = some .local) : LamX.GivesTo X ["call", "e"] x sg g cdg (refB p1 p2 p3 p4 p5 p6 p7 p8 p9 p10 p11 j) "call" q (TTref C) := by
  intro f c' s H Q tl act hc h
  have hgl : Gl (cxOf C8.CX0 X.prog X.w X.K X.mg X.base ["call", "e"] x sg g cdg X.A X.stack s H C8.E0).nox "BadArgument" := hge
  refine ⟨_, pss_cons (ps_try_as (X := (cxOf C8.CX0 X.prog X.w X.K X.mg X.base ["call", "e"] x sg g cdg X.A X.stack s H C8.E0).nox) (i := 1) (c := .ref C) (n := "e")
      (tb := fun W D σ H => ∃ Ech : XK, (∀ cls d σ' H', Ech cls d H' → σ'.length = 2 → W cls d σ' H') ∧ σ[0]? = some (some (.ref f)) ∧ H c' = some (LamX.CodeO c' q) ∧ tl Ech H fun _ H1 => D.nx σ H1)
      (ts := fun a cls d => tRet (tXf a cls d C "name" (tVar 1))) (Wout := fun _ _ _ _ => False) rfl rfl (show (["call", "e"] : List Str).Nodup by decide +kernel) rfl hln ⟨hgl, by decide, .inl hme⟩ takes0 (fun W pn xe tk _ => ?_)
      (fun a oe cls d pn hz hf => pss_one (ps_ret (pe_xf T hno hz hf (pe_var rfl (.inl hln)))))) (pss_one (ps_ret pe_str)), ?_⟩
  · refine pss_one ⟨fun pins s' σ H' D I h' => ?_⟩
    obtain ⟨Ech, hW, h1, h2, h3⟩ := h'
    have hp := act _ pn xe Ech p1 p2 (Takes.len tk) (fun cls d σ' H' z l => hW cls d σ' H' z l)
    have hq := ps_expr (pos := p3) hp rfl
    exact hq.run pins s' σ H' D I ⟨h1, h2, h3⟩
  · refine ⟨fun cls d H' => cls = .ref C ∧ ∃ dd x, d = some dd ∧ excAt H' dd x ∧ Q (.str x) H', fun cls d σ' H' z l => ?_, rfl, hc, h⟩
    obtain ⟨rfl, dd, x, rfl, e2, e3⟩ := z
    refine ⟨true, te, fun _ a ha => ?_, fun z => by cases z⟩
    refine ⟨.ref a, List.getElem?_set_self (by rw [l]; decide), rfl, rfl, dd, _, .str x, rfl, e2, ?_, e3⟩
    rw [lookup_put, if_pos rfl]
/-! ### the lambda's contexts -/
structure LIx {ι : Type} (𝒳 : ι → Cx) (scope : Scope) (k : Nat) where
  i : ι
  A : Around
  outer : List Env
  s : Shared
  H : Hp
  E : XK
  f : Addr
  c' : Addr
  room : Room k (A.deeper (LamX.lamEnv (𝒳 i) scope s.heap.objs.size f c'))
def lamF {ι : Type} (𝒳 : ι → Cx) (scope : Scope) (k : Nat) : LIx 𝒳 scope k → Cx := fun j => LamX.lamCx (𝒳 j.i) j.A j.outer j.s j.H j.E scope j.f j.c'
/-- where the defs' lambdas lie -/
structure LamG {ι : Type} (𝒳 : ι → Cx) (G : Gx) : Prop where
  ex : ∃ c P q, LamX.TabB G.base G.mg c P ∧ (P, q) ∈ G.T ∧ (∀ p ∈ G.T, p.1 = P → p.2 = q) ∧ ∀ i, (𝒳 i).env.code = .ref c ∧ (𝒳 i).env.qual ++ "<lambda>" = q
/-- what is known of _law_refused -/
structure RefTxt (G : Gx) (g : Addr) (sg : Scope) : Prop where
  bad : BadTxt G.P G.K G.mg G.C
  ex : ∃ fd pg p1 p2 p3 p4 p5 p6 p7 p8 p9 p10 p11 j, FunD G.K "_law_refused" "_law_refused" pg (refB p1 p2 p3 p4 p5 p6 p7 p8 p9 p10 p11 j) sg [] [] g fd ∧ L2.Binds G.K fd ["call"] []
  gm : G.mg "_law_refused" = some (.ref g)
  sc : FnScope ["call", "e"] ["call"] sg
  sB : sg.names.lookup ("BadArgument" : Str) = some .globalImplicit
  sE : sg.names.lookup ("e" : Str) = some .local
  sC : sg.names.lookup ("call" : Str) = some .local
section
variable {ι : Type} {𝒳 : ι → Cx} {G : Gx} {k kl : Nat}
theorem Fm.lam (fm : Fm G k 𝒳) (scope : Scope) : Fm G kl (lamF 𝒳 scope kl) := ⟨fun q => fm.prog q.i, fun q => fm.w q.i, fun q => fm.K q.i, fun q => fm.mg q.i, fun q => fm.base q.i, fun q => q.room, fun _ => rfl, fun q => fm.nod q.i⟩
theorem lam_tk (scope : Scope) (j : LIx 𝒳 scope kl) : Takes (lamF 𝒳 scope kl j) (WK j.E) := takes_of rfl rfl rfl rfl
/-- a body that may raise, read for each wish -/
def CR (𝒳 : ι → Cx) (G : Gx) (scope : Scope) (kl : Nat) (body : Expr) (F : PE0 → Re Out) : Prop := ∃ t : XK → TE, (∀ j : LIx 𝒳 scope kl, PE (lamF 𝒳 scope kl j) body (t j.E)) ∧
  ∀ (Φ : Fx) (E : XK) (R : Hp) (ρ : PE0) (σ : L2.St) (H : Hp) (o : Out) (ρ' : PE0), SR G Φ R ρ σ H → F ρ = .ok o ρ' → ∀ Q : VK, (match o with
    | .ok d => ∀ (v : V) (R' H' : Hp), SR G Φ R' ρ' σ H' → Ext R R' → Dq G.K R' d v → Q v H'
    | .exc n => ∀ (dx : Addr) (R' H' : Hp), SR G Φ R' ρ' σ H' → Ext R R' → excAt H' dx n → E (.ref G.C) (some dx) H'
    | .bad => False) → t E σ H Q
def mRun (F : List D → Out) (m : MA) : PE0 → Re Out := fun ρ => (m ρ).bind fun ds ρ1 => .ok (F ds) ρ1
theorem rCall {kf np : Nat} {x : Str} {s : Stmt} {f : Addr} {ps : List Str} {F : List D → Out} {scope : Scope} {e : Expr} {es : List Expr} {ma : MA} {p pos : Pos} (fm : Fm G k 𝒳) (P : PrF G kf x s f ps (spP G np F)) (hk : kf ≤ kl) (ha : CA (lamF 𝒳 scope kl) G (e :: es) ma) (hl : (e :: es).length = np := by rfl)
    (hg : ∀ i, Gl (lamF 𝒳 scope kl i) x := by intro _; rfl) (hdb : (x == ("__debug__" : Str)) = false := by decide)
    (he : ∀ i, starEach (e :: es) (lamF 𝒳 scope kl i).env = (false, eval e (lamF 𝒳 scope kl i).env) :: starEach es (lamF 𝒳 scope kl i).env := by intro _; rfl) (hpl : ∀ i, (backTo pos (starEach es (lamF 𝒳 scope kl i).env)).any (·.1) = false := by intro _; rfl) :
    CR 𝒳 G scope kl (.Call (.Name x p) (e :: es) [] pos) (mRun F ma) := by
  obtain ⟨fd, FD, FO, FB⟩ := P.ex
  obtain ⟨t, hp, hi, hlen⟩ := ha
  have fl : Fm G kl (lamF 𝒳 scope kl) := fm.lam scope
  refine ⟨fun E => tCall (spP G np F) [] E t, fun j => pe_call (fl.fn j FO) ((fl.room j).mono hk) (hg j) (by rw [fl.mg j]; exact P.gm) (by rw [fl.K j]; exact FD.kp) (by rw [fl.K j]; exact FB) .nil (passes_call (lam_tk scope j) fun _ _ _ _ h => h) (hp j) hdb (he j) (hpl j), fun Φ E R ρ σ H o ρ' S e Q q => ?_⟩
  obtain ⟨ds, ρ1, e1, e⟩ := Re.of_bind e
  cases e
  refine hi Φ R ρ σ H ds _ S e1 _ fun vs R1 H1 S1 x1 q1 => ?_
  rw [List.append_nil]
  refine ⟨by rw [← q1.length, hlen _ _ _ e1]; exact hl, R1, ds, S1.start, q1, ?_⟩
  cases hF : F ds with
  | ok d0 => rw [hF] at q; exact fun v R' H' A dq => q v R' H' (S1.after A) (x1.trans A.ext) dq
  | exc n => rw [hF] at q; exact fun dx R' H' A hx => q dx R' H' (S1.after A) (x1.trans A.ext) hx
  | bad => rw [hF] at q; exact False.elim q
def mRef (F : PE0 → Re Out) : ME := fun ρ => (F ρ).bind fun o ρ1 => match o with
  | .ok _ => .ok (.str "") ρ1
  | .exc n => .ok (.str n) ρ1
  | .bad => .bad
theorem cRef {g : Addr} {sg : Scope} {params : Arguments} {body : Expr} {scope : Scope} {F : PE0 → Re Out} {p lpos pos : Pos} (fm : Fm G k 𝒳) (T : RefTxt G g sg) (L : LamG 𝒳 G) (hk : kl + 2 ≤ k) (hb : CR 𝒳 G scope kl body F)
    (hg : ∀ i, Gl (𝒳 i) "_law_refused" := by intro _; rfl) (hL : ∀ i, LamX.lamSB (𝒳 i).env.scope scope = true := by intro _; kernel_rfl) (hdef : ∀ i, defaultsOf params (𝒳 i).env = ([], []) := by intro _; rfl)
    (hbind : ∀ (q : Str) (cl : List (Str × Addr)) (pm cv ctv : Value), bindArgs (PySem.W.kla_fn "<lambda>" q params body scope cl pm cv ctv) ⟨[], []⟩ = pure [] := by intro _ _ _ _ _; rfl) :
    CE 𝒳 G (.Call (.Name "_law_refused" p) [.Lambda params body scope lpos] [] pos) (mRef F) := by
  obtain ⟨fd, pg, p1, p2, p3, p4, p5, p6, p7, p8, p9, p10, p11, j, FD, FB⟩ := T.ex
  obtain ⟨oc, od, dV, kV, doc, pm, an, cdv, ct, osl, rfl, lk, hcd, _, _⟩ := FD.ex
  obtain ⟨c, P, q, TB, hmem, huni, hcq⟩ := L.ex
  obtain ⟨t, hp, hi⟩ := hb
  refine ⟨LamX.tLam G.T (TTref G.C) t, fun i => ?_, fun Φ R ρ σ H d ρ' S e Q kq => ?_⟩
  · obtain ⟨hc, hq⟩ := hcq i
    have hG : LamX.GivesTo (𝒳 i) ["call", "e"] "_law_refused" sg g cdv (refB p1 p2 p3 p4 p5 p6 p7 p8 p9 p10 p11 j) "call" ((𝒳 i).env.qual ++ "<lambda>") (TTref G.C) :=
      refused_gives (by rw [fm.K i]; exact ⟨T.bad.ga, T.bad.gg, T.bad.exC, T.bad.hdC⟩) (by rw [fm.K i]; exact T.bad.noN) (by rw [fm.K i]; exact T.bad.te) T.sB (by rw [fm.mg i]; exact T.bad.gC) T.sE
    exact LamX.pe_lamcall (hg i) (by rw [fm.mg i]; exact T.gm) (by rw [fm.K i]; exact FD.kp) (by rw [fm.K i]; exact lk) (by rw [fm.K i]; exact hcd) (by rw [fm.K i]; exact FB) T.sc rfl (.inl T.sC) hG (by rw [fm.base i, fm.mg i]; exact TB) hc (by rw [hq]; exact hmem) (by rw [hq]; exact huni)
      ((fm.room i).mono hk) (LamX.lamS_by (hL i)) (hdef i) hbind (fun A outer s H E f c' hr => hp ⟨i, A, outer, s, H, E, f, c', hr⟩)
  · obtain ⟨o, ρ1, e1, e⟩ := Re.of_bind e
    refine ⟨S.tabs, fun H1 eN T1 => ?_⟩
    have S1 := S.after (After.lam S.start eN T1)
    refine hi Φ _ R ρ σ H1 o ρ1 S1 e1 _ ?_
    cases o with
    | ok d0 => cases e; exact fun v R' H' S' x' _ => kq _ R' H' S' x' (dq_str.mpr rfl)
    | exc n => cases e; exact fun dx R' H' S' x' hx => ⟨rfl, dx, n, rfl, hx, kq _ R' H' S' x' (dq_str.mpr rfl)⟩
    | bad => cases e
end
end Pm

/-! Pm13: the law's script; the dice's making; defs held by a name. -/
namespace Pm
open PySem PySem.Spec PyProof.Rows L2
theorem dqa_of_ints {K : PySem.W.Frag} {R : Hp} (ns : List Int) : DqA K R (ns.map .int) (ns.map V.int) := dqa_ints ns
def scrAt (i : Nat) (ρ : PE0) : Option (List Int) := match ρ[i]? with
  | some (.scr ns) => if ns.length ≤ 1000 then some ns else none
  | _ => none
theorem scrAt_eq {i : Nat} {ρ : PE0} {ns : List Int} (h : scrAt i ρ = some ns) : ρ[i]? = some (.scr ns) ∧ ns.length ≤ 1000 := by
  unfold scrAt at h
  split at h
  · split at h <;> cases h
    exact ⟨by assumption, by assumption⟩
  · cases h
section
variable {ι : Type} {𝒳 : ι → Cx} {G : Gx} {k : Nat} {W : WX}
/-! ### the script -/
def mScrLen (i : Nat) : ME := fun ρ => match scrAt i ρ with
  | some ns => .ok (.int ns.length) ρ
  | none => .bad
theorem cScrLen (i : Nat) {y : Str} {py p pos : Pos} (fm : Fm G k 𝒳) (hm : G.mg "len" = none) (hN : ∀ j, (𝒳 j).N[i]? = some y := by intro _; rfl) (hv : ∀ j, Vis (𝒳 j).env.scope y := by first | exact fun _ => Or.inl rfl | exact fun _ => Or.inr (Or.inl rfl) | exact fun _ => Or.inr (Or.inr rfl)) (hd : (y == ("__debug__" : Str)) = false := by decide) (hcd : (y == ("__classdict__" : Str)) = false := by decide)
    (hg : ∀ i, Gl (𝒳 i) "len" := by intro _; rfl) (he : ∀ i, starEach [.Name y py] (𝒳 i).env = (false, eval (.Name y py) (𝒳 i).env) :: starEach [] (𝒳 i).env := by intro _; rfl) : CE 𝒳 G (.Call (.Name "len" p) [.Name y py] [] pos) (mScrLen i) := by
  refine ⟨tCB (fun xs H Q => ∃ p ys, xs = [.ref p] ∧ (SqL G.K H p ys ∨ SqT G.K H p ys) ∧ Q (.int ys.length) H) (tCons (tVar i) tNil), fun j => pe_callB (fm.call (p := fun K xs H Q => ∃ p ys, xs = [.ref p] ∧ (SqL K H p ys ∨ SqT K H p ys) ∧ Q (.int ys.length) H) j call_len_seq) (hg j) (by rw [fm.mg j]; exact hm) boot_len (pa_cons (pe_var (hN j) (hv j) hd hcd) pa_nil (he j)) (by decide) (by decide) (he j) rfl, fun Φ R ρ σ H d ρ' S e Q q => ?_⟩
  unfold mScrLen at e
  split at e
  · rename_i ns hns
    cases e
    obtain ⟨a, z1, z2⟩ := S.sl i _ (scrAt_eq hns).1
    have := q (.int (ns.map V.int).length) R H S (Ext.refl R) (dq_int.mpr (by rw [List.length_map]))
    exact ⟨.ref a, z1, a, ns.map V.int, rfl, .inl (Ext.sql S.sub z2), this⟩
  · cases e
def mScrIx (i : Nat) (m : ME) : ME := fun ρ => match scrAt i ρ with
  | some ns => (m ρ).bind fun d ρ1 => Re.opt (ixD (.list (ns.map .int)) d) ρ1
  | none => .bad
theorem cScrIx (i : Nat) {y : Str} {b : Expr} {m : ME} {py pos : Pos} (fm : Fm G k 𝒳) (h : CE 𝒳 G b m) (hN : ∀ j, (𝒳 j).N[i]? = some y := by intro _; rfl) (hv : ∀ j, Vis (𝒳 j).env.scope y := by first | exact fun _ => Or.inl rfl | exact fun _ => Or.inr (Or.inl rfl) | exact fun _ => Or.inr (Or.inr rfl)) (hd : (y == ("__debug__" : Str)) = false := by decide) (hcd : (y == ("__classdict__" : Str)) = false := by decide)
    (hs : PlainIx b := by exact fun _ _ => rfl) : CE 𝒳 G (.Subscript (.Name y py) b pos) (mScrIx i m) := by
  obtain ⟨t, hp, hi⟩ := h
  refine ⟨tOp (rIxL G.K) (tVar i) t, fun j => pe_ix (fm.ix (p := rIxL) j ix_list) (pe_var (hN j) (hv j) hd hcd) (hp j) hs, fun Φ R ρ σ H d ρ' S e Q q => ?_⟩
  unfold mScrIx at e
  split at e
  · rename_i ns hns
    obtain ⟨d1, ρ1, e1, e⟩ := Re.of_bind e
    obtain ⟨e2, rfl⟩ := Re.of_opt e
    obtain ⟨a, z1, z2⟩ := S.sl i _ (scrAt_eq hns).1
    refine ⟨.ref a, z1, hi Φ R ρ σ H d1 ρ' S e1 _ fun v R1 H1 S1 x1 qv => ?_⟩
    unfold ixD at e2
    cases d1 with
    | int n =>
      obtain ⟨u, hu, qu⟩ := (dqa_of_ints ns).atI (K := G.K) (R := R1) e2
      cases dq_int.mp qv
      exact ⟨a, ns.map V.int, n, u, rfl, rfl, Ext.sql (x1.trans S1.sub) z2, hu, q u R1 H1 S1 x1 qu⟩
    | _ => cases e2
  · cases e
def mScrCut (i : Nat) (ml mh : PE0 → Re (Option Int)) : ME := fun ρ => match scrAt i ρ with
  | some ns => (ml ρ).bind fun lo ρ2 => (mh ρ2).bind fun hi ρ3 => .ok (.list (cutD (ns.map .int) lo hi)) ρ3
  | none => .bad
theorem cScrCut (i : Nat) {y : Str} {lo hi : Option Expr} {ml mh : PE0 → Re (Option Int)} {py p2 pos : Pos} (fm : Fm G k 𝒳) (hl : CP 𝒳 G lo ml) (hh : CP 𝒳 G hi mh) (hN : ∀ j, (𝒳 j).N[i]? = some y := by intro _; rfl) (hv : ∀ j, Vis (𝒳 j).env.scope y := by first | exact fun _ => Or.inl rfl | exact fun _ => Or.inr (Or.inl rfl) | exact fun _ => Or.inr (Or.inr rfl)) (hd : (y == ("__debug__" : Str)) = false := by decide) (hcd : (y == ("__classdict__" : Str)) = false := by decide) :
    CE 𝒳 G (.Subscript (.Name y py) (.Slice lo hi none p2) pos) (mScrCut i ml mh) := by
  obtain ⟨tl, pl, il⟩ := hl
  obtain ⟨th, ph, ih⟩ := hh
  refine ⟨_, fun j => pe_slice (fm.sl j sl_list) (pe_var (hN j) (hv j) hd hcd) (pl j) (ph j), fun Φ R ρ σ H d ρ' S e Q q => ?_⟩
  unfold mScrCut at e
  split at e
  · rename_i ns hns
    obtain ⟨l, ρ2, e2, e⟩ := Re.of_bind e
    obtain ⟨u, ρ3, e3, e⟩ := Re.of_bind e
    cases e
    obtain ⟨hsl, hln⟩ := scrAt_eq hns
    obtain ⟨a, z1, z2⟩ := S.sl i _ hsl
    refine ⟨.ref a, z1, ?_⟩
    refine il Φ R ρ σ H l ρ2 S e2 _ fun R2 H2 S2 x2 => ?_
    refine ih Φ R2 ρ2 σ H2 u _ S2 e3 _ fun R3 H3 S3 x3 => ?_
    have x13 := x2.trans x3
    refine ⟨a, ns.map V.int, rfl, Ext.sql (x13.trans S3.sub) z2, fun p' np => ?_⟩
    have x4 : Ext R3 (upd R3 p' (.lst (cutV (ns.map V.int) l u))) := ext_upd (S3.sub.none np)
    exact q _ _ _ (S3.laid np (plain_lst _).1 (Nat.le_trans (cutV_length _ l u) (by rw [List.length_map]; unfold sizeLine; omega))) (x13.trans x4) (dq_list.mpr ⟨p', _, rfl, upd_same, ((dqa_of_ints ns).cut l u)⟩)
  · cases e

/-! ### a def that makes the dice -/
/-- f(script, spot): a new list -/
def spF (G : Gx) (F : List Int → D → Option (List D)) : Sp := fun vs H Q E => vs.length = 2 ∧ ∃ R ns a v d, vs = [.ref a, v] ∧ Start G R H ∧ SqL G.K R a (ns.map V.int) ∧ Dq G.K R d v ∧ match F ns d with
  | some ds => ∀ p xs R' H', After G none R H R' H' → nt H p = none → R' p = none → H' p = some (.lst xs) → DqA G.K R' ds xs → Q (.ref p) H'
  | none => False
def outF : Fl → Option (List D)
  | .rto (.l ds) _ => some ds
  | _ => none
def psF (n : Nat) (ns : List Int) (d : D) : PE0 := .scr ns :: .v d :: List.replicate (n - 2) .un
def fnF (n : Nat) (m : MS) : List Int → D → Option (List D) := fun ns d => outF (m (psF n ns d))
theorem srF {R H : Hp} {N : List Str} {ns : List Int} {d : D} {a : Addr} {v : V} (S : Start G R H) (hs : SqL G.K R a (ns.map V.int)) (q : Dq G.K R d v) (hl : 2 ≤ N.length) : SR G ⟨R, nt H, none⟩ R (psF N.length ns d) (L2.start N [.ref a, v]) H := by
  have at_ : ∀ (i : Nat) (s : Sl), (psF N.length ns d)[i]? = some s → SlOk G ⟨R, nt H, none⟩ R H s ((L2.start N [.ref a, v])[i]?) ∧ (s = .scr ns ∨ s = .v d ∨ s = .un) := fun i s e => by
    match i with
    | 0 => cases e; exact ⟨⟨a, rfl, hs⟩, .inl rfl⟩
    | 1 => cases e; exact ⟨⟨v, rfl, q⟩, .inr (.inl rfl)⟩
    | i + 2 =>
      have e : (List.replicate (N.length - 2) Sl.un)[i]? = some s := e
      have := List.mem_of_getElem? e
      rw [List.mem_replicate] at this
      rw [this.2]
      exact ⟨trivial, .inr (.inr rfl)⟩
  refine ⟨S.sub, S.dat, S.lens, fun a o h _ _ => (nt_some h).1, fun a h => h, S.tabs, fun a h => .inl h, fun b hb => by (cases hb), S.nt, ?_, fun i s e => (at_ i s e).1, fun i j w w' b _ h1 _ _ _ => ?_, fun i j d d' h1 h2 => ?_⟩
  · rw [start_len (show [V.ref a, v].length ≤ N.length from hl)]
    unfold psF
    rw [List.length_cons, List.length_cons, List.length_replicate]
    omega
  · rcases (at_ i _ h1).2 with z | z | z <;> cases z
  · rcases (at_ i _ h1).2 with z | z | z <;> cases z
theorem okF {x : Str} {s : Stmt} {f : Addr} {N ps : List Str} {k : Nat} {m : MS} (F : ∃ fd, FunD G.K x x (defArgs s) (defBody s) (defScope s) [] [] f fd) (gm : G.mg x = some (.ref f)) (S : FnScope N ps (defScope s))
    (hb : ∀ (kV doc pm : Value) (an : Option Addr) (cdv ct : Value) (us : List Value), us.length = ps.length → bindArgs (PySem.W.fnOf x x (defArgs s) (defBody s) (defScope s) .none kV doc pm an cdv ct) ⟨us, []⟩ = pure (ps.zip us))
    (hnp : ps.length = 2) (hN : 2 ≤ N.length) (d : ∀ E, CSs (fX G N x (defScope s) f k E) G (WK E) (defBody s) m) : PrF G (k + 1) x s f ps (spF G (fnF N.length m)) := by
  obtain ⟨fd, F⟩ := F
  have hbn := F.bindsN hb
  refine ⟨⟨fd, F, ?_, hbn⟩, gm⟩
  obtain ⟨oc, od, dV, kV, doc, pm, an, cdv, ct, osl, rfl, lk, hcd, _, _⟩ := F.ex
  refine fn_of lk hcd S (fun vs H Q E h => by rw [hnp]; exact h.1) fun A outer s0 H vs Q E hr h => ?_
  obtain ⟨t, hp, hi⟩ := d E
  obtain ⟨hl, R, ns, a, v, d, rfl, St, hs, q, h⟩ := h
  refine ⟨t, hp ⟨cdv, ⟨oc, od, _, osl, lk, rfl⟩, A, outer, s0, H, hr⟩, ?_⟩
  refine hi _ R _ _ H (srF (N := N) St hs q hN) _ ?_
  unfold fnF at h
  cases e : m (psF N.length ns d) with
  | rto w ρ =>
    rw [e] at h
    cases w with
    | l ds =>
      exact fun p σ' R' H' S' xx M o => by
        obtain ⟨xs, h1, h2, _⟩ := o
        exact h p xs R' H' (S'.out xx) M.nh M.nr h1 h2
    | dk kvs => exact False.elim h
    | dt kvs => exact False.elim h
  | nx ρ => rw [e] at h; exact False.elim h
  | rt d ρ => rw [e] at h; exact False.elim h
  | ex n ρ => rw [e] at h; exact False.elim h
  | bk ρ => rw [e] at h; exact False.elim h
  | ct ρ => rw [e] at h; exact False.elim h
  | bad => rw [e] at h; exact False.elim h
/-- behind something that wrote a list of ours alone, which is then let go -/
theorem SR.afterMine {Φ : Fx} {R R' H H' : Hp} {ρ : PE0} {σ : L2.St} {p : Addr} (S : SR G Φ R ρ σ H) (M : Mine Φ R ρ σ p) (A : After G (some p) R H R' H') : SR G Φ R' ρ σ H' where
  sub := A.sub
  dat := A.dat
  lens := A.lens
  kept := fun a o h d n => A.kept a o (S.kept a o h d n) (fun z => by cases z; rw [M.nh] at h; cases h) n
  there := fun a h => A.there a (S.there a h)
  tabs := A.tabs
  old := S.oldA A
  r0 := S.r0
  r00 := S.r00
  len := S.len
  sl := fun i s h => by
    have z := S.sl i s h
    cases s with
    | un => trivial
    | v d => obtain ⟨x, e, q⟩ := z; exact ⟨x, e, q.mono A.ext⟩
    | raw x => exact z
    | fn n => exact z
    | scr ns => obtain ⟨a, q1, q2⟩ := z; exact ⟨a, q1, Ext.sql A.ext q2⟩
    | own w =>
      obtain ⟨a, e, h1, h2, h3⟩ := z
      obtain ⟨o, ho, hn⟩ := h3.there
      have h4 := h3.mono A.ext (H' := H') (by rw [ho]; exact A.kept a o ho (fun z => by cases z; exact M.ns i w h e) hn)
      exact ⟨a, e, A.new h1 (nt_ne ho hn) h4.nt, h2, h4⟩
    | dice ds =>
      obtain ⟨a, xs, e, h1, h2, h3, h4⟩ := z
      have h5 := A.kept a _ h3 (fun z => by cases z; exact (S.r0 p h1).2 M.nh) (fun _ q => by cases q)
      exact ⟨a, xs, e, h1, A.new h2 (nt_ne h3 fun _ q => by cases q) (fun _ z => by rw [h5] at z; cases z), h5, h4.mono A.ext⟩
  dis := S.dis
  one := S.one
/-- right(dice(script, spot)) -/
def mRight (Fd : List Int → D → Option (List D)) (Fr : List D → List D → OutD) (i : Nat) (m : ME) : ME := fun ρ => match scrAt i ρ with
  | some ns => (m ρ).bind fun d ρ1 => match Fd ns d with
    | some c => match Fr c [] with
      | .ok r _ => .ok r ρ1
      | _ => .bad
    | none => .bad
  | none => .bad
theorem cRight {kd kr : Nat} (i : Nat) {x z y : Str} {s1 s2 : Stmt} {f1 f2 : Addr} {ps1 ps2 : List Str} {Fd : List Int → D → Option (List D)} {Fr : List D → List D → OutD} {e : Expr} {m : ME} {px pz py p1 p2 : Pos} (fm : Fm G k 𝒳) (P1 : PrF G kd z s1 f1 ps1 (spF G Fd)) (P2 : PrF G kr x s2 f2 ps2 (spD G 0 Fr)) (hk1 : kd ≤ k) (hk2 : kr ≤ k) (h : CE 𝒳 G e m)
    (hN : ∀ j, (𝒳 j).N[i]? = some y := by intro _; rfl) (hv : ∀ j, Vis (𝒳 j).env.scope y := by first | exact fun _ => Or.inl rfl | exact fun _ => Or.inr (Or.inl rfl) | exact fun _ => Or.inr (Or.inr rfl)) (hd : (y == ("__debug__" : Str)) = false := by decide) (hcd : (y == ("__classdict__" : Str)) = false := by decide)
    (hg1 : ∀ i, Gl (𝒳 i) x := by intro _; rfl) (hg2 : ∀ i, Gl (𝒳 i) z := by intro _; rfl) (hx : (x == ("__debug__" : Str)) = false := by decide) (hz : (z == ("__debug__" : Str)) = false := by decide)
    (he1 : ∀ i, starEach [.Call (.Name z pz) [.Name y py, e] [] p2] (𝒳 i).env = (false, eval (.Call (.Name z pz) [.Name y py, e] [] p2) (𝒳 i).env) :: starEach [] (𝒳 i).env := by intro _; rfl) (hpl1 : ∀ i, (backTo p1 (starEach [] (𝒳 i).env)).any (·.1) = false := by intro _; rfl)
    (he2 : ∀ i, starEach [.Name y py, e] (𝒳 i).env = (false, eval (.Name y py) (𝒳 i).env) :: starEach [e] (𝒳 i).env := by intro _; rfl) (he3 : ∀ i, starEach [e] (𝒳 i).env = (false, eval e (𝒳 i).env) :: starEach [] (𝒳 i).env := by intro _; rfl) (hpl2 : ∀ i, (backTo p2 (starEach [e] (𝒳 i).env)).any (·.1) = false := by intro _; rfl) :
    CE 𝒳 G (.Call (.Name x px) [.Call (.Name z pz) [.Name y py, e] [] p2] [] p1) (mRight Fd Fr i m) := by
  obtain ⟨fd1, FD1, FO1, FB1⟩ := P1.ex
  obtain ⟨fd2, FD2, FO2, FB2⟩ := P2.ex
  obtain ⟨t, hp, hi⟩ := h
  refine ⟨tCall (spD G 0 Fr) [] E0 (tCons (tCall (spF G Fd) [] E0 (tCons (tVar i) (tCons t tNil))) tNil), fun j => ?_, fun Φ R ρ σ H d ρ' S e Q q => ?_⟩
  · refine pe_call (fm.fn j FO2) ((fm.room j).mono hk2) (hg1 j) (by rw [fm.mg j]; exact P2.gm) (by rw [fm.K j]; exact FD2.kp) (by rw [fm.K j]; exact FB2) .nil passL (pa_cons ?_ pa_nil (he1 j)) hx (he1 j) (hpl1 j)
    exact pe_call (fm.fn j FO1) ((fm.room j).mono hk1) (hg2 j) (by rw [fm.mg j]; exact P1.gm) (by rw [fm.K j]; exact FD1.kp) (by rw [fm.K j]; exact FB1) .nil passL (pa_cons (pe_var (hN j) (hv j) hd hcd) (pa_cons (hp j) pa_nil (he3 j)) (he2 j)) hz (he2 j) (hpl2 j)
  · unfold mRight at e
    split at e
    · rename_i ns hns
      obtain ⟨d1, ρ1, e1, e⟩ := Re.of_bind e
      cases eD : Fd ns d1 with
      | none => rw [eD] at e; cases e
      | some c =>
        rw [eD] at e
        dsimp only at e
        cases eR : Fr c [] with
        | exc n c' => rw [eR] at e; cases e
        | bad => rw [eR] at e; cases e
        | ok r c' =>
          rw [eR] at e
          cases e
          obtain ⟨a, z1, z2⟩ := S.sl i _ (scrAt_eq hns).1
          refine ⟨.ref a, z1, hi Φ R ρ σ H d1 _ S e1 _ fun v R1 H1 S1 x1 q1 => ?_⟩
          refine ⟨rfl, R1, ns, a, v, d1, rfl, S1.start, Ext.sql x1 z2, q1, ?_⟩
          rw [eD]
          intro p xs R2 H2 A hp0 hpR hpH qc
          have S2 := S1.after A
          have M : Mine Φ R2 _ σ p := ⟨hpR, by
            cases z : Φ.H0 p with
            | none => rfl
            | some o => exact absurd hp0 (S1.there p (by rw [z]; simp)), fun j w hj hs => by
            obtain ⟨b, f1, _, _, f4⟩ := S1.sl j _ hj
            rw [hs] at f1
            cases f1
            obtain ⟨o, ho, hn⟩ := f4.there
            exact absurd hp0 (nt_ne ho hn)⟩
          refine ⟨rfl, R2, p, xs, c, [], [], rfl, hpR, hpH, qc, S2.start, dqa_nil.mpr rfl, ?_⟩
          rw [eR]
          exact fun v R' H' xs' A2 _ _ dq => q v R' H' (S2.afterMine M A2) ((x1.trans A.ext).trans A2.ext) dq
    · cases e
end
end Pm

/-! Pm14: the law's def; a loop over defs. -/
namespace Pm
open PySem PySem.Spec PyProof.Rows L2
def spL (G : Gx) (F : List Int → Out) : Sp := fun vs H Q E => vs.length = 1 ∧ ∃ R ns a, vs = [.ref a] ∧ Start G R H ∧ SqL G.K R a (ns.map V.int) ∧ match F ns with
  | .ok d => ∀ v R' H', After G none R H R' H' → Dq G.K R' d v → Q v H'
  | _ => False
def psL (n : Nat) (ns : List Int) : PE0 := .scr ns :: List.replicate (n - 1) .un
def fnL (n : Nat) (m : MS) : List Int → Out := fun ns => outOf (m (psL n ns))
section
variable {G : Gx}
theorem srL {R H : Hp} {N : List Str} {ns : List Int} {a : Addr} (S : Start G R H) (hs : SqL G.K R a (ns.map V.int)) (hl : 1 ≤ N.length) : SR G ⟨R, nt H, none⟩ R (psL N.length ns) (L2.start N [.ref a]) H := by
  have at_ : ∀ (i : Nat) (s : Sl), (psL N.length ns)[i]? = some s → SlOk G ⟨R, nt H, none⟩ R H s ((L2.start N [.ref a])[i]?) ∧ (s = .scr ns ∨ s = .un) := fun i s e => by
    match i with
    | 0 => cases e; exact ⟨⟨a, rfl, hs⟩, .inl rfl⟩
    | i + 1 =>
      have e : (List.replicate (N.length - 1) Sl.un)[i]? = some s := e
      have := List.mem_of_getElem? e
      rw [List.mem_replicate] at this
      rw [this.2]
      exact ⟨trivial, .inr rfl⟩
  refine ⟨S.sub, S.dat, S.lens, fun a o h _ _ => (nt_some h).1, fun a h => h, S.tabs, fun a h => .inl h, fun b hb => by (cases hb), S.nt, ?_, fun i s e => (at_ i s e).1, fun i j w w' b _ h1 _ _ _ => ?_, fun i j d d' h1 h2 => ?_⟩
  · rw [start_len (show [V.ref a].length ≤ N.length from hl)]
    unfold psL
    rw [List.length_cons, List.length_replicate]
    omega
  · rcases (at_ i _ h1).2 with z | z <;> cases z
  · rcases (at_ i _ h1).2 with z | z <;> cases z
theorem okL {x : Str} {s : Stmt} {f : Addr} {N ps : List Str} {k : Nat} {m : MS} (F : ∃ fd, FunD G.K x x (defArgs s) (defBody s) (defScope s) [] [] f fd) (gm : G.mg x = some (.ref f)) (S : FnScope N ps (defScope s))
    (hb : ∀ (kV doc pm : Value) (an : Option Addr) (cdv ct : Value) (us : List Value), us.length = ps.length → bindArgs (PySem.W.fnOf x x (defArgs s) (defBody s) (defScope s) .none kV doc pm an cdv ct) ⟨us, []⟩ = pure (ps.zip us))
    (hnp : ps.length = 1) (hN : 1 ≤ N.length) (d : ∀ E, CSs (fX G N x (defScope s) f k E) G (WK E) (defBody s) m) : PrF G (k + 1) x s f ps (spL G (fnL N.length m)) := by
  obtain ⟨fd, F⟩ := F
  have hbn := F.bindsN hb
  refine ⟨⟨fd, F, ?_, hbn⟩, gm⟩
  obtain ⟨oc, od, dV, kV, doc, pm, an, cdv, ct, osl, rfl, lk, hcd, _, _⟩ := F.ex
  refine fn_of lk hcd S (fun vs H Q E h => by rw [hnp]; exact h.1) fun A outer s0 H vs Q E hr h => ?_
  obtain ⟨t, hp, hi⟩ := d E
  obtain ⟨hl, R, ns, a, rfl, St, hs, h⟩ := h
  refine ⟨t, hp ⟨cdv, ⟨oc, od, _, osl, lk, rfl⟩, A, outer, s0, H, hr⟩, ?_⟩
  refine hi _ R _ _ H (srL (N := N) St hs hN) _ ?_
  unfold fnL at h
  cases e : m (psL N.length ns) with
  | rt d ρ => rw [e] at h; exact fun v σ' R' H' S' xx qd => h v R' H' (S'.out xx) qd
  | nx ρ => rw [e] at h; exact fun σ' R' H' S' xx => h _ R' H' (S'.out xx) (dq_none.mpr rfl)
  | rto w ρ => rw [e] at h; exact False.elim h
  | ex n ρ => rw [e] at h; exact False.elim h
  | bk ρ => rw [e] at h; exact False.elim h
  | ct ρ => rw [e] at h; exact False.elim h
  | bad => rw [e] at h; exact False.elim h
/-- the heap that the script alone may be read in -/
theorem scr_start {H : Hp} {a : Addr} {ns : List Int} (hl : ns.length ≤ 63) (t : LamX.Tabs G.T H) (hs : SqL G.K H a (ns.map V.int)) : ∃ R, Start G R H ∧ SqL G.K R a (ns.map V.int) := by
  have one : ∀ o : HO, H a = some o → (∀ ps, o ≠ .tbl ps) → Len o → ∃ R : Hp, Start G R H ∧ R a = some o := fun o h1 h2 h3 => by
    have at_ : ∀ b u, upd (fun _ => none) a o b = some u → b = a ∧ u = o := fun b u e => by
      by_cases z : b = a
      · subst z; rw [upd_same] at e; cases e; exact ⟨rfl, rfl⟩
      · rw [upd_ne z] at e; cases e
    refine ⟨upd (fun _ => none) a o, ⟨fun b u e => ?_, fun b ps e => ?_, fun b u e => ?_, t⟩, upd_same⟩
    · obtain ⟨rfl, rfl⟩ := at_ b u e; exact h1
    · obtain ⟨rfl, z⟩ := at_ b _ e; exact h2 ps z.symm
    · obtain ⟨rfl, rfl⟩ := at_ b u e; exact h3
  rcases hs with (h | ⟨o, h⟩) | h
  · obtain ⟨R, s, e⟩ := one _ h (fun ps z => by cases z) (show (ns.map V.int).length ≤ sizeLine by rw [List.length_map]; unfold sizeLine; omega)
    exact ⟨R, s, .inl (.inl e)⟩
  · obtain ⟨R, s, e⟩ := one _ h (fun ps z => by cases z) trivial
    exact ⟨R, s, .inl (.inr ⟨o, e⟩)⟩
  · exact ⟨fun _ => none, ⟨fun b o e => by (cases e), fun b ps e => by (cases e), fun b o e => by (cases e), t⟩, .inr h⟩
end
/-! ### defs held by a name -/
/-- the defs that a name may hold, each with its promise -/
structure FnTab (G : Gx) (k np : Nat) (Fs : List (List D → Out)) : Prop where
  len : Fs.length = G.F.length
  ok : ∀ (n : Nat) (f : Addr) (F : List D → Out), G.F[n]? = some f → Fs[n]? = some F → ∃ x s ps, PrF G k x s f ps (spP G np F)
def fnAt (Fs : List (List D → Out)) (i : Nat) (ρ : PE0) : Option (List D → Out) := match ρ[i]? with
  | some (.fn n) => Fs[n]?
  | _ => none
def mRunV (Fs : List (List D → Out)) (i : Nat) (m : MA) : PE0 → Re Out := fun ρ => match fnAt Fs i ρ with
  | some F => (m ρ).bind fun ds ρ1 => .ok (F ds) ρ1
  | none => .bad
def tCallV (G : Gx) (np : Nat) (Fs : List (List D → Out)) (i : Nat) (E : XK) (t : TA) : TE := fun σ H Q => ∃ (n : Nat) (f : Addr) (F : List D → Out), ∃ (_ : σ[i]? = some (some (.ref f))) (_ : G.F[n]? = some f) (_ : Fs[n]? = some F), t σ H fun vs H1 => spP G np F vs H1 Q E
section
variable {ι : Type} {𝒳 : ι → Cx} {G : Gx} {k kl : Nat} {W : WX}
theorem rCallV {kf np : Nat} (i : Nat) {x : Str} {Fs : List (List D → Out)} {scope : Scope} {e : Expr} {es : List Expr} {ma : MA} {p pos : Pos} (fm : Fm G k 𝒳) (P : FnTab G kf np Fs) (hk : kf ≤ kl) (ha : CA (lamF 𝒳 scope kl) G (e :: es) ma) (hl : (e :: es).length = np := by rfl)
    (hN : ∀ j, (lamF 𝒳 scope kl j).N[i]? = some x := by intro _; rfl) (hv : ∀ j, Vis (lamF 𝒳 scope kl j).env.scope x := by first | exact fun _ => Or.inl rfl | exact fun _ => Or.inr (Or.inl rfl) | exact fun _ => Or.inr (Or.inr rfl)) (hdb : (x == ("__debug__" : Str)) = false := by decide) (hcd : (x == ("__classdict__" : Str)) = false := by decide)
    (he : ∀ i, starEach (e :: es) (lamF 𝒳 scope kl i).env = (false, eval e (lamF 𝒳 scope kl i).env) :: starEach es (lamF 𝒳 scope kl i).env := by intro _; rfl) (hpl : ∀ i, (backTo pos (starEach es (lamF 𝒳 scope kl i).env)).any (·.1) = false := by intro _; rfl) :
    CR 𝒳 G scope kl (.Call (.Name x p) (e :: es) [] pos) (mRunV Fs i ma) := by
  obtain ⟨t, hp, hi, hlen⟩ := ha
  have fl : Fm G kl (lamF 𝒳 scope kl) := fm.lam scope
  refine ⟨fun E => tCallV G np Fs i E t, fun j => ⟨fun pins s σ H Q I h => ?_⟩, fun Φ E R ρ σ H o ρ' S e Q q => ?_⟩
  · obtain ⟨n, f, F, h1, h2, h3, h4⟩ := h
    obtain ⟨y, st, ps, PF⟩ := P.ok n f F h2 h3
    obtain ⟨fd, FD, FO, FB⟩ := PF.ex
    refine (pe_callL (i := i) (f := f) (sp := spP G np F) (dvs := []) (E := j.E) (fl.fn j FO) ((fl.room j).mono hk) (hN j) (hv j) (by rw [fl.K j]; exact FD.kp) (by rw [fl.K j]; exact FB) .nil (passes_call (lam_tk scope j) fun _ _ _ _ h => h) (hp j) hdb hcd (he j) (hpl j)).run pins s σ H Q I ⟨h1, ?_⟩
    have e0 : (fun (vs : List V) (H1 : Hp) => spP G np F (vs ++ []) H1 Q j.E) = fun vs H1 => spP G np F vs H1 Q j.E := by
      funext vs H1
      rw [List.append_nil]
    rw [e0]
    exact h4
  · unfold mRunV at e
    split at e
    · rename_i F hF
      obtain ⟨ds, ρ1, e1, e⟩ := Re.of_bind e
      cases e
      unfold fnAt at hF
      split at hF
      · rename_i n hn
        obtain ⟨f, z1, z2⟩ := S.sl i _ hn
        refine ⟨n, f, F, z2, z1, hF, hi Φ R ρ σ H ds _ S e1 _ fun vs R1 H1 S1 x1 q1 => ?_⟩
        refine ⟨by rw [← q1.length, hlen _ _ _ e1]; exact hl, R1, ds, S1.start, q1, ?_⟩
        cases hF2 : F ds with
        | ok d0 => rw [hF2] at q; exact fun v R' H' A dq => q v R' H' (S1.after A) (x1.trans A.ext) dq
        | exc n => rw [hF2] at q; exact fun dx R' H' A hx => q dx R' H' (S1.after A) (x1.trans A.ext) hx
        | bad => rw [hF2] at q; exact False.elim q
      · cases hF
    · cases e
/-- a list of the defs' names -/
structure CFn (𝒳 : ι → Cx) (G : Gx) (es : List Expr) (ns : List Nat) : Prop where
  ex : ∃ fs : List Addr, fs.length = es.length ∧ ns.length = es.length ∧ (∀ (j n : Nat) (f : Addr), ns[j]? = some n → fs[j]? = some f → G.F[n]? = some f) ∧ ∀ i, PA (𝒳 i) es (fun _ H Q => Q (fs.map V.ref) H)
theorem fnNil : CFn 𝒳 G [] [] := ⟨[], rfl, rfl, fun j n f h => by (cases h), fun i => ⟨fun pos pins s σ H Q I h => pa_nil.run pos pins s σ H Q I h⟩⟩
theorem fnCons {x : Str} {p : Pos} {es : List Expr} {ns : List Nat} {f : Addr} {n : Nat} (fm : Fm G k 𝒳) (hm : G.mg x = some (.ref f)) (hn : G.F[n]? = some f) (h : CFn 𝒳 G es ns) (hg : ∀ i, Gl (𝒳 i) x := by intro _; rfl) (hdb : (x == ("__debug__" : Str)) = false := by decide)
    (hs : ∀ j, starEach (.Name x p :: es) (𝒳 j).env = (false, eval (.Name x p) (𝒳 j).env) :: starEach es (𝒳 j).env := by intro _; rfl) : CFn 𝒳 G (.Name x p :: es) (n :: ns) := by
  obtain ⟨fs, h1, h2, h3, h4⟩ := h.ex
  refine ⟨f :: fs, by rw [List.length_cons, List.length_cons, h1], by rw [List.length_cons, List.length_cons, h2], fun j m g e1 e2 => ?_, fun i => ⟨fun pos pins s σ H Q I q => (pa_cons (pe_glob (v := .ref f) (hg i) (by rw [fm.mg i]; exact hm) rfl hdb) (h4 i) (hs i)).run pos pins s σ H Q I q⟩⟩
  cases j with
  | zero => cases e1; cases e2; exact hn
  | succ j => exact h3 j m g e1 e2
def fnGo (i : Nat) (mb : MS) : List Nat → PE0 → Fl
  | [], ρ => .nx ρ
  | n :: ns, ρ => if i < ρ.length then match mb (ρ.set i (.fn n)) with
    | .nx ρ2 => fnGo i mb ns ρ2
    | .ct ρ2 => fnGo i mb ns ρ2
    | .bk ρ2 => .nx ρ2
    | fl => fl else .bad
theorem SR.storeFn {Φ : Fx} {R H : Hp} {ρ : PE0} {σ : L2.St} {i n : Nat} {f : Addr} (S : SR G Φ R ρ σ H) (hi : i < ρ.length) (h : G.F[n]? = some f) : SR G Φ R (ρ.set i (.fn n)) (σ.set i (some (.ref f))) H := by
  have S1 : SR G Φ R (ρ.set i (.raw (.ref f))) (σ.set i (some (.ref f))) H := S.storeRaw hi
  have at_ : ∀ (j : Nat) (s : Sl), (ρ.set i (.fn n))[j]? = some s → (i = j ∧ s = .fn n) ∨ (i ≠ j ∧ (ρ.set i (.raw (.ref f)))[j]? = some s) := fun j s e => by
    by_cases z : i = j
    · subst z; rw [List.getElem?_set_self hi] at e; cases e; exact .inl ⟨rfl, rfl⟩
    · rw [List.getElem?_set_ne z] at e; exact .inr ⟨z, by rw [List.getElem?_set_ne z]; exact e⟩
  refine ⟨S1.sub, S1.dat, S1.lens, S1.kept, S1.there, S1.tabs, S1.old, S1.r0, S1.r00, by rw [List.length_set, List.length_set]; exact S.len, fun j s e => ?_, fun j l w w' b hjl h1 h2 e1 e2 => ?_, fun j l d d' h1 h2 => ?_⟩
  · rcases at_ j s e with ⟨rfl, rfl⟩ | ⟨_, z⟩
    · exact ⟨f, h, by rw [List.getElem?_set_self (by rw [S.len]; exact hi)]⟩
    · exact S1.sl j s z
  · rcases at_ j _ h1 with ⟨_, z⟩ | ⟨_, z1⟩
    · cases z
    rcases at_ l _ h2 with ⟨_, z⟩ | ⟨_, z2⟩
    · cases z
    exact S1.dis j l w w' b hjl z1 z2 e1 e2
  · rcases at_ j _ h1 with ⟨_, z⟩ | ⟨_, z1⟩
    · cases z
    rcases at_ l _ h2 with ⟨_, z⟩ | ⟨_, z2⟩
    · cases z
    exact S1.one j l d d' z1 z2
theorem sForFn (i : Nat) {x : Str} {es : List Expr} {ns : List Nat} {body : List Stmt} {mb : MS} {px pl pos : Pos} (fm : Fm G k 𝒳) (fs : Fs 𝒳 W) (h : CFn 𝒳 G es ns) (hb : CSs 𝒳 G W body mb) (hz : es.length ≤ 1000 := by decide) (hN : ∀ j, (𝒳 j).N[i]? = some x := by intro _; rfl) (hx : ∀ j, Loc (𝒳 j).env.scope x := by first | exact fun _ => Or.inl rfl | exact fun _ => Or.inr rfl)
    (hf : ∀ j, (𝒳 j).fn x = true ∨ (𝒳 j).env.scope.names.lookup x = some .local := by first | exact fun _ => .inl rfl | exact fun _ => .inr rfl) (hs : ∀ j z, foldedSetIterable (.List es pl) (𝒳 j).env z = pure z := by intro _ _; rfl) : CS 𝒳 G W (.For (.Name x px) (.List es pl) body [] pos) (fnGo i mb ns) := by
  obtain ⟨fl, l1, l2, l3, pa⟩ := h.ex
  obtain ⟨t, hp, ib⟩ := hb
  refine ⟨tFor (iList G.K (tLst fun _ H Q => Q (fl.map V.ref) H)) (gName i) t, fun j => ps_for (fs.pass j) (fm.calm j) (Eq.mp (congrArg (fun K => PI (𝒳 j) _ (.List es pl) (iList K _)) (fm.K j)) (pi_list (pe_lst (pa j)))) (pg_name (fm.nod j) (hN j) (hx j) (hf j)) (hp j) (hs j), fun Φ R ρ σ H S D h => ?_⟩
  have hlen : (fl.map V.ref).length ≤ sizeLine := by rw [List.length_map, l1]; unfold sizeLine; omega
  refine ⟨hlen, fun p np => ⟨p, rfl, ⟨_, .inl (.inl upd_same)⟩, ?_⟩⟩
  have S0 := S.laid np (plain_lst (fl.map V.ref)).1 hlen
  have x0 : Ext R (upd R p (.lst (fl.map V.ref))) := ext_upd (S.sub.none np)
  have h := h.mono x0
  refine ⟨fun j m σ H => j ≤ ns.length ∧ m = ns.length - j ∧ ∃ R2 ρ2, SR G Φ R2 ρ2 σ H ∧ Ext (upd R p (.lst (fl.map V.ref))) R2 ∧ EndOk G Φ W R2 (fnGo i mb (ns.drop j) ρ2) D, ⟨ns.length, Nat.zero_le _, rfl, _, ρ, S0, Ext.refl _, h⟩, ?_⟩
  rintro j m σ2 H2 ⟨hle, rfl, R2, ρ2, S2, x2, h2⟩
  have hq : SqL G.K H2 p (fl.map V.ref) := .inl (.inl (S2.sub _ _ (x2 _ _ upd_same)))
  by_cases hlt : j < ns.length
  · right
    have hj : j < fl.length := by omega
    have ej : (fl.map V.ref)[j]? = some (.ref fl[j]) := by rw [List.getElem?_map, List.getElem?_eq_getElem hj]; rfl
    refine ⟨⟨_, _, hq, ej⟩, fun σ H => ∃ R3 ρ3, SR G Φ R3 ρ3 σ H ∧ Ext (upd R p (.lst (fl.map V.ref))) R3 ∧ EndOk G Φ W R3 (fnGo i mb (ns.drop (j + 1)) ρ3) D, fun σ' H' hh => ⟨ns.length - (j + 1), by omega, hlt, rfl, hh⟩, fun v H3 hy => ?_⟩
    obtain ⟨rfl, hy⟩ := hy
    have hv := hy _ hq
    rw [ej] at hv
    cases hv
    rw [List.drop_eq_getElem_cons hlt] at h2
    unfold fnGo at h2
    obtain ⟨hi, h2⟩ := h2.ite
    have S3 := S2.storeFn hi (l3 j ns[j] fl[j] (List.getElem?_eq_getElem hlt) (List.getElem?_eq_getElem hj))
    refine ib Φ R2 _ _ H3 S3 _ ?_
    cases em : mb (ρ2.set i (.fn ns[j])) with
    | nx ρc => rw [em] at h2; exact fun σ' R' H' S' x => ⟨R', ρc, S', x2.trans x, h2.mono x⟩
    | ct ρc => rw [em] at h2; exact fun σ' R' H' S' x => ⟨R', ρc, S', x2.trans x, h2.mono x⟩
    | bk ρc => rw [em] at h2; exact fun σ' R' H' S' x => h2 σ' R' H' S' x
    | rt d ρc => rw [em] at h2; exact h2
    | rto d ρc => rw [em] at h2; exact h2
    | ex n ρc => rw [em] at h2; exact h2
    | bad => rw [em] at h2; exact h2
  · left
    have hj : j = ns.length := by omega
    subst hj
    rw [List.drop_length] at h2
    exact ⟨⟨_, hq, by rw [List.length_map]; omega⟩, h2 σ2 R2 H2 S2 (Ext.refl R2)⟩
end
end Pm

/-! Pm15: small things for the printed parts. -/
namespace Pm
open PySem PySem.Spec PyProof.Rows L2
structure LamD (G : Gx) (x : Str) (f : Addr) : Prop where
  ex : ∃ c P, (∃ oc od fd osl, G.K.lookup f = some ⟨oc, od, .func fd, osl⟩ ∧ fd.code = .ref c) ∧ LamX.TabB G.base G.mg c P ∧ (P, x ++ ".<locals>." ++ "<lambda>") ∈ G.T ∧ ∀ p ∈ G.T, p.1 = P → p.2 = x ++ ".<locals>." ++ "<lambda>"
theorem lamG_of {G : Gx} {N : List Str} {x : Str} {scope : Scope} {f : Addr} {k : Nat} {E : XK} (L : LamD G x f) : LamG (fX G N x scope f k E) G := by
  obtain ⟨c, P, ⟨oc, od, fd, osl, h1, h2⟩, h3, h4, h5⟩ := L.ex
  refine ⟨c, P, _, h3, h4, h5, fun i => ⟨?_, rfl⟩⟩
  obtain ⟨oc', od', fd', osl', e1, e2⟩ := i.code
  rw [h1] at e1
  cases e1
  show i.cdv = .ref c
  rw [← e2, h2]
theorem PrF.mono {G : Gx} {j k : Nat} {x : Str} {s : Stmt} {f : Addr} {ps : List Str} {sp : Sp} (P : PrF G j x s f ps sp) (h : j ≤ k) : PrF G k x s f ps sp := by
  obtain ⟨⟨fd, h1, h2, h3⟩, gm⟩ := P
  exact ⟨⟨fd, h1, h2.mono h, h3⟩, gm⟩
def fnA (mg : Str → Option Value) (x : Str) : Addr := match mg x with
  | some (.ref a) => a
  | _ => 0
theorem fnA_eq {mg : Str → Option Value} {x : Str} {f : Addr} (h : mg x = some (.ref f)) : mg x = some (.ref (fnA mg x)) := by
  unfold fnA
  rw [h]
def FnTabL (G : Gx) (k np : Nat) (fs : List Addr) (Fs : List (List D → Out)) : Prop := Fs.length = fs.length ∧ ∀ (n : Nat) (f : Addr) (F : List D → Out), fs[n]? = some f → Fs[n]? = some F → ∃ x s ps, PrF G k x s f ps (spP G np F)
theorem tabNil {G : Gx} {k np : Nat} : FnTabL G k np [] [] := ⟨rfl, fun n f F h => by (cases h)⟩
theorem tabCons {G : Gx} {j k np : Nat} {fs : List Addr} {Fs : List (List D → Out)} {x : Str} {s : Stmt} {f g : Addr} {ps : List Str} {F : List D → Out} (P : PrF G j x s f ps (spP G np F)) (hg : G.mg x = some (.ref g)) (h : j ≤ k) (T : FnTabL G k np fs Fs) : FnTabL G k np (g :: fs) (F :: Fs) := by
  have e : f = g := by
    have z := P.gm
    rw [hg] at z
    cases z
    rfl
  subst e
  refine ⟨by rw [List.length_cons, List.length_cons, T.1], fun n f' F' h1 h2 => ?_⟩
  cases n with
  | zero => cases h1; cases h2; exact ⟨x, s, ps, P.mono h⟩
  | succ n => exact T.2 n f' F' h1 h2
theorem FnTabL.tab {G : Gx} {k np : Nat} {fs : List Addr} {Fs : List (List D → Out)} (T : FnTabL G k np fs Fs) (h : G.F = fs) : FnTab G k np Fs := ⟨by rw [h]; exact T.1, by rw [h]; exact T.2⟩
end Pm

/-! Pm16: what the head tells; the law's end. -/
namespace Pm
open PySem PySem.Spec PyProof.Rows L2 PySem.W He
abbrev InitW : Type := Option (Str × Str × Arguments × FuncBody × Scope × Addr × List Str × Addr)
def initW (K : Frag) : InitW := (fnW K ("BadArgument", some "__init__")).map fun q => (q.1, q.2.1, q.2.2.1, q.2.2.2.1, q.2.2.2.2.1, q.2.2.2.2.2.1, q.2.2.2.2.2.2.1.map (·.1), q.2.2.2.2.2.2.2)
def initV : InitW := some ("__init__", "BadArgument.__init__", bA, .stmts bB, bS, mainGlobals, ["__class__"], builtinsNs)
def clsB (K : Frag) (C : Addr) : Bool := match K.lookup C with
  | some ⟨.type "type", _, .cls cd, sl⟩ => (match cd.mro, sl.toList with
    | .ref C' :: bm, [_, _, _, _, some (.builtin n), _] => (C' == C && n == "ValueError.__new__") && (!cd.hasDel && (cd.hasDict && PySem.HandSPX.refsVE bm))
    | _, _ => false)
  | _ => false
def iniB (file : Str) (K : Frag) (C fI : Addr) : Bool := match K.lookup fI with
  | some ⟨_, _, .func fd, _⟩ => (fd.defaults == .none && fd.kwdefaults == .none) && (codeIn K fd.code "BadArgument.__init__" && ((match fd.code with
    | .ref cda => (match K.lookup cda with
      | some ⟨_, _, .fields vs, _⟩ => (match (vs[2]? : Option Value) with
        | some (.str f _) => file == f
        | _ => false)
      | _ => false)
    | _ => false) && (match fd.closure with
    | [(_, cc)] => (match K.lookup cc with
      | some ⟨_, _, .cell (some (.ref C')), _⟩ => C' == C
      | _ => false)
    | _ => false)))
  | _ => false
def opB (a b : Option Bool) : Bool := decide (a = b)
def exB (file : Str) (tf : List Defn) (K : Frag) : Bool :=
  (clsB K (ga K "BadArgument") && iniB file K (ga K "BadArgument") (ma K (ga K "BadArgument") "__init__")) &&
  ((He.eqO (findIn K (.ref (ga K "BadArgument")) "__setattr__") (some (some (.builtin "object.__setattr__"))) && He.eqO (findIn K (.ref (ga K "BadArgument")) "__getattribute__") (some (some (.builtin "BaseException.__getattribute__")))) &&
  ((He.eqO (findIn K (.ref (ga K "BadArgument")) "__getattr__") (some none) && He.eqO (findIn K (.ref (ga K "BadArgument")) "name") (some none)) &&
  ((keepIn K (.ref (ga K "BadArgument")) && hasDictIn K (ga K "BadArgument")) &&
  ((opB (subIn K (.ref (ga K "BadArgument")) (.type "BaseException")) (some true) && opB (subIn K (.ref (ga K "BadArgument")) (.type "ValueError")) (some true)) &&
  ((opB (mroIn K (ga K "BadArgument") (.ref (ga K "BadArgument"))) (some true) && decide (typeIn K (.ref (ga K "BadArgument")) = some (.type "type"))) &&
  ((He.eqO (nsIn K cStatics "thirdparty.any") (some none) && He.eqO (ks_superIn K (ga K "BadArgument") (ga K "BadArgument") "__init__") (some (some (.builtin "ValueError.__init__")))) &&
  ((He.eqO (findIn K (.ref (ga K "BadArgument")) "__init__") (some (some (.ref (ma K (ga K "BadArgument") "__init__")))) && decide (typeIn K (.ref (ma K (ga K "BadArgument") "__init__")) = some (.type "function"))) &&
  decide ((tf.map fun p => (cT K p).2).Nodup))))))))
def asY (g : Addr → Option Obj) : List Addr := cStatics :: asD g 4
abbrev AlY : Type := AlD × Bool × InitW
def obsY (fa : List Fa) (fn : List DefD) (tf : List Defn) (file : Str) (g : Addr → Option Obj) : AlY := (obsD fa fn (frT g (asY g)), exB file tf (frT g (asY g)) && tabsB g tf (frT g (asY g)), initW (frT g (asY g)))
def valY (fn : List DefD) : AlY := (valD fn, true, initV)
structure SaysY (fa : List Fa) (fn : List DefD) (tf : List Defn) (file : Str) (h : Heap) (K : Frag) : Prop where
  d : SaysD fa fn K
  more : exB file tf K = true
  ini : initW K = initV
  hd : ∀ p ∈ tf, codeHdIn K (cT K p).1 (cT K p).2 = true
  out : ∀ p ∈ tf, K.lookup (cT K p).2 = none
  empty : ∀ p ∈ tf, h.get? (cT K p).2 = some { cls := .none, data := .fields #[] }
theorem saysY_of {fa : List Fa} {fn : List DefD} {tf : List Defn} {file : Str} {h : Heap} (e : obsY fa fn tf file h.get? = valY fn) : SaysY fa fn tf file h (frT h.get? (asY h.get?)) := by
  have e1 : obsD fa fn (frT h.get? (asY h.get?)) = valD fn := congrArg (fun z : AlY => z.1) e
  have e2 : (exB file tf (frT h.get? (asY h.get?)) && tabsB h.get? tf (frT h.get? (asY h.get?))) = true := congrArg (fun z : AlY => z.2.1) e
  have e3 : initW (frT h.get? (asY h.get?)) = initV := congrArg (fun z : AlY => z.2.2) e
  obtain ⟨m1, m2⟩ := ba e2
  have each : ∀ p ∈ tf, codeHdIn (frT h.get? (asY h.get?)) (cT (frT h.get? (asY h.get?)) p).1 (cT (frT h.get? (asY h.get?)) p).2 = true ∧ ∃ o, h.get? (cT (frT h.get? (asY h.get?)) p).2 = some o ∧ emptyTab o = true := fun p hp => by
    obtain ⟨z1, z2⟩ := ba (List.all_eq_true.mp m2 p hp)
    refine ⟨z1, ?_⟩
    cases q : h.get? (cT (frT h.get? (asY h.get?)) p).2 with
    | none => rw [q] at z2; cases z2
    | some o => rw [q] at z2; exact ⟨o, rfl, z2⟩
  refine ⟨e1, m1, e3, fun p hp => (each p hp).1, fun p hp => ?_, fun p hp => ?_⟩
  · obtain ⟨_, o, q, z⟩ := each p hp; exact frT_none q z
  · obtain ⟨_, o, q, z⟩ := each p hp; rw [q, emptyTab_eq z]
def hookY (fa : List Fa) (fn : List DefD) (tf : List Defn) (file : Str) : Hook where
  α := AlY
  obs := fun s => obsY fa fn tf file s.heap.get?
  val := fun _ => valY fn
  says := fun _ h => ∃ K : Frag, K.In h ∧ SaysY fa fn tf file h K
  of := fun _ _ e => ⟨_, frT_in, saysY_of e⟩
  keeps := fun _ _ _ ⟨K, hK, c⟩ k => ⟨K, Frag.In.keeps hK k, ⟨c.d, c.more, c.ini, c.hd, c.out, fun p hp => k _ _ (c.empty p hp)⟩⟩
theorem obsY_eq {fa : List Fa} {fn : List DefD} {tf : List Defn} {file : Str} {g : Addr → Option Obj} {s : Shared} (h : ∀ a, g a = s.heap.get? a) : obsY fa fn tf file g = (hookY fa fn tf file).obs s := by
  have e : g = s.heap.get? := funext h
  rw [e]
  rfl
theorem clsB_ok {K : Frag} {C : Addr} (q : clsB K C = true) : ∃ nm q N bs bm sn sub ab col dd k0 k1 k2 k3 k5, K.lookup C = some (excClassObj nm q C N bs bm true sn sub ab col dd k0 k1 k2 k3 k5 "ValueError.__new__") ∧ PySem.HandSPX.refsVE bm = true := by
  unfold clsB at q
  split at q
  · rename_i dd cd sl ho
    split at q
    · rename_i C' bm k0 k1 k2 k3 n k5 hm hs
      simp only [Bool.and_eq_true, beq_iff_eq, Bool.not_eq_true'] at q
      obtain ⟨⟨rfl, rfl⟩, hdel, hdict, ht⟩ := q
      obtain ⟨nm, bs, mro, ns, qn, hd, sn, sub, ab, col, del⟩ := cd
      dsimp only at hm hdel hdict
      subst hm hdel hdict
      obtain ⟨sl⟩ := sl
      have hs : sl = _ := hs
      subst hs
      exact ⟨nm, qn, ns, bs, bm, sn, sub, ab, col, dd, k0, k1, k2, k3, k5, ho, ht⟩
    · cases q
  · cases q
theorem opB_ok {a b : Option Bool} (h : opB a b = true) : a = b := of_decide_eq_true h
theorem ini_ok {P : Program} {K : Frag} {C : Addr} (hC : C = ga K "BadArgument") (hi : initW K = initV) (q : iniB P.main.file K C (ma K (ga K "BadArgument") "__init__") = true) :
    ∃ (oc : Value) (od : Option Addr) (doc pm : Value) (an : Option Addr) (cda : Addr) (ct : Value) (cc : Addr) (osl : Array (Option Value)),
      K.lookup (ma K (ga K "BadArgument") "__init__") = some ⟨oc, od, .func (ksFn "__init__" "BadArgument.__init__" bA bB bS .none .none doc pm an (.ref cda) ct cc), osl⟩ ∧ codeIn K (.ref cda) "BadArgument.__init__" = true ∧
      (∃ (ccl : Value) (cdd : Option Addr) (vs : Array Value) (ccs : Array (Option Value)) (file : Str) (tf : Tok), K.lookup cda = some ⟨ccl, cdd, .fields vs, ccs⟩ ∧ vs[2]? = some (.str file tf) ∧ ((P.main.file : Str) == file) = true) ∧
      ∃ (cl : Value) (cld : Option Addr) (csl : Array (Option Value)), K.lookup cc = some ⟨cl, cld, .cell (some (.ref C)), csl⟩ := by
  unfold iniB at q
  split at q
  · rename_i oc od fd osl lk
    simp only [Bool.and_eq_true, beq_iff_eq] at q
    obtain ⟨⟨d1, d2⟩, hcd, hfile, hcell⟩ := q
    have hw : initW K = some (fd.name, fd.qualname, fd.params, fd.body, fd.scope, fd.globals, fd.closure.map (·.1), fd.builtins) := by
      unfold initW fnW
      rw [show fAd K ("BadArgument", some "__init__") = ma K (ga K "BadArgument") "__init__" from rfl, lk]
      rfl
    rw [hw] at hi
    obtain ⟨n1, n2, n3, n4, n5, n6, n7, n8, n9, n10, n11, n12, n13, n14, n15⟩ := fd
    dsimp only at d1 d2 hcd hfile hcell hi
    have hi := Option.some.inj hi
    simp only [Prod.mk.injEq] at hi
    obtain ⟨rfl, rfl, rfl, rfl, rfl, rfl, e7, rfl⟩ := hi
    subst d1 d2
    split at hfile
    · rename_i cda
      split at hcell
      · rename_i nm cc
        have e7 : [nm] = [("__class__" : Str)] := e7
        cases e7
        refine ⟨oc, od, _, _, _, cda, _, cc, osl, lk, hcd, ?_, ?_⟩
        · split at hfile
          · rename_i ccl cdd vs ccs lk2
            split at hfile
            · rename_i f tf hf
              exact ⟨ccl, cdd, vs, ccs, f, tf, lk2, hf, hfile⟩
            · cases hfile
          · cases hfile
        · split at hcell
          · rename_i cl cld C' csl lk3
            have z : C' = C := eq_of_beq hcell
            subst z
            exact ⟨cl, cld, csl, lk3⟩
          · cases hcell
      · cases hcell
    · cases hfile
  · cases q
theorem badTxt_of {P : Program} {fa : List Fa} {fn : List DefD} {tf : List Defn} {h : Heap} {K : Frag} {mg : Str → Option Value} (c : SaysY fa fn tf P.main.file h K) (gC : mg "BadArgument" = some (.ref (ga K "BadArgument"))) (gS : mg "super" = none) (top : (P.main.scope.names.lookup ("super" : Str)).isSome = false)
    (te : exmOne K (.ref (ga K "BadArgument")) (.ref (ga K "BadArgument")) = some true) : BadTxt P K mg (ga K "BadArgument") := by
  have m := c.more
  unfold exB at m
  obtain ⟨m0, m⟩ := ba m
  obtain ⟨m1, m2⟩ := ba m0
  obtain ⟨m0, m⟩ := ba m
  obtain ⟨m3, m4⟩ := ba m0
  obtain ⟨m0, m⟩ := ba m
  obtain ⟨m5, m6⟩ := ba m0
  obtain ⟨m0, m⟩ := ba m
  obtain ⟨m7, m8⟩ := ba m0
  obtain ⟨m0, m⟩ := ba m
  obtain ⟨m9, m10⟩ := ba m0
  obtain ⟨m0, m⟩ := ba m
  obtain ⟨m11, m12⟩ := ba m0
  obtain ⟨m0, m⟩ := ba m
  obtain ⟨m13, m14⟩ := ba m0
  obtain ⟨m0, m⟩ := ba m
  obtain ⟨m15, m16⟩ := ba m0
  exact ⟨gC, gS, top, clsB_ok m1, He.eqO_ok m3, He.eqO_ok m4, He.eqO_ok m5, He.eqO_ok m6, m7, opB_ok m9, of_decide_eq_true m12, m8, te, He.eqO_ok m13, He.eqO_ok m14, opB_ok m10, opB_ok m11, ⟨_, He.eqO_ok m15, of_decide_eq_true m16, ini_ok rfl c.ini m2⟩⟩
/-- the tables' list -/
def tabT (K : Frag) (tf : List Defn) : List (Addr × Str) := tf.map fun p => ((cT K p).2, p.1 ++ ".<locals>." ++ "<lambda>")
theorem lamD_of {G : Gx} {fa : List Fa} {fn : List DefD} {tf : List Defn} {file : Str} {h : Heap} (c : SaysY fa fn tf file h G.K) (hT : G.T = tabT G.K tf) (tb : ∀ p ∈ tf.map (cT G.K), LamX.TabB G.base G.mg p.1 p.2) {x : Str} {i : Nat} (hi : tf[i]? = some (x, none)) {fd : FuncData} {ps : Arguments} {body : List Stmt} {sc : Scope}
    (F : FunD G.K x x ps body sc [] [] (fAd G.K (x, none)) fd) : LamD G x (fAd G.K (x, none)) := by
  obtain ⟨oc, od, dV, kV, doc, pm, an, cdv, ct, osl, rfl, lk, hcd, _, _⟩ := F.ex
  obtain ⟨cc, rfl⟩ := codeIn_ref hcd
  have ec : codeOf G.K (x, none) = cc := codeOf_eq lk rfl
  have hm : (x, (none : Option Str)) ∈ tf := List.mem_of_getElem? hi
  have m := c.more
  unfold exB at m
  have nd : (tf.map fun p => (cT G.K p).2).Nodup := of_decide_eq_true (ba (ba (ba (ba (ba (ba (ba (ba m).2).2).2).2).2).2).2).2
  refine ⟨cc, (cT G.K (x, none)).2, ⟨_, _, _, _, lk, rfl⟩, ?_, ?_, fun p hp e => ?_⟩
  · have z := tb _ (List.mem_map_of_mem (f := cT G.K) hm)
    rw [← ec]
    exact z
  · rw [hT]
    exact List.mem_map_of_mem (f := fun p : Defn => ((cT G.K p).2, p.1 ++ ".<locals>." ++ "<lambda>")) hm
  · rw [hT] at hp
    obtain ⟨y, hy, rfl⟩ := List.mem_map.mp hp
    have e : (cT G.K y).2 = (cT G.K (x, none)).2 := e
    obtain ⟨j, hj, ej⟩ := List.mem_iff_getElem.mp hy
    obtain ⟨l, hl, el⟩ := List.mem_iff_getElem.mp hm
    have this : j = l := by
      have hj' : j < (tf.map fun p => (cT G.K p).2).length := by rw [List.length_map]; exact hj
      have hl' : l < (tf.map fun p => (cT G.K p).2).length := by rw [List.length_map]; exact hl
      have ee : (tf.map fun p => (cT G.K p).2)[j] = (tf.map fun p => (cT G.K p).2)[l] := by rw [List.getElem_map, List.getElem_map, ej, el]; exact e
      rcases Nat.lt_trichotomy j l with z | z | z
      · exact absurd ee (List.pairwise_iff_getElem.mp nd j l hj' hl' z)
      · exact z
      · exact absurd ee.symm (List.pairwise_iff_getElem.mp nd l j hl' hj' z)
    subst this
    rw [ej] at el
    rw [el]
theorem spL_eq {P P' : Program} {w w' : World} {K : Frag} {mg mg' : Str → Option Value} {b b' : Heap} {T : List (Addr × Str)} {C C' : Addr} {F F' : List Addr} {f : List Int → Out} : spL ⟨P, w, K, mg, b, T, C, F⟩ f = spL ⟨P', w', K, mg', b', T, C', F'⟩ f := by
  have hS : ∀ R H, Start ⟨P, w, K, mg, b, T, C, F⟩ R H = Start ⟨P', w', K, mg', b', T, C', F'⟩ R H := fun R H => propext ⟨fun s => ⟨s.sub, s.dat, s.lens, s.tabs⟩, fun s => ⟨s.sub, s.dat, s.lens, s.tabs⟩⟩
  have hA : ∀ d R H R' H', After ⟨P, w, K, mg, b, T, C, F⟩ d R H R' H' = After ⟨P', w', K, mg', b', T, C', F'⟩ d R H R' H' := fun d R H R' H' => propext ⟨fun s => ⟨s.ext, s.sub, s.dat, s.lens, s.kept, s.there, s.tabs, s.old⟩, fun s => ⟨s.ext, s.sub, s.dat, s.lens, s.kept, s.there, s.tabs, s.old⟩⟩
  funext vs H Q E
  unfold spL
  simp only [hS, hA]
end Pm

/-! Pm17: the plain functions, read. -/
namespace Pm
open PySem PySem.Spec PyProof.Rows L2
def ab (i : Int) : Int := if i < 0 then -i else i
section
variable (i j l n : Nat) (d : D) (ρ : PE0) (m ma mb mc : ME) (a r : MA) (f g : D → D → Option D) (p q : D → D → Option Bool) (t ta tb : MT) (u v : MS) (o : MO)
@[simp] theorem mVar_eq : mVar i ρ = (match ρ[i]? with | some (.v d) => .ok d ρ | some (.own w) => .ok w.d (ρ.set i (.v w.d)) | _ => .bad) := rfl
@[simp] theorem mC_eq : mC d ρ = .ok d ρ := rfl
@[simp] theorem mNil_eq : mNil ρ = .ok [] ρ := rfl
@[simp] theorem mCons_eq : mCons m r ρ = (m ρ).bind fun d ρ1 => (r ρ1).bind fun ds ρ2 => .ok (d :: ds) ρ2 := rfl
@[simp] theorem mTup_eq : mTup a ρ = (a ρ).bind fun ds ρ' => .ok (.tuple ds) ρ' := rfl
@[simp] theorem mLst_eq : mLst a ρ = (a ρ).bind fun ds ρ' => .ok (.l ds) ρ' := rfl
@[simp] theorem mGive_eq : mGive o ρ = (o ρ).bind fun w ρ' => .ok w.d ρ' := rfl
@[simp] theorem Ow_d_l (ds : List D) : (Ow.l ds).d = .list ds := rfl
@[simp] theorem mOp2_eq : mOp2 f ma mb ρ = (ma ρ).bind fun a ρ1 => (mb ρ1).bind fun b ρ2 => Re.opt (f a b) ρ2 := rfl
@[simp] theorem mOp1_eq (f : D → Option D) : mOp1 f ma ρ = (ma ρ).bind fun a ρ1 => Re.opt (f a) ρ1 := rfl
@[simp] theorem mCmp_eq : mCmp p ma mb ρ = (ma ρ).bind fun a ρ1 => (mb ρ1).bind fun b ρ2 => Re.opt ((p a b).map .bool) ρ2 := rfl
@[simp] theorem tCmpM_eq : tCmpM p ma mb ρ = (ma ρ).bind fun a ρ1 => (mb ρ1).bind fun b ρ2 => Re.opt (p a b) ρ2 := rfl
@[simp] theorem mChainB_eq : mChainB p q ma mb mc ρ = (ma ρ).bind fun a ρ1 => (mb ρ1).bind fun b ρ2 => (Re.opt (p a b) ρ2).bind fun c ρ2 => if c = true then (mc ρ2).bind fun z ρ3 => Re.opt (q b z) ρ3 else .ok false ρ2 := rfl
@[simp] theorem mB_eq : mB t ρ = (t ρ).bind fun b ρ1 => .ok (.bool b) ρ1 := rfl
@[simp] theorem mT_eq : mT m ρ = (m ρ).bind fun d ρ1 => match d with | .bool b => .ok b ρ1 | _ => .bad := rfl
@[simp] theorem mAndT_eq : mAndT ta tb ρ = (ta ρ).bind fun a ρ1 => if a = true then tb ρ1 else .ok false ρ1 := rfl
@[simp] theorem mOrT_eq : mOrT ta tb ρ = (ta ρ).bind fun a ρ1 => if a = true then .ok true ρ1 else tb ρ1 := rfl
@[simp] theorem mNotT_eq : mNotT ta ρ = (ta ρ).bind fun a ρ1 => .ok (!a) ρ1 := rfl
@[simp] theorem mAnd_eq : mAnd ma mb ρ = (ma ρ).bind fun a ρ1 => match a with | .bool true => mb ρ1 | .bool false => .ok (.bool false) ρ1 | _ => .bad := rfl
@[simp] theorem mOr_eq : mOr ma mb ρ = (ma ρ).bind fun a ρ1 => match a with | .bool false => mb ρ1 | .bool true => .ok (.bool true) ρ1 | _ => .bad := rfl
@[simp] theorem mNot_eq : mNot ma ρ = (ma ρ).bind fun a ρ1 => match a with | .bool b => .ok (.bool (!b)) ρ1 | _ => .bad := rfl
@[simp] theorem mIf_eq : mIf t ma mb ρ = (t ρ).bind fun c ρ1 => if c = true then ma ρ1 else mb ρ1 := rfl
@[simp] theorem mNoP_eq : mNoP ρ = .ok none ρ := rfl
@[simp] theorem mPart_eq : mPart m ρ = (m ρ).bind fun d ρ1 => match d with | .int i => .ok (some i) ρ1 | _ => .bad := rfl
@[simp] theorem mSlice_eq (ml mh : PE0 → Re (Option Int)) : mSlice m ml mh ρ = (m ρ).bind fun d ρ1 => (ml ρ1).bind fun lo ρ2 => (mh ρ2).bind fun hi ρ3 => Re.opt (sliceD d lo hi) ρ3 := rfl
@[simp] theorem mCallB_eq (f : List D → Option D) : mCallB f a ρ = (a ρ).bind fun ds ρ1 => Re.opt (f ds) ρ1 := rfl
@[simp] theorem mCallO_eq (f : List D → Option Ow) : mCallO f a ρ = (a ρ).bind fun ds ρ1 => Re.opt (f ds) ρ1 := rfl
@[simp] theorem mIsi_eq (f : D → Bool) : mIsi f m ρ = (m ρ).bind fun d ρ1 => .ok (.bool (f d)) ρ1 := rfl
@[simp] theorem mCall_eq (F : List D → Out) : mCall F a ρ = (a ρ).bind fun ds ρ1 => match F ds with | .ok d => .ok d ρ1 | _ => .bad := rfl
@[simp] theorem mCallK_eq (F : List D → Out) (is : List Nat) : mCallK F is a r ρ = (a ρ).bind fun ds ρ1 => (r ρ1).bind fun es ρ2 => match F (kwG is ds es) with | .ok d => .ok d ρ2 | _ => .bad := rfl
@[simp] theorem mItems_eq : mItems m ρ = (m ρ).bind fun d ρ1 => Re.opt (itemsD d) ρ1 := rfl
@[simp] theorem mRng_eq (f : List D → Option (List D)) : mRng f a ρ = (a ρ).bind fun ds ρ1 => Re.opt (f ds) ρ1 := rfl
@[simp] theorem mYes_eq : mYes ρ = .ok true ρ := rfl
@[simp] theorem mNx_eq : mNx ρ = .nx ρ := rfl
@[simp] theorem mSq_eq : mSq u v ρ = (match u ρ with | .nx ρ1 => v ρ1 | fl => fl) := rfl
@[simp] theorem mRet_eq : mRet m ρ = Fl.of (m ρ) fun d ρ1 => .rt d ρ1 := rfl
@[simp] theorem mRetO_eq : mRetO o ρ = Fl.of (o ρ) fun w ρ1 => .rto w ρ1 := rfl
@[simp] theorem mDrop_eq : mDrop m ρ = Fl.of (m ρ) fun _ ρ1 => .nx ρ1 := rfl
@[simp] theorem mIfS_eq : mIfS t u v ρ = Fl.of (t ρ) fun c ρ1 => if c = true then u ρ1 else v ρ1 := rfl
@[simp] theorem mSt_eq : mSt i m ρ = Fl.of (m ρ) fun d ρ1 => if i < ρ1.length then .nx (ρ1.set i (.v d)) else .bad := rfl
@[simp] theorem mStO_eq : mStO i o ρ = Fl.of (o ρ) fun w ρ1 => if i < ρ1.length then .nx (ρ1.set i (.own w)) else .bad := rfl
@[simp] theorem mAsg_eq (mg : MG) : mAsg mg m ρ = Fl.of (m ρ) fun d ρ1 => match mg d ρ1 with | some ρ2 => .nx ρ2 | none => .bad := rfl
@[simp] theorem mPar_eq : mPar i j a ρ = Fl.of (a ρ) fun ds ρ1 => match ds with | [a, b] => if i < ρ1.length ∧ j < ρ1.length then .nx ((ρ1.set i (.v a)).set j (.v b)) else .bad | _ => .bad := rfl
@[simp] theorem mPar3_eq : mPar3 i j l a ρ = Fl.of (a ρ) fun ds ρ1 => match ds with | [a, b, c] => if i < ρ1.length ∧ j < ρ1.length ∧ l < ρ1.length then .nx (((ρ1.set i (.v a)).set j (.v b)).set l (.v c)) else .bad | _ => .bad := rfl
@[simp] theorem mFor_eq (mg : MG) : mFor a mg u ρ = Fl.of (a ρ) fun ds ρ1 => forGo mg u ds ρ1 := rfl
@[simp] theorem mMeth_eq (f : List D → List D → Option (List D)) : mMeth i f a ρ = Fl.of (a ρ) fun ds ρ1 => match ρ[i]?, ρ1[i]? with | some (.own (.l _)), some (.own (.l xs)) => (match f xs ds with | some ys => .nx (ρ1.set i (.own (.l ys))) | none => .bad) | _, _ => .bad := rfl
@[simp] theorem mAug_eq (f : Int → Int → Int) : mAug i f m ρ = (match ρ[i]? with | some (.v (.int a)) => Fl.of (m ρ) fun d ρ1 => (match d with | .int b => if i < ρ1.length then .nx (ρ1.set i (.v (.int (f a b)))) else .bad | _ => .bad) | _ => .bad) := rfl
@[simp] theorem mCallX_eq (F : List D → Out) : mCallX F a ρ = Fl.of (a ρ) fun ds ρ1 => match F ds with | .ok _ => .nx ρ1 | .exc n => .ex n ρ1 | .bad => .bad := rfl
@[simp] theorem mRaise_eq : mRaise m ρ = Fl.of (m ρ) fun d ρ1 => match d with | .str x => .ex x ρ1 | _ => .bad := rfl
@[simp] theorem mRef_eq (F : PE0 → Re Out) : mRef F ρ = (F ρ).bind fun o ρ1 => match o with | .ok _ => .ok (.str "") ρ1 | .exc n => .ok (.str n) ρ1 | .bad => .bad := rfl
@[simp] theorem mRun_eq (F : List D → Out) : mRun F a ρ = (a ρ).bind fun ds ρ1 => .ok (F ds) ρ1 := rfl
@[simp] theorem gSet_eq : gSet i d ρ = if i < ρ.length then some (ρ.set i (.v d)) else none := rfl
@[simp] theorem gsNil_eq : gsNil [] ρ = some ρ := rfl
@[simp] theorem gsCons_eq (mg : MG) (s : List D → PE0 → Option PE0) (ds : List D) : gsCons mg s (d :: ds) ρ = (mg d ρ).bind (s ds) := rfl
@[simp] theorem gTupM_eq (s : List D → PE0 → Option PE0) (ds : List D) : gTupM n s (.tuple ds) ρ = if ds.length = n then s ds ρ else none := rfl
@[simp] theorem fnP_eq (ds : List D) : fnP n u ds = outOf (u (ps0 n ds)) := rfl
@[simp] theorem ps0_0 : ps0 n [] = List.replicate n Sl.un := rfl
@[simp] theorem ps0_1 (a : D) : ps0 n [a] = .v a :: List.replicate (n - 1) Sl.un := rfl
@[simp] theorem ps0_2 (a b : D) : ps0 n [a, b] = .v a :: .v b :: List.replicate (n - 2) Sl.un := rfl
@[simp] theorem ps0_3 (a b c : D) : ps0 n [a, b, c] = .v a :: .v b :: .v c :: List.replicate (n - 3) Sl.un := rfl
@[simp] theorem ps0_4 (a b c e : D) : ps0 n [a, b, c, e] = .v a :: .v b :: .v c :: .v e :: List.replicate (n - 4) Sl.un := rfl
@[simp] theorem outOf_rt : outOf (.rt d ρ) = .ok d := rfl
@[simp] theorem outOf_nx : outOf (.nx ρ) = .ok .none := rfl
@[simp] theorem outOf_ex (x : Str) : outOf (.ex x ρ) = .exc x := rfl
@[simp] theorem addD_int (i j : Int) : addD (.int i) (.int j) = some (.int (i + j)) := rfl
@[simp] theorem subI_int (i j : Int) : subI (.int i) (.int j) = some (.int (i - j)) := rfl
@[simp] theorem negI_int (i : Int) : negI (.int i) = some (.int (-i)) := rfl
@[simp] theorem ltI_int (i j : Int) : ltI (.int i) (.int j) = some (decide (i < j)) := rfl
@[simp] theorem leI_int (i j : Int) : leI (.int i) (.int j) = some (decide (i ≤ j)) := rfl
@[simp] theorem gtI_int (i j : Int) : gtI (.int i) (.int j) = some (decide (j < i)) := rfl
@[simp] theorem geI_int (i j : Int) : geI (.int i) (.int j) = some (decide (j ≤ i)) := rfl
@[simp] theorem lenD_l (ds : List D) : lenD [.list ds] = some (.int ds.length) := rfl
@[simp] theorem lenD_t (ds : List D) : lenD [.tuple ds] = some (.int ds.length) := rfl
@[simp] theorem itemsD_l (ds : List D) : itemsD (.list ds) = some ds := rfl
@[simp] theorem itemsD_t (ds : List D) : itemsD (.tuple ds) = some ds := rfl
@[simp] theorem tupleD_l (ds : List D) : tupleD [.list ds] = some (.tuple ds) := rfl
@[simp] theorem absI_int (i : Int) : absI [.int i] = some (.int (ab i)) := rfl
@[simp] theorem intD_int (i : Int) : intD [.int i] = some (.int i) := rfl
end
@[simp] theorem shp_int (i : Int) : shp (.int i) = true := rfl
@[simp] theorem eqO_int (i j : Int) : eqO (.int i) (.int j) = some (decide (i = j)) := by
  show some (PyData.eqv (.int i) (.int j)) = _
  rw [PyData.eqv]
  congr
@[simp] theorem neO_int (i j : Int) : neO (.int i) (.int j) = some (!decide (i = j)) := by
  show some (!PyData.eqv (.int i) (.int j)) = _
  rw [PyData.eqv]
  congr
end Pm

/-! Pm18: plain laws of loops, comprehensions, the dice. -/
namespace Pm
open PySem PySem.Spec PyProof.Rows L2
section
variable (i n : Nat) (d : D) (ρ : PE0) (m : ME) (a : MA) (c : List D)
@[simp] theorem mDix_eq : mDix i m ρ = (match diceAt i ρ with | some _ => (m ρ).bind fun d ρ1 => (match diceAt i ρ1 with | some c => Re.opt (ixD (.list c) d) ρ1 | none => .bad) | none => .bad) := rfl
@[simp] theorem mDset_eq (k : Int) : mDset i k m ρ = Fl.of (m ρ) fun d ρ1 => match diceAt i ρ1 with | some c => (match ixN c.length k with | some j => .nx (ρ1.set i (.dice (c.set j d))) | none => .bad) | none => .bad := rfl
@[simp] theorem mCallD_eq (F : List D → List D → OutD) : mCallD F i a ρ = (match diceAt i ρ with | some _ => (a ρ).bind fun ds ρ1 => (match diceAt i ρ1 with | some c => (match F c ds with | .ok d c' => .ok d (ρ1.set i (.dice c')) | _ => .bad) | none => .bad) | none => .bad) := rfl
@[simp] theorem diceAt_eq' : diceAt i ρ = (match ρ[i]? with | some (.dice c) => some c | _ => none) := rfl
@[simp] theorem fnD_eq (u : MS) (ds : List D) : fnD n u c ds = outD (u (psD n c ds)) := rfl
@[simp] theorem psD_0 : psD n c [] = .dice c :: List.replicate (n - 1) Sl.un := rfl
@[simp] theorem psD_1 : psD n c [d] = .dice c :: .v d :: List.replicate (n - 2) Sl.un := rfl
@[simp] theorem psD_2 (e : D) : psD n c [d, e] = .dice c :: .v d :: .v e :: List.replicate (n - 3) Sl.un := rfl
@[simp] theorem outD_rt : outD (.rt d (.dice c :: ρ)) = .ok d c := rfl
@[simp] theorem outD_nx : outD (.nx (.dice c :: ρ)) = .ok .none c := rfl
end
/-! ### comprehensions -/
theorem back_wipe (vs : List Nat) (ρ : PE0) : backP vs ρ (wipeP vs ρ) = ρ := by
  apply List.ext_getElem?
  intro j
  by_cases hj : j ∈ vs
  · by_cases hl : j < ρ.length
    · rw [backP_in hj (List.getElem?_eq_getElem hl) (by rw [wipeP_length]; exact hl), List.getElem?_eq_getElem hl]
    · rw [List.getElem?_eq_none (by rw [backP_length, wipeP_length]; omega), List.getElem?_eq_none (by omega)]
  · rw [backP_out hj]
    induction vs with
    | nil => rfl
    | cons v vs ih =>
      show ((wipeP vs ρ).set v .un)[j]? = _
      rw [List.getElem?_set_ne (fun z => hj (by rw [z]; exact List.mem_cons_self))]
      exact ih fun z => hj (List.mem_cons_of_mem _ z)
theorem lcGo_pure {vs : List Nat} {mg : MG} {mt : MT} {me : ME} {ρ : PE0} (b : D → Bool) (f : D → D) : ∀ (ds : List D), (∀ d ∈ ds, ∃ ρ1, mg d (wipeP vs ρ) = some ρ1 ∧ mt ρ1 = .ok (b d) ρ1 ∧ (b d = true → me ρ1 = .ok (f d) ρ1) ∧ wipeP vs ρ1 = wipeP vs ρ) →
    ∀ ρ', wipeP vs ρ' = wipeP vs ρ → ∃ ρ2, lcGo vs mg mt me ds ρ' = .ok ((ds.filter b).map f) ρ2 ∧ wipeP vs ρ2 = wipeP vs ρ
  | [], _, ρ', e => ⟨ρ', rfl, e⟩
  | d :: ds, h, ρ', e => by
    obtain ⟨ρ1, h1, h2, h3, h4⟩ := h d List.mem_cons_self
    have ih := lcGo_pure b f ds (fun x hx => h x (List.mem_cons_of_mem _ hx)) ρ1 h4
    obtain ⟨ρ2, i1, i2⟩ := ih
    unfold lcGo
    rw [e, h1]
    dsimp only
    rw [h2, Re.bind_ok]
    cases hb : b d with
    | true =>
      rw [if_pos rfl, h3 hb, Re.bind_ok, i1, Re.bind_ok]
      exact ⟨ρ2, by rw [List.filter_cons, if_pos hb]; rfl, i2⟩
    | false =>
      rw [if_neg Bool.false_ne_true]
      exact ⟨ρ2, by rw [List.filter_cons, if_neg (by rw [hb]; exact Bool.false_ne_true)]; exact i1, i2⟩
theorem mLc_pure {vs : List Nat} {mi : MA} {mg : MG} {mt : MT} {me : ME} {ρ ρ0 : PE0} {ds : List D} (b : D → Bool) (f : D → D) (hi : mi ρ0 = .ok ds ρ) (hp : plainAt vs ρ = true)
    (h : ∀ d ∈ ds, ∃ ρ1, mg d (wipeP vs ρ) = some ρ1 ∧ mt ρ1 = .ok (b d) ρ1 ∧ (b d = true → me ρ1 = .ok (f d) ρ1) ∧ wipeP vs ρ1 = wipeP vs ρ) : mLc vs mi mg mt me ρ0 = .ok (.l ((ds.filter b).map f)) ρ := by
  obtain ⟨ρ2, h1, h2⟩ := lcGo_pure b f ds h ρ rfl
  unfold mLc
  rw [hi, Re.bind_ok, if_pos hp, h1, Re.bind_ok, h2, back_wipe]
/-- one name walked -/
theorem mLc1 {i : Nat} {mi : MA} {mt : MT} {me : ME} {ρ ρ0 : PE0} {ds : List D} (b : D → Bool) (f : D → D) (hi : mi ρ0 = .ok ds ρ) (hp : plainAt [i] ρ = true) (hl : i < ρ.length)
    (h : ∀ d ∈ ds, mt (ρ.set i (.v d)) = .ok (b d) (ρ.set i (.v d)) ∧ (b d = true → me (ρ.set i (.v d)) = .ok (f d) (ρ.set i (.v d)))) : mLc [i] mi (gSet i) mt me ρ0 = .ok (.l ((ds.filter b).map f)) ρ := by
  refine mLc_pure b f hi hp fun d hd => ?_
  have e : gSet i d (wipeP [i] ρ) = some (ρ.set i (.v d)) := by
    show (if i < (ρ.set i .un).length then some ((ρ.set i .un).set i (.v d)) else none) = _
    rw [if_pos (by rw [List.length_set]; exact hl), List.set_set]
  exact ⟨_, e, (h d hd).1, (h d hd).2, by show (ρ.set i (.v d)).set i .un = ρ.set i .un; rw [List.set_set]⟩
/-- one name walked, no test -/
theorem mLc1' {i : Nat} {mi : MA} {me : ME} {ρ ρ0 : PE0} {ds : List D} (f : D → D) (hi : mi ρ0 = .ok ds ρ) (hp : plainAt [i] ρ = true) (hl : i < ρ.length)
    (h : ∀ d ∈ ds, me (ρ.set i (.v d)) = .ok (f d) (ρ.set i (.v d))) : mLc [i] mi (gSet i) mYes me ρ0 = .ok (.l (ds.map f)) ρ := by
  have z := mLc1 (mt := mYes) (fun _ => true) f hi hp hl fun d hd => ⟨rfl, fun _ => h d hd⟩
  rw [List.filter_eq_self.mpr fun _ _ => rfl] at z
  exact z
/-- what changes as it goes: I of the slots, P of the items -/
theorem lcGo_inv {vs : List Nat} {mg : MG} {mt : MT} {me : ME} (I : Nat → PE0 → Prop) (P : D → Prop) (K : Nat) : ∀ (ds : List D) (k : Nat) (ρ : PE0), k + ds.length = K → (∀ d ∈ ds, ∀ k ρ, k < K → I k ρ → ∃ ρ1, mg d (wipeP vs ρ) = some ρ1 ∧ mt ρ1 = .ok true ρ1 ∧ ∃ y ρ2, me ρ1 = .ok y ρ2 ∧ P y ∧ I (k + 1) ρ2) → I k ρ →
    ∃ ys ρ2, lcGo vs mg mt me ds ρ = .ok ys ρ2 ∧ ys.length = ds.length ∧ (∀ y ∈ ys, P y) ∧ I K ρ2
  | [], k, ρ, hK, _, i => ⟨[], ρ, rfl, rfl, fun _ h => (by cases h), by rw [← hK]; exact i⟩
  | d :: ds, k, ρ, hK, h, i => by
    rw [List.length_cons] at hK
    obtain ⟨ρ1, h1, h2, y, ρ2, h3, h4, h5⟩ := h d List.mem_cons_self k ρ (by omega) i
    obtain ⟨ys, ρ3, i1, i2, i3, i4⟩ := lcGo_inv I P K ds (k + 1) ρ2 (by omega) (fun x hx => h x (List.mem_cons_of_mem _ hx)) h5
    refine ⟨y :: ys, ρ3, ?_, by rw [List.length_cons, List.length_cons, i2], fun z hz => ?_, i4⟩
    · unfold lcGo
      rw [h1]
      dsimp only
      rw [h2, Re.bind_ok, if_pos rfl, h3, Re.bind_ok, i1, Re.bind_ok]
    · rcases List.mem_cons.mp hz with e | e
      · rw [e]; exact h4
      · exact i3 z e
/-! ### loops -/
theorem forGo_rel {mg : MG} {mb : MS} (I : List D → PE0 → Prop) (all : List D) : ∀ (ds pre : List D) (ρ : PE0), pre ++ ds = all → I pre ρ → (∀ pre d post ρ, pre ++ d :: post = all → I pre ρ → ∃ ρ1 ρ2, mg d ρ = some ρ1 ∧ mb ρ1 = .nx ρ2 ∧ I (pre ++ [d]) ρ2) → ∃ ρ2, forGo mg mb ds ρ = .nx ρ2 ∧ I all ρ2
  | [], pre, ρ, e, i, _ => ⟨ρ, rfl, by rw [List.append_nil] at e; rw [← e]; exact i⟩
  | d :: ds, pre, ρ, e, i, h => by
    obtain ⟨ρ1, ρ2, h1, h2, h3⟩ := h pre d ds ρ e i
    obtain ⟨ρ3, j1, j2⟩ := forGo_rel I all ds (pre ++ [d]) ρ2 (by rw [List.append_assoc]; exact e) h3 h
    refine ⟨ρ3, ?_, j2⟩
    unfold forGo
    rw [h1]
    dsimp only
    rw [h2]
    exact j1
theorem mem_mid {α : Type} {pre post all : List α} {d : α} (e : pre ++ d :: post = all) : d ∈ all := by rw [← e]; simp
theorem len_mid {α : Type} {pre post all : List α} {d : α} (e : pre ++ d :: post = all) : pre.length < all.length := by rw [← e, List.length_append, List.length_cons]; omega
theorem mem_pre {α : Type} {pre post all : List α} {d x : α} (e : pre ++ d :: post = all) (h : x ∈ pre) : x ∈ all := by rw [← e]; exact List.mem_append_left _ h
/-- each item is tested; the first that fails ends the def -/
theorem forGo_test {mg : MG} {mb : MS} (I : PE0 → Prop) (p : D → Bool) (v : D) : ∀ (ds : List D) (ρ : PE0), I ρ → (∀ d ρ, d ∈ ds → I ρ → ∃ ρ1, mg d ρ = some ρ1 ∧ (p d = true → ∃ ρ2, mb ρ1 = .nx ρ2 ∧ I ρ2) ∧ (p d = false → ∃ ρ2, mb ρ1 = .rt v ρ2)) →
    (ds.all p = true ∧ ∃ ρ2, forGo mg mb ds ρ = .nx ρ2 ∧ I ρ2) ∨ (ds.all p = false ∧ ∃ ρ2, forGo mg mb ds ρ = .rt v ρ2)
  | [], ρ, i, _ => .inl ⟨rfl, ρ, rfl, i⟩
  | d :: ds, ρ, i, h => by
    obtain ⟨ρ1, h1, h2, h3⟩ := h d ρ List.mem_cons_self i
    cases hp : p d with
    | true =>
      obtain ⟨ρ2, e2, i2⟩ := h2 hp
      have step : forGo mg mb (d :: ds) ρ = forGo mg mb ds ρ2 := by
        conv => lhs; unfold forGo
        rw [h1]
        dsimp only
        rw [e2]
      rw [step, List.all_cons, hp, Bool.true_and]
      exact forGo_test I p v ds ρ2 i2 fun x r hx => h x r (List.mem_cons_of_mem _ hx)
    | false =>
      obtain ⟨ρ2, e2⟩ := h3 hp
      refine .inr ⟨by rw [List.all_cons, hp, Bool.false_and], ρ2, ?_⟩
      unfold forGo
      rw [h1]
      dsimp only
      rw [e2]
/-! ### small numbers -/
theorem log2_lt {i : Int} (h : i.natAbs < 2 ^ 64) : i.natAbs.log2 < 64 := by
  by_cases z : i.natAbs = 0
  · rw [z]; decide
  · exact (Nat.log2_lt z).mpr h
theorem mulI_int {i j : Int} (h1 : i.natAbs < 2 ^ 64) (h2 : j.natAbs < 2 ^ 64) : mulI (.int i) (.int j) = some (.int (i * j)) := by
  unfold mulI
  exact if_pos (by have := log2_lt h1; have := log2_lt h2; omega)
theorem divI_int {i j : Int} (h1 : 0 < j) (h2 : j.natAbs < 2 ^ 64) : divI (.int i) (.int j) = some (.int (i / j)) := by
  unfold divI
  exact if_pos ⟨h1, by have := log2_lt h2; omega⟩
theorem modI_int {i j : Int} (h1 : 0 < j) : modI (.int i) (.int j) = some (.int (i % j)) := by
  unfold modI
  exact if_pos h1
/-! ### what may be compared -/
def Sh (n : Nat) (d : D) : Prop := d.plain = true ∧ d.depth ≤ n
theorem Sh.mono {m n : Nat} {d : D} (h : Sh m d) (e : m ≤ n) : Sh n d := ⟨h.1, Nat.le_trans h.2 e⟩
theorem sh_int {n : Nat} (i : Int) : Sh n (.int i) := ⟨rfl, Nat.zero_le _⟩
theorem sh_bool {n : Nat} (b : Bool) : Sh n (.bool b) := ⟨rfl, Nat.zero_le _⟩
theorem sh_str {n : Nat} (x : Str) : Sh n (.str x) := ⟨rfl, Nat.zero_le _⟩
theorem sh_none {n : Nat} : Sh n .none := ⟨rfl, Nat.zero_le _⟩
theorem sh_all {n : Nat} : ∀ {ds : List D}, (∀ d ∈ ds, Sh n d) → PyData.plainAll ds = true ∧ PyData.depthAll ds ≤ n
  | [], _ => ⟨rfl, Nat.zero_le _⟩
  | d :: ds, h => by
    obtain ⟨h1, h2⟩ := h d List.mem_cons_self
    obtain ⟨h3, h4⟩ := sh_all (ds := ds) fun x hx => h x (List.mem_cons_of_mem _ hx)
    exact ⟨by rw [PyData.plainAll, h1, h3]; rfl, by rw [PyData.depthAll]; exact Nat.max_le.mpr ⟨h2, h4⟩⟩
theorem sh_list {n : Nat} {ds : List D} (h : ∀ d ∈ ds, Sh n d) : Sh (n + 1) (.list ds) := ⟨(sh_all h).1, by rw [PyData.depth]; exact Nat.succ_le_succ (sh_all h).2⟩
theorem sh_tup {n : Nat} {ds : List D} (h : ∀ d ∈ ds, Sh n d) : Sh (n + 1) (.tuple ds) := ⟨(sh_all h).1, by rw [PyData.depth]; exact Nat.succ_le_succ (sh_all h).2⟩
theorem sh_ints {n : Nat} (ns : List Int) : ∀ d ∈ ns.map PyData.int, Sh n d := fun d hd => by
  obtain ⟨i, _, rfl⟩ := List.mem_map.mp hd
  exact sh_int i
theorem Sh.shp {n : Nat} {d : D} (h : Sh n d) (e : n ≤ 64 := by decide) : shp d = true := shp_of h.1 (Nat.le_trans h.2 e)
theorem eqO_self {n : Nat} {d : D} (h : Sh n d) (e : n ≤ 64 := by decide) : eqO d d = some true := by
  unfold eqO
  rw [h.shp e, if_pos (show (true && true) = true from rfl), PySem.SeqAt.eqv_refl_plain d h.1]
theorem neO_self {n : Nat} {d : D} (h : Sh n d) (e : n ≤ 64 := by decide) : neO d d = some false := by
  unfold neO
  rw [h.shp e, if_pos (show (true && true) = true from rfl), PySem.SeqAt.eqv_refl_plain d h.1]
  rfl
theorem eqO_nil {n : Nat} {ds : List D} (h : ∀ d ∈ ds, Sh n d) (e : n + 1 ≤ 64 := by decide) : eqO (.list ds) (.list []) = some ds.isEmpty := by
  unfold eqO
  rw [(sh_list h).shp e, show shp (.list []) = true from rfl, if_pos (show (true && true) = true from rfl)]
  cases ds with
  | nil => rfl
  | cons d ds => rfl
theorem neO_nil {n : Nat} {ds : List D} (h : ∀ d ∈ ds, Sh n d) (e : n + 1 ≤ 64 := by decide) : neO (.list ds) (.list []) = some !ds.isEmpty := by
  unfold neO
  rw [(sh_list h).shp e, show shp (.list []) = true from rfl, if_pos (show (true && true) = true from rfl)]
  cases ds with
  | nil => rfl
  | cons d ds => rfl
@[simp] theorem eqO_str (x y : Str) : eqO (.str x) (.str y) = some (decide (x = y)) := by
  show some (PyData.eqv (.str x) (.str y)) = _
  rw [PyData.eqv]
  congr
@[simp] theorem neO_str (x y : Str) : neO (.str x) (.str y) = some (!decide (x = y)) := by
  show some (!PyData.eqv (.str x) (.str y)) = _
  rw [PyData.eqv]
  congr
@[simp] theorem ix0 (d : D) (ds : List D) : ixD (.tuple (d :: ds)) (.int 0) = some d := by
  show L2.atI (d :: ds) 0 = some d
  exact L2.atI_nat (j := 0) rfl
@[simp] theorem ix1 (d e : D) (ds : List D) : ixD (.tuple (d :: e :: ds)) (.int 1) = some e := by
  show L2.atI (d :: e :: ds) 1 = some e
  exact L2.atI_nat (j := 1) rfl
theorem ix_at {ds : List D} {i : Int} (h0 : 0 ≤ i) (h1 : i < ds.length) : ∃ d, d ∈ ds ∧ ixD (.list ds) (.int i) = some d ∧ ixD (.tuple ds) (.int i) = some d := by
  have hl : i.toNat < ds.length := by omega
  have e : ds[i.toNat]? = some ds[i.toNat] := List.getElem?_eq_getElem hl
  have z := L2.atI_nat e
  have ei : ((i.toNat : Nat) : Int) = i := Int.toNat_of_nonneg h0
  rw [ei] at z
  exact ⟨_, List.getElem_mem hl, z, z⟩
/-! ### sums -/
theorem intsOf_ints (ns : List Int) : intsOf (ns.map .int) = some ns := intsOf_map ns
@[simp] theorem sumL_ints (ns : List Int) : sumL [.list (ns.map .int)] = some (.int ns.sum) := by
  unfold sumL
  dsimp only
  rw [intsOf_ints]
  rfl
@[simp] theorem allL_bools (bs : List Bool) : allL [.list (bs.map .bool)] = some (.bool (bs.all id)) := by
  unfold allL
  dsimp only
  rw [boolsOf_map]
  rfl
@[simp] theorem anyL_bools (bs : List Bool) : anyL [.list (bs.map .bool)] = some (.bool (bs.any id)) := by
  unfold anyL
  dsimp only
  rw [boolsOf_map]
  rfl
end Pm

/-! Pm19: the dice, read. -/
namespace Pm
open PySem
theorem mLc1_inv {i : Nat} {mi : MA} {me : ME} {ρ0 ρ1 : PE0} {ds : List D} (I : Nat → PE0 → Prop) (P : D → Prop) (hi : mi ρ0 = .ok ds ρ1) (hp : plainAt [i] ρ1 = true) (h0 : I 0 ρ1)
    (step : ∀ d ∈ ds, ∀ k ρ, k < ds.length → I k ρ → ∃ ρ1, gSet i d (wipeP [i] ρ) = some ρ1 ∧ ∃ y ρ2, me ρ1 = .ok y ρ2 ∧ P y ∧ I (k + 1) ρ2) : ∃ ys ρ2, mLc [i] mi (gSet i) mYes me ρ0 = .ok (.l ys) (backP [i] ρ1 (wipeP [i] ρ2)) ∧ ys.length = ds.length ∧ (∀ y ∈ ys, P y) ∧ I ds.length ρ2 := by
  obtain ⟨ys, ρ2, h1, h2, h3, h4⟩ := lcGo_inv (vs := [i]) (mg := gSet i) (mt := mYes) (me := me) I P ds.length ds 0 ρ1 (Nat.zero_add _) (fun d hd k ρ hk hI => by
    obtain ⟨r1, e1, y, r2, e2, e3, e4⟩ := step d hd k ρ hk hI
    exact ⟨r1, e1, rfl, y, r2, e2, e3, e4⟩) h0
  refine ⟨ys, ρ2, ?_, h2, h3, h4⟩
  unfold mLc
  rw [hi, Re.bind_ok, if_pos hp, h1, Re.bind_ok]
@[simp] theorem ixl0 (d : D) (ds : List D) : ixD (.list (d :: ds)) (.int 0) = some d := L2.atI_nat (j := 0) rfl
@[simp] theorem ixl1 (d e : D) (ds : List D) : ixD (.list (d :: e :: ds)) (.int 1) = some e := L2.atI_nat (j := 1) rfl
@[simp] theorem ixl2 (d e f : D) (ds : List D) : ixD (.list (d :: e :: f :: ds)) (.int 2) = some f := L2.atI_nat (j := 2) rfl
@[simp] theorem ixn0 (n : Nat) : L2.ixN (n + 1) 0 = some 0 := by
  unfold L2.ixN
  rw [if_pos (by decide), if_pos (by omega)]
  rfl
@[simp] theorem ixn1 (n : Nat) : L2.ixN (n + 1 + 1) 1 = some 1 := by
  unfold L2.ixN
  rw [if_pos (by decide), if_pos (by omega)]
  rfl
@[simp] theorem ixn2 (n : Nat) : L2.ixN (n + 1 + 1 + 1) 2 = some 2 := by
  unfold L2.ixN
  rw [if_pos (by decide), if_pos (by omega)]
  rfl
/-- dice that were rolled k times at most -/
def Dc (k : Nat) (c : List D) : Prop := ∃ a b n : Int, c = [.int a, .int b, .int n] ∧ 0 ≤ a ∧ 0 ≤ b ∧ b < 2147480009 ∧ 0 ≤ n ∧ n ≤ k
theorem Dc.mono {j k : Nat} {c : List D} (h : Dc j c) (e : j ≤ k) : Dc k c := by
  obtain ⟨a, b, n, h1, h2, h3, h4, h5, h6⟩ := h
  exact ⟨a, b, n, h1, h2, h3, h4, h5, by omega⟩
end Pm

namespace Pm
open PySem PySem.Spec PyProof.Rows L2
open PySem.Sem (wp)
/-! zip of a list and a tuple, either first: each side bears its kind -/
inductive Kd | lst | tup
def ItK (h : Heap) : Kd → Addr → Addr → Nat → Prop
  | .lst, i, l, n => h.IsListIter i l n
  | .tup, i, l, n => h.IsTupleIter i l n
def SeK (h : Heap) : Kd → Addr → Array Value → Prop
  | .lst, l, xs => h.IsList l xs
  | .tup, l, xs => h.IsTuple l xs
def SqK (K : PySem.W.Frag) (H : Hp) : Kd → Addr → List V → Prop
  | .lst, a, xs => SqL K H a xs
  | .tup, a, xs => SqT K H a xs
def kcls : Kd → String
  | .lst => "list_iterator"
  | .tup => "tuple_iterator"
theorem ItK.ext {h h' : Heap} {c i l : Addr} {n : Nat} : ∀ {k : Kd}, ItK h k i l n → Heap.ExtBut c h h' → i ≠ c → ItK h' k i l n
  | .lst, a, b, e => Heap.IsListIter.extBut a b e
  | .tup, a, b, e => Heap.IsTupleIter.extBut a b e
theorem ItK.to {h h' : Heap} {i l : Addr} {n : Nat} : ∀ {k : Kd}, ItK h k i l n → (∀ o, h.get? i = some o → h'.get? i = some o) → ItK h' k i l n
  | .lst, a, b => Heap.IsListIter.at a b
  | .tup, a, b => Heap.IsTupleIter.at a b
theorem ItK.obj {h : Heap} {i l : Addr} {n : Nat} : ∀ {k : Kd}, ItK h k i l n → ∃ o, h.get? i = some o ∧ ∃ q, o.data = .fields q
  | .lst, ⟨o, e, _, d⟩ => ⟨o, e, _, d⟩
  | .tup, ⟨o, e, _, d⟩ => ⟨o, e, _, d⟩
theorem SeK.ext {h h' : Heap} {c l : Addr} {xs : Array Value} : ∀ {k : Kd}, SeK h k l xs → Heap.ExtBut c h h' → l ≠ c → SeK h' k l xs
  | .lst, a, b, e => Heap.IsList.extBut a b e
  | .tup, a, b, e => Heap.IsTuple.extBut a b e
section
variable {prog : Program} {w : World} {A : Around} {E : Value → Shared → Prop} {s : Shared}
theorem nextK_item {k : Kd} {it l : Addr} {i : Nat} {xs : Array Value} {x : Value} {Q : Value → Shared → Prop} (a : ItK s.heap k it l i) (b : SeK s.heap k l xs) (c : xs[i]? = some x)
    (d : ∀ h', ItK h' k it l (i + 1) → Heap.SameBut it s.heap h' → Q x { s with heap := h' }) : wpAny (model prog w) A (Builtin.SmallTypes.nextOf (.ref it)) Q E s := by
  cases k with
  | lst => exact wpAny_nextOf_list_item a b c d
  | tup => exact RZ.nextOf_tuple_item a b c d
theorem nextK_end {k : Kd} {it l : Addr} {i : Nat} {xs : Array Value} {Q : Value → Shared → Prop} (hh : A.handled = none) (a : ItK s.heap k it l i) (b : SeK s.heap k l xs) (c : xs[i]? = none)
    (d : ∀ h' e, Heap.ExtBut it s.heap h' → (∃ o, h'.get? e = some o ∧ o.cls = .type "StopIteration") → E (.ref e) { s with heap := h' }) : wpAny (model prog w) A (Builtin.SmallTypes.nextOf (.ref it)) Q E s := by
  cases k with
  | lst => exact wpAny_nextOf_list_end hh a b c d
  | tup => exact RZ.nextOf_tuple_end hh a b c d
theorem zipK_item {p q : Kd} {z ti tt i1 i2 l1 l2 : Addr} {k1 k2 : Nat} {xs ys : Array Value} {x y a b : Value} {Q : Value → Shared → Prop} (D : ZipApart z ti tt i1 i2 l1 l2)
    (gz : IsZip s.heap z ti tt .none) (gi : IsPair s.heap ti (.ref i1) (.ref i2)) (go : IsPair s.heap tt a b)
    (g1 : ItK s.heap p i1 l1 k1) (g2 : ItK s.heap q i2 l2 k2) (s1 : SeK s.heap p l1 xs) (s2 : SeK s.heap q l2 ys) (gx : xs[k1]? = some x) (gy : ys[k2]? = some y)
    (gQ : ∀ h', IsZip h' z ti tt (rawInt s.heap.objs.size) → IsPair h' tt x y → ItK h' p i1 l1 (k1 + 1) → ItK h' q i2 l2 (k2 + 1) → IsPair h' s.heap.objs.size x y → h'.objs.size = s.heap.objs.size + 1 →
      (∀ c o, c ≠ z → c ≠ tt → c ≠ i1 → c ≠ i2 → s.heap.get? c = some o → h'.get? c = some o) → Q (.ref s.heap.objs.size) { s with heap := h' }) :
    wpAny (model prog w) A (Builtin.«zip.__next__» ⟨[.ref z], []⟩) (fun fin s' => ∃ v, fin = .done (.ret v) ∧ Q v s') E s := by
  show wpAny _ _ (field (.ref z) 2 >>= _) _ _ _; refine wpAny_bind (wpAny_field gz rfl (x := .bool false) rfl ?_)
  show wpAny _ _ (field (.ref z) 3 >>= _) _ _ _; refine wpAny_bind (wpAny_field gz rfl (x := .ref ti) rfl ?_)
  refine wpAny_bind (wpAny_seqItems gi rfl ?_)
  show wpAny _ _ (Builtin.SmallTypes.ownedTupleIsFree (.ref z) >>= _) _ _ _; refine wpAny_bind ?_
  unfold Builtin.SmallTypes.ownedTupleIsFree; refine wpAny_bind (wpAny_field gz rfl (x := .none) rfl (wpAny_pure ?_))
  simp only [if_true]; refine wpAny_bind (wpAny_rule ?_)
  refine wpAny_bind (wpAny_field gz rfl (x := .ref tt) rfl ?_)
  refine wpAny_bind (wpAny_setField_rec gz (by simp) fun m₁ gz₁ b₁ => ?_)
  replace gz₁ : IsZip m₁ z ti tt .ellipsis := gz₁; refine wpAny_bind ?_
  simp only [List.zipIdx_cons, List.zipIdx_nil, List.forIn_cons, List.forIn_nil]; refine wpAny_bind (wpAny_bind (wpAny_onRaise ?_))
  show wpAny _ _ (Builtin.SmallTypes.nextOf (.ref i1) >>= _) _ _ _; refine wpAny_bind (nextK_item (g1.ext b₁.extBut D.i1z) (s1.ext b₁.extBut D.l1z) gx fun m₂ n₁ b₂ => wpAny_pure ?_)
  have go₂ : IsPair m₂ tt a b := b₂.extBut _ _ D.TOi1 (b₁.extBut _ _ D.TOz go)
  refine wpAny_bind (wpAny_seqItems go₂ rfl ?_); refine wpAny_bind (wpAny_updateSeq_pair go₂ fun m₃ go₃ b₃ => ?_)
  replace go₃ : IsPair m₃ tt x b := go₃; refine wpAny_bind (wpAny_letGo (wpAny_pure ?_)); refine wpAny_bind (wpAny_bind (wpAny_onRaise ?_))
  show wpAny _ _ (Builtin.SmallTypes.nextOf (.ref i2) >>= _) _ _ _; refine wpAny_bind (nextK_item (((g2.ext b₁.extBut D.i2z).ext b₂.extBut D.i12.symm).ext b₃.extBut D.TOi2.symm)
    (((s2.ext b₁.extBut D.l2z).ext b₂.extBut D.l2i1).ext b₃.extBut D.l2TO) gy fun m₄ n₂ b₄ => wpAny_pure ?_)
  have go₄ : IsPair m₄ tt x b := b₄.extBut _ _ D.TOi2 go₃
  refine wpAny_bind (wpAny_seqItems go₄ rfl ?_); refine wpAny_bind (wpAny_updateSeq_pair go₄ fun m₅ go₅ b₅ => ?_)
  replace go₅ : IsPair m₅ tt x y := go₅; refine wpAny_bind (wpAny_letGo (wpAny_pure (wpAny_pure ?_)))
  refine wpAny_bind (wpAny_seqItems go₅ rfl ?_); refine wpAny_bind (wpAny_newTuple ?_)
  have es : m₅.objs.size = s.heap.objs.size := by rw [b₅.1, b₄.1, b₃.1, b₂.1, b₁.1]
  have gz₅ : IsZip m₅ z ti tt .ellipsis := b₅.extBut _ _ D.TOz.symm (b₄.extBut _ _ D.i2z.symm (b₃.extBut _ _ D.TOz.symm (b₂.extBut _ _ D.i1z.symm gz₁)))
  have gk : ∀ c o, c ≠ z → c ≠ tt → c ≠ i1 → c ≠ i2 → s.heap.get? c = some o → m₅.get? c = some o := fun c o c1 c2 c3 c4 e =>
    b₅.extBut _ _ c2 (b₄.extBut _ _ c4 (b₃.extBut _ _ c2 (b₂.extBut _ _ c3 (b₁.extBut _ _ c1 e))))
  have n₁₅ : ItK m₅ p i1 l1 (k1 + 1) := ((n₁.ext b₃.extBut D.TOi1.symm).ext b₄.extBut D.i12).ext b₅.extBut D.TOi1.symm
  have n₂₅ : ItK m₅ q i2 l2 (k2 + 1) := n₂.ext b₅.extBut D.TOi2.symm
  have zl : z < m₅.objs.size := Heap.lt_size gz₅
  show wpAny _ _ (Builtin.SmallTypes.ownedTupleHandOut (.ref z) (.ref m₅.objs.size) >>= _) _ _ _; refine wpAny_bind ?_
  unfold Builtin.SmallTypes.ownedTupleHandOut
  have gz₆ : IsZip (m₅.push { cls := .type "tuple", data := .seq #[x, y] }) z ti tt .ellipsis := Heap.get?_push_of_some _ gz₅
  refine wpAny_bind (wpAny_setField_rec gz₆ (by simp) fun m₇ gz₇ b₇ => ?_)
  replace gz₇ : IsZip m₇ z ti tt (rawInt m₅.objs.size) := gz₇; refine wpAny_setField_rec gz₇ (by simp) fun m₈ gz₈ b₈ => ?_
  replace gz₈ : IsZip m₈ z ti tt (rawInt m₅.objs.size) := gz₈
  have up : ∀ c o, c ≠ z → m₅.get? c = some o → m₈.get? c = some o := fun c o c1 e => b₈.extBut _ _ c1 (b₇.extBut _ _ c1 (Heap.get?_push_of_some _ e))
  have gT₈ : IsPair m₈ m₅.objs.size x y := b₈.extBut _ _ (Nat.ne_of_gt zl) (b₇.extBut _ _ (Nat.ne_of_gt zl) (Heap.get?_push_size _ rfl))
  have e8 : m₈.objs.size = m₅.objs.size + 1 := by rw [b₈.1, b₇.1, Heap.size_push]
  rw [es] at gz₈ gT₈ e8; refine wpAny_pure ⟨_, rfl, ?_⟩
  show Q (.ref m₅.objs.size) _
  rw [es]; exact gQ m₈ gz₈ (up _ _ D.TOz go₅) (n₁₅.to fun o e => up _ o D.i1z e) (n₂₅.to fun o e => up _ o D.i2z e) gT₈ e8 fun c o c1 c2 c3 c4 e => up c o c1 (gk c o c1 c2 c3 c4 e)
theorem zipK_end {p q : Kd} {z ti tt i1 i2 l1 l2 : Addr} {k1 k2 : Nat} {xs ys : Array Value} {a b : Value} {Q : Fin → Shared → Prop} (hh : A.handled = none) (D : ZipApart z ti tt i1 i2 l1 l2)
    (gz : IsZip s.heap z ti tt .none) (gi : IsPair s.heap ti (.ref i1) (.ref i2)) (go : IsPair s.heap tt a b)
    (g1 : ItK s.heap p i1 l1 k1) (g2 : ItK s.heap q i2 l2 k2) (s1 : SeK s.heap p l1 xs) (s2 : SeK s.heap q l2 ys) (ge : xs[k1]? = none ∨ ys[k2]? = none)
    (gE : ∀ h' e, (∀ c o, c ≠ z → c ≠ tt → c ≠ i1 → c ≠ i2 → s.heap.get? c = some o → h'.get? c = some o) → (∃ o, h'.get? e = some o ∧ o.cls = .type "StopIteration") → E (.ref e) { s with heap := h' }) :
    wpAny (model prog w) A (Builtin.«zip.__next__» ⟨[.ref z], []⟩) Q E s := by
  show wpAny _ _ (field (.ref z) 2 >>= _) _ _ _; refine wpAny_bind (wpAny_field gz rfl (x := .bool false) rfl ?_)
  show wpAny _ _ (field (.ref z) 3 >>= _) _ _ _; refine wpAny_bind (wpAny_field gz rfl (x := .ref ti) rfl ?_)
  refine wpAny_bind (wpAny_seqItems gi rfl ?_)
  show wpAny _ _ (Builtin.SmallTypes.ownedTupleIsFree (.ref z) >>= _) _ _ _; refine wpAny_bind ?_
  unfold Builtin.SmallTypes.ownedTupleIsFree; refine wpAny_bind (wpAny_field gz rfl (x := .none) rfl (wpAny_pure ?_))
  simp only [if_true]; refine wpAny_bind (wpAny_rule ?_)
  refine wpAny_bind (wpAny_field gz rfl (x := .ref tt) rfl ?_)
  refine wpAny_bind (wpAny_setField_rec gz (by simp) fun m₁ gz₁ b₁ => ?_)
  replace gz₁ : IsZip m₁ z ti tt .ellipsis := gz₁; refine wpAny_bind ?_
  simp only [List.zipIdx_cons, List.zipIdx_nil, List.forIn_cons, List.forIn_nil]; refine wpAny_bind (wpAny_bind (wpAny_onRaise ?_))
  show wpAny _ _ (Builtin.SmallTypes.nextOf (.ref i1) >>= _) _ _ _
  cases gx : xs[k1]? with
  | none =>
    refine wpAny_bind (nextK_end hh (g1.ext b₁.extBut D.i1z) (s1.ext b₁.extBut D.l1z) gx fun m₂ e b₂ he => ?_)
    obtain ⟨oe, hoe, hce⟩ := he; have gz₂ : IsZip m₂ z ti tt .ellipsis := b₂ _ _ D.i1z.symm gz₁
    have ez : e ≠ z := fun x => by subst x; rw [gz₂] at hoe; cases hoe; simp at hce
    refine wpAny_setField_rec gz₂ (by simp) fun m₃ _ b₃ => gE m₃ e (fun c o c1 _ c3 _ x => b₃.extBut _ _ c1 (b₂ _ _ c3 (b₁.extBut _ _ c1 x))) ⟨oe, b₃.extBut _ _ ez hoe, hce⟩
  | some x =>
    have gy : ys[k2]? = none := by rcases ge with h | h; rw [gx] at h; cases h; exact h
    refine wpAny_bind (nextK_item (g1.ext b₁.extBut D.i1z) (s1.ext b₁.extBut D.l1z) gx fun m₂ n₁ b₂ => wpAny_pure ?_)
    have go₂ : IsPair m₂ tt a b := b₂.extBut _ _ D.TOi1 (b₁.extBut _ _ D.TOz go)
    refine wpAny_bind (wpAny_seqItems go₂ rfl ?_); refine wpAny_bind (wpAny_updateSeq_pair go₂ fun m₃ go₃ b₃ => ?_)
    refine wpAny_bind (wpAny_letGo (wpAny_pure ?_)); refine wpAny_bind (wpAny_bind (wpAny_onRaise ?_))
    show wpAny _ _ (Builtin.SmallTypes.nextOf (.ref i2) >>= _) _ _ _; refine wpAny_bind (nextK_end hh (((g2.ext b₁.extBut D.i2z).ext b₂.extBut D.i12.symm).ext b₃.extBut D.TOi2.symm)
      (((s2.ext b₁.extBut D.l2z).ext b₂.extBut D.l2i1).ext b₃.extBut D.l2TO) gy fun m₄ e b₄ he => ?_)
    obtain ⟨oe, hoe, hce⟩ := he; have gz₄ : IsZip m₄ z ti tt .ellipsis := b₄ _ _ D.i2z.symm (b₃.extBut _ _ D.TOz.symm (b₂.extBut _ _ D.i1z.symm gz₁))
    have ez : e ≠ z := fun x => by subst x; rw [gz₄] at hoe; cases hoe; simp at hce
    refine wpAny_setField_rec gz₄ (by simp) fun m₅ _ b₅ => gE m₅ e (fun c o c1 c2 c3 c4 x => b₅.extBut _ _ c1 (b₄ _ _ c4 (b₃.extBut _ _ c2 (b₂.extBut _ _ c3 (b₁.extBut _ _ c1 x))))) ⟨oe, b₅.extBut _ _ ez hoe, hce⟩
theorem pyNextK_item {p q : Kd} {z ti tt i1 i2 l1 l2 : Addr} {k1 k2 : Nat} {xs ys : Array Value} {x y a b : Value} {Q : Option Value → Shared → Prop} (D : ZipApart z ti tt i1 i2 l1 l2)
    (gz : IsZip s.heap z ti tt .none) (gi : IsPair s.heap ti (.ref i1) (.ref i2)) (go : IsPair s.heap tt a b)
    (g1 : ItK s.heap p i1 l1 k1) (g2 : ItK s.heap q i2 l2 k2) (s1 : SeK s.heap p l1 xs) (s2 : SeK s.heap q l2 ys) (gx : xs[k1]? = some x) (gy : ys[k2]? = some y)
    (gQ : ∀ h', IsZip h' z ti tt (rawInt s.heap.objs.size) → IsPair h' tt x y → ItK h' p i1 l1 (k1 + 1) → ItK h' q i2 l2 (k2 + 1) → IsPair h' s.heap.objs.size x y → h'.objs.size = s.heap.objs.size + 1 →
      (∀ c o, c ≠ z → c ≠ tt → c ≠ i1 → c ≠ i2 → s.heap.get? c = some o → h'.get? c = some o) → Q (some (.ref s.heap.objs.size)) { s with heap := h' }) :
    wpAny (model prog w) A (pyNext (.ref z)) Q E s := by
  have tz : s.TypeIs (.ref z) "zip" := ⟨_, gz, rfl⟩
  unfold pyNext; exact wpAny_bind (wpAny_attempt (wpAny_callSpecial?_slot (name := Str.ofString "__next__") tz F.slot_zip_next (wpAny_call_entry F.slot_zip_next tz F.entry_zip_next
      (zipK_item D gz gi go g1 g2 s1 s2 gx gy fun h' a1 a2 a3 a4 a5 a6 a7 => wpAny_pure (gQ h' a1 a2 a3 a4 a5 a6 a7)) (F.args_zip_next_1 _))))
theorem pyNextK_end {p q : Kd} {z ti tt i1 i2 l1 l2 : Addr} {k1 k2 : Nat} {xs ys : Array Value} {a b : Value} {Q : Option Value → Shared → Prop} (hh : A.handled = none) (D : ZipApart z ti tt i1 i2 l1 l2)
    (gz : IsZip s.heap z ti tt .none) (gi : IsPair s.heap ti (.ref i1) (.ref i2)) (go : IsPair s.heap tt a b)
    (g1 : ItK s.heap p i1 l1 k1) (g2 : ItK s.heap q i2 l2 k2) (s1 : SeK s.heap p l1 xs) (s2 : SeK s.heap q l2 ys) (ge : xs[k1]? = none ∨ ys[k2]? = none)
    (gQ : ∀ h', (∀ c o, c ≠ z → c ≠ tt → c ≠ i1 → c ≠ i2 → s.heap.get? c = some o → h'.get? c = some o) → Q none { s with heap := h' }) : wpAny (model prog w) A (pyNext (.ref z)) Q E s := by
  have tz : s.TypeIs (.ref z) "zip" := ⟨_, gz, rfl⟩
  unfold pyNext; refine wpAny_bind (wpAny_attempt (wpAny_callSpecial?_slot (name := Str.ofString "__next__") tz F.slot_zip_next
    (wpAny_call_entry F.slot_zip_next tz F.entry_zip_next (zipK_end hh D gz gi go g1 g2 s1 s2 ge fun h' e gk he => ?_) (F.args_zip_next_1 _))))
  obtain ⟨o, ho, hc⟩ := he
  refine wpAny_bind (wpAny_isInstance (T := "StopIteration") (b := true) ⟨o, ho, hc⟩ isSubtype_stop ?_); exact wpAny_pure (gQ _ gk)
end
abbrev zk1 (p : Kd) (h : Heap) (l1 : Addr) : Heap := h.push { cls := .type (kcls p), data := .fields #[.ref l1, .int 0 0] }
abbrev zk2 (p q : Kd) (h : Heap) (l1 l2 : Addr) : Heap := (zk1 p h l1).push { cls := .type (kcls q), data := .fields #[.ref l2, .int 0 0] }
abbrev zk3 (p q : Kd) (h : Heap) (l1 l2 : Addr) : Heap := (zk2 p q h l1 l2).push { cls := .type "tuple", data := .seq #[.ref h.objs.size, .ref (zk1 p h l1).objs.size] }
abbrev zk4 (p q : Kd) (h : Heap) (l1 l2 : Addr) : Heap := (zk3 p q h l1 l2).push { cls := .type "tuple", data := .seq #[.none, .none] }
abbrev zk5 (p q : Kd) (h : Heap) (l1 l2 : Addr) : Heap := (zk4 p q h l1 l2).push { cls := .type "zip", data := .fields #[.none, .bool false, .bool false, .ref (zk2 p q h l1 l2).objs.size, .ref (zk3 p q h l1 l2).objs.size] }
theorem SeK.pushed {h : Heap} {l : Addr} {xs : Array Value} (o : Obj) : ∀ {k : Kd}, SeK h k l xs → SeK (h.push o) k l xs
  | .lst, a => Heap.IsList.push a o
  | .tup, a => Heap.IsTuple.push a o
theorem meets_zipK (p q : Kd) (l1 l2 : Addr) (xs ys : Array Value) :
    Meets (Builtin.«zip.__new__» ⟨[.type "zip", .ref l1, .ref l2], []⟩) (fun _ R s => SeK s.heap p l1 xs ∧ SeK s.heap q l2 ys ∧
      R (.ok (.ret (.ref (zk4 p q s.heap l1 l2).objs.size))) { s with heap := zk5 p q s.heap l1 l2 }) :=
  .of_wp fun prog w A R s h => by
    obtain ⟨hp, g, d, tk, os⟩ := s; obtain ⟨a1, a2, h⟩ := h; have hsub := sub_zip
    cases p <;> cases q
    · have L1 : Heap.IsList (Shared.heap ⟨hp, g, d, tk, os⟩) l1 xs := a1
      have L2 : Heap.IsList (Shared.heap ⟨hp.push { cls := .type "list_iterator", data := .fields #[.ref l1, .int 0 0] }, g, d, tk, os⟩) l2 ys := Heap.IsList.push a2 _
      wp_walk using wpAny_pyIter_list L1, wpAny_pyIter_list L2
      exact ⟨_, rfl, h⟩
    · have L1 : Heap.IsList (Shared.heap ⟨hp, g, d, tk, os⟩) l1 xs := a1
      have L2 : Heap.IsTuple (Shared.heap ⟨hp.push { cls := .type "list_iterator", data := .fields #[.ref l1, .int 0 0] }, g, d, tk, os⟩) l2 ys := Heap.IsTuple.push a2 _
      wp_walk using wpAny_pyIter_list L1, wpAny_pyIter_tuple L2
      exact ⟨_, rfl, h⟩
    · have L1 : Heap.IsTuple (Shared.heap ⟨hp, g, d, tk, os⟩) l1 xs := a1
      have L2 : Heap.IsList (Shared.heap ⟨hp.push { cls := .type "tuple_iterator", data := .fields #[.ref l1, .int 0 0] }, g, d, tk, os⟩) l2 ys := Heap.IsList.push a2 _
      wp_walk using wpAny_pyIter_tuple L1, wpAny_pyIter_list L2
      exact ⟨_, rfl, h⟩
    · have L1 : Heap.IsTuple (Shared.heap ⟨hp, g, d, tk, os⟩) l1 xs := a1
      have L2 : Heap.IsTuple (Shared.heap ⟨hp.push { cls := .type "tuple_iterator", data := .fields #[.ref l1, .int 0 0] }, g, d, tk, os⟩) l2 ys := Heap.IsTuple.push a2 _
      wp_walk using wpAny_pyIter_tuple L1, wpAny_pyIter_tuple L2
      exact ⟨_, rfl, h⟩
theorem ItK.new {h : Heap} {i l : Addr} (k : Kd) (e : h.get? i = some { cls := .type (kcls k), data := .fields #[.ref l, .int 0 0] }) : ItK h k i l 0 := by
  cases k with
  | lst => exact ⟨_, e, rfl, rfl⟩
  | tup => exact ⟨_, e, rfl, rfl⟩
section
variable {prog : Program} {w : World} {A : Around} {E : Value → Shared → Prop} {s : Shared}
theorem call_zipK {p q : Kd} {l1 l2 : Addr} {xs ys : Array Value} {Q : Value → Shared → Prop} (a1 : SeK s.heap p l1 xs) (a2 : SeK s.heap q l2 ys)
    (h : ∀ h', IsZip h' (s.heap.objs.size + 4) (s.heap.objs.size + 2) (s.heap.objs.size + 3) .none → IsPair h' (s.heap.objs.size + 2) (.ref s.heap.objs.size) (.ref (s.heap.objs.size + 1)) →
      IsPair h' (s.heap.objs.size + 3) .none .none → ItK h' p s.heap.objs.size l1 0 → ItK h' q (s.heap.objs.size + 1) l2 0 → h'.objs.size = s.heap.objs.size + 5 →
      (∀ c o, s.heap.get? c = some o → h'.get? c = some o) → Q (.ref (s.heap.objs.size + 4)) { s with heap := h' }) :
    wpAny (model prog w) A (call (.type "zip") [.ref l1, .ref l2]) Q E s := by
  refine callType_new F.called_zip (by decide) (F.typeCall_zip_2 _ _) (F.newCall_zip_2 _ _) (fun obj => F.args_object_init_3 obj _ _) F.entry_zip_new (meets_zipK p q l1 l2 xs ys) ⟨a1, a2, ?_⟩
  have z1 : (zk1 p s.heap l1).objs.size = s.heap.objs.size + 1 := Heap.size_push ..
  have z2 : (zk2 p q s.heap l1 l2).objs.size = s.heap.objs.size + 2 := by rw [Heap.size_push, z1]
  have z3 : (zk3 p q s.heap l1 l2).objs.size = s.heap.objs.size + 3 := by rw [Heap.size_push, z2]
  have z4 : (zk4 p q s.heap l1 l2).objs.size = s.heap.objs.size + 4 := by rw [Heap.size_push, z3]
  have z5 : (zk5 p q s.heap l1 l2).objs.size = s.heap.objs.size + 5 := by rw [Heap.size_push, z4]
  have g5 : (zk5 p q s.heap l1 l2).get? (zk4 p q s.heap l1 l2).objs.size = some _ := Heap.get?_push_size _ rfl
  have g4 : (zk5 p q s.heap l1 l2).get? (zk3 p q s.heap l1 l2).objs.size = some _ := Heap.get?_push_of_some _ (Heap.get?_push_size _ rfl)
  have g3 : (zk5 p q s.heap l1 l2).get? (zk2 p q s.heap l1 l2).objs.size = some _ := Heap.get?_push_of_some _ (Heap.get?_push_of_some _ (Heap.get?_push_size _ rfl))
  have g2 : (zk5 p q s.heap l1 l2).get? (zk1 p s.heap l1).objs.size = some _ := Heap.get?_push_of_some _ (Heap.get?_push_of_some _ (Heap.get?_push_of_some _ (Heap.get?_push_size _ rfl)))
  have g1 : (zk5 p q s.heap l1 l2).get? s.heap.objs.size = some _ := Heap.get?_push_of_some _ (Heap.get?_push_of_some _ (Heap.get?_push_of_some _ (Heap.get?_push_of_some _ (Heap.get?_push_size _ rfl))))
  show _ ∧ _
  rw [z2, z3, z4] at g5
  rw [z1, z2] at g3
  rw [z3] at g4
  rw [z1] at g2
  rw [z4]
  exact ⟨⟨_, g5, rfl⟩, h _ g5 g3 g4 (ItK.new p g1) (ItK.new q g2) z5 fun c o x =>
    Heap.get?_push_of_some _ (Heap.get?_push_of_some _ (Heap.get?_push_of_some _ (Heap.get?_push_of_some _ (Heap.get?_push_of_some _ x))))⟩
end
theorem SqK.heap {X : Cx} {pins : List (Addr × Obj)} {σ : L2.St} {H : Hp} {s : Shared} {a : Addr} {xs : List V} (I : Inv X pins σ H s) : ∀ {k : Kd}, SqK X.K H k a xs → ∃ its, Vals xs its ∧ SeK s.heap k a its.toArray ∧ a < s.heap.objs.size
  | .lst, h => by
    obtain ⟨its, rv, p, _⟩ := I.list h
    exact ⟨its, rv, p.isList, p.lt⟩
  | .tup, h => by
    obtain ⟨its, rv, p, _⟩ := I.tuple h
    obtain ⟨o, ho, _⟩ := id p
    exact ⟨its, rv, p, Heap.lt_size ho⟩
theorem SqK.inj {X : Cx} {pins : List (Addr × Obj)} {σ : L2.St} {H : Hp} {s : Shared} {a : Addr} {xs ys : List V} (I : Inv X pins σ H s) : ∀ {k : Kd}, SqK X.K H k a xs → SqK X.K H k a ys → xs = ys
  | .lst, h, h2 => I.list_inj h h2
  | .tup, h, h2 => I.tuple_inj h h2
def Itw (K : PySem.W.Frag) (p q : Kd) (a b : Addr) : It :=
  ⟨fun i H => ∃ (xs ys : List V) (x y : V), SqK K H p a xs ∧ SqK K H q b ys ∧ xs[i]? = some x ∧ ys[i]? = some y,
    fun i H v H' => ∃ T x y, v = .ref T ∧ H T = none ∧ H' = upd H T (.tup [x, y]) ∧ (∀ xs, SqK K H p a xs → xs[i]? = some x) ∧ ∀ ys, SqK K H q b ys → ys[i]? = some y,
    fun i H => ∃ xs ys : List V, SqK K H p a xs ∧ SqK K H q b ys ∧ (xs.length ≤ i ∨ ys.length ≤ i)⟩
theorem turnK {P : Program} {w : World} {K : PySem.W.Frag} {p q : Kd} {elts : List Expr} {kk : Nat} {tpos : Pos} {a b z ti tt i1 i2 : Addr} (D : ZipApart z ti tt i1 i2 a b) :
    Turn P w K (.Tuple elts kk tpos) (Itw K p q a b) [z, ti, tt, i1, i2] z (fun i h => IsZip h z ti tt .none ∧ IsPair h ti (.ref i1) (.ref i2) ∧ (∃ x y, IsPair h tt x y) ∧ ItK h p i1 a i ∧ ItK h q i2 b i) where
  mem := by simp
  obj := fun i h st c hc => by
    obtain ⟨gz, gi, ⟨x, y, go⟩, g1, g2⟩ := st
    obtain ⟨o1, e1, q1, d1⟩ := g1.obj
    obtain ⟨o2, e2, q2, d2⟩ := g2.obj
    have e' : c = z ∨ c = ti ∨ c = tt ∨ c = i1 ∨ c = i2 := by simpa using hc
    rcases e' with q | q | q | q | q
    · rw [q]; exact ⟨_, gz, fun v q => nomatch q⟩
    · rw [q]; exact ⟨_, gi, fun v q => nomatch q⟩
    · rw [q]; exact ⟨_, go, fun v q => nomatch q⟩
    · rw [q]; exact ⟨o1, e1, fun v q => by rw [d1] at q; cases q⟩
    · rw [q]; exact ⟨o2, e2, fun v q => by rw [d2] at q; cases q⟩
  keep := fun i h h' st k => by
    obtain ⟨gz, gi, ⟨x, y, go⟩, g1, g2⟩ := st
    exact ⟨k z (by simp) _ gz, k ti (by simp) _ gi, ⟨x, y, k tt (by simp) _ go⟩, g1.to fun o q => k i1 (by simp) o q, g2.to fun o q => k i2 (by simp) o q⟩
  item := by
    intro X hP hw hK hc i pins s σ H E I hf st hg
    subst hP hw hK; obtain ⟨gz, gi, ⟨x0, y0, go⟩, g1, g2⟩ := st
    obtain ⟨xs, ys, x, y, gqx, gqy, gx, gy⟩ := hg
    obtain ⟨its, rv, pp, _⟩ := gqx.heap I
    obtain ⟨its2, rv2, pp2, _⟩ := gqy.heap I
    obtain ⟨u, hu, ru⟩ := rv.get gx
    obtain ⟨u2, hu2, ru2⟩ := rv2.get gy
    have zl : z < s.heap.objs.size := Heap.lt_size gz
    refine pyNextK_item D gz gi go g1 g2 pp pp2 (x := u) (y := u2) (by simpa using hu) (by simpa using hu2) fun m z' go' n₁ n₂ hT hsz hk => ?_
    refine ⟨_, rfl, wpAny_letOwnedTupleGo_zip (s := { s with heap := m }) z' fun m2 z'' sb => ?_⟩
    have hT2 : m2.get? s.heap.objs.size = some { cls := .type "tuple", data := .seq #[u, u2] } := (sb.2 _ (Nat.ne_of_gt zl)).trans hT
    have new : ObjOk X.prog X.w (upd H s.heap.objs.size (.tup [x, y])) m2 s.heap.objs.size (.tup [x, y]) :=
      ⟨by show 2 ≤ sizeLine; decide, [u, u2], .cons ru (.cons ru2 .nil), ⟨_, hT2, rfl, _, rfl⟩⟩
    have I1 : Inv X pins σ (upd H s.heap.objs.size (.tup [x, y])) { s with heap := m2 } :=
      I.turnedNew (t' := s.toks) (ch := [z, ti, tt, i1, i2]) (fun c o hb q => (sb.2 c (fun q' => hb (by simp [q']))).trans (hk c o (fun q' => hb (by simp [q'])) (fun q' => hb (by simp [q'])) (fun q' => hb (by simp [q'])) (fun q' => hb (by simp [q'])) q)) hf (Nat.le_refl _) new
    refine ⟨.ref s.heap.objs.size, _, I1, rfl, ⟨_, x, y, rfl, I.hok.fresh (Nat.le_refl _), rfl, fun l hl => by rw [SqK.inj I hl gqx]; exact gx, fun l hl => by rw [SqK.inj I hl gqy]; exact gy⟩, ⟨z'', ?_, ⟨u, u2, ?_⟩, ?_, ?_⟩, fun c hcm => ?_⟩
    · exact (sb.2 _ D.TIz).trans (hk _ _ D.TIz D.TITO D.TIi1 D.TIi2 gi)
    · exact (sb.2 _ D.TOz).trans go'
    · exact n₁.to fun o q => (sb.2 _ D.i1z).trans q
    · exact n₂.to fun o q => (sb.2 _ D.i2z).trans q
    · have hlt : c < s.heap.objs.size := by
        have e' : c = z ∨ c = ti ∨ c = tt ∨ c = i1 ∨ c = i2 := by simpa using hcm
        rcases e' with q | q | q | q | q
        · rw [q]; exact zl
        · rw [q]; exact Heap.lt_size gi
        · rw [q]; exact Heap.lt_size go
        · rw [q]; obtain ⟨_, e1, _⟩ := g1.obj; exact Heap.lt_size e1
        · rw [q]; obtain ⟨_, e2, _⟩ := g2.obj; exact Heap.lt_size e2
      rw [upd_ne (Nat.ne_of_lt hlt)]; exact (hf c hcm).1
  done := by
    intro X hP hw hK hc i pins s σ H E I hf st hg
    subst hP hw hK; obtain ⟨gz, gi, ⟨x0, y0, go⟩, g1, g2⟩ := st
    obtain ⟨xs, ys, gqx, gqy, hend⟩ := hg
    obtain ⟨its, rv, pp, _⟩ := gqx.heap I
    obtain ⟨its2, rv2, pp2, _⟩ := gqy.heap I
    have l1 := rv.length
    have l2 := rv2.length
    have he : its.toArray[i]? = none ∨ its2.toArray[i]? = none := by
      rcases hend with q | q
      · exact .inl (by simp; omega)
      · exact .inr (by simp; omega)
    exact pyNextK_end (I.ok.hd hc) D gz gi go g1 g2 pp pp2 he fun m hk => ⟨rfl, I.turnedL (t' := s.toks) (ch := [z, ti, tt, i1, i2]) (fun c o hb q =>
      hk c o (fun q' => hb (by simp [q'])) (fun q' => hb (by simp [q'])) (fun q' => hb (by simp [q'])) (fun q' => hb (by simp [q'])) q) hf⟩
  self := fun A i s Q E st h => wpAny_pyIter_zip st.1 h
def iZipK (K : PySem.W.Frag) (ta : TA) : TI := fun σ H R => ta σ H fun vs H1 => ∃ a b xs ys p q, vs = [.ref a, .ref b] ∧ SqK K H1 p a xs ∧ SqK K H1 q b ys ∧ R (Itw K p q a b) H1
theorem pi_zipK {X : Cx} {e e2 : Expr} {ta : TA} {p pos tpos : Pos} {elts : List Expr} {kk : Nat} (hg : Gl X "zip") (hm : X.mg "zip" = none) (ha : PA X [e, e2] ta)
    (hs : starEach [e, e2] X.env = (false, eval e X.env) :: starEach [e2] X.env) (hpl : (backTo pos (starEach [e2] X.env)).any (·.1) = false) :
    PI X (.Tuple elts kk tpos) (.Call (.Name "zip" p) [e, e2] [] pos) (iZipK X.K ta) := by
  refine ⟨fun pins s σ H R I h => ?_⟩
  refine Call_ (ld_blt I hg hm PyProof.Rows.boot_zip (PyProof.Rows.callWith_type1 (thn (ha.run pos pins s σ H _ I h) fun us s1 ⟨vs, H1, I1, r1, q1⟩ => ?_) hs hpl))
  obtain ⟨a, b, xs, ys, p, q, ex, w1, w2, q1⟩ := q1
  subst ex
  cases r1 with
  | cons r rr =>
    cases rr with
    | cons r' rr =>
      cases rr
      cases r
      cases r'
      have fresh5 : ∀ c, c ∈ [s1.heap.objs.size + 4, s1.heap.objs.size + 2, s1.heap.objs.size + 3, s1.heap.objs.size, s1.heap.objs.size + 1] → FpOk X pins H1 c := fun c hcm => by
        have e' : c = s1.heap.objs.size + 4 ∨ c = s1.heap.objs.size + 2 ∨ c = s1.heap.objs.size + 3 ∨ c = s1.heap.objs.size ∨ c = s1.heap.objs.size + 1 := by simpa using hcm
        have hle : s1.heap.objs.size ≤ c := by omega
        exact I1.fpOk hle (I1.hok.fresh hle)
      obtain ⟨its, rv, p1, n1⟩ := w1.heap I1
      obtain ⟨its2, rv2, p2, n2⟩ := w2.heap I1
      refine call_zipK p1 p2 fun m gz gi go g1 g2 hsz hk => wpAny_pyIter_zip gz ?_
      have I2 : Inv X pins σ H1 { s1 with heap := m } := I1.kept (t' := s1.toks) hk
      exact ⟨s1.heap.objs.size + 4, [s1.heap.objs.size + 4, s1.heap.objs.size + 2, s1.heap.objs.size + 3, s1.heap.objs.size, s1.heap.objs.size + 1], _, _, H1, rfl, I2, turnK (PySem.W.ktu_apart s1.heap.objs.size a b n1 n2), ⟨gz, gi, ⟨_, _, go⟩, g1, g2⟩, fresh5, q1⟩
/-- the items of a list or tuple -/
def seqD : D → Option (List D)
  | .list xs => some xs
  | .tuple xs => some xs
  | _ => none
def zipB : List D → Option (List D)
  | [a, b] => (seqD a).bind fun xs => (seqD b).map fun ys => (xs.zip ys).map fun p => .tuple [p.1, p.2]
  | _ => none
theorem seqD_at {G : Gx} {R : Hp} {d : D} {ds : List D} {v : V} (h : seqD d = some ds) (q : Dq G.K R d v) : ∃ (k : Kd) (a : Addr) (xs : List V), v = .ref a ∧ DqA G.K R ds xs ∧ (R a = some (.lst xs) ∨ R a = some (.tup xs)) ∧ (∀ {R' H'}, Ext R R' → Start G R' H' → SqK G.K H' k a xs) := by
  unfold seqD at h
  split at h
  · cases h
    obtain ⟨a, xs, rfl, h1, h2⟩ := dq_list.mp q
    exact ⟨.lst, a, xs, rfl, h2, .inl h1, fun e s => Or.inl (Or.inl (s.sub _ _ (e _ _ h1)))⟩
  · cases h
    obtain ⟨a, xs, rfl, h1, h2⟩ := dq_tuple.mp q
    exact ⟨.tup, a, xs, rfl, h2, .inr h1, fun e s => Or.inl (Or.inl (s.sub _ _ (e _ _ h1)))⟩
  · cases h
theorem iZipB {ι : Type} {G : Gx} {k : Nat} {𝒳 : ι → Cx} {e e2 : Expr} {ma mb : ME} {p pos tpos : Pos} {elts : List Expr} {kk : Nat} (fm : Fm G k 𝒳) (hm : G.mg "zip" = none) (ha : CE 𝒳 G e ma) (hb : CE 𝒳 G e2 mb) (hg : ∀ i, Gl (𝒳 i) "zip" := by intro _; rfl)
    (hs : ∀ i, starEach [e, e2] (𝒳 i).env = (false, eval e (𝒳 i).env) :: starEach [e2] (𝒳 i).env := by intro _; rfl) (hs2 : ∀ i, starEach [e2] (𝒳 i).env = (false, eval e2 (𝒳 i).env) :: starEach [] (𝒳 i).env := by intro _; rfl) (hpl : ∀ i, (backTo pos (starEach [e2] (𝒳 i).env)).any (·.1) = false := by intro _; rfl) :
    CI 𝒳 G (.Tuple elts kk tpos) (.Call (.Name "zip" p) [e, e2] [] pos) (mRng zipB (mCons ma (mCons mb mNil))) := by
  obtain ⟨t, hp, hi, _⟩ := aCons ha (aCons hb aNil hs2) hs
  refine ⟨iZipK G.K t, fun i => Eq.mp (congrArg (fun K => PI (𝒳 i) (.Tuple elts kk tpos) (.Call (.Name "zip" p) [e, e2] [] pos) (iZipK K t)) (fm.K i)) (pi_zipK (hg i) (by rw [fm.mg i]; exact hm) (hp i) (hs i) (hpl i)), fun Φ R ρ σ H ds ρ' S e Q q => ?_⟩
  obtain ⟨as, ρ1, e1, e⟩ := Re.of_bind e
  obtain ⟨e2, rfl⟩ := Re.of_opt e
  refine hi Φ R ρ σ H as _ S e1 _ fun vs R1 H1 S1 x1 qx => ?_
  unfold zipB at e2
  split at e2
  · rename_i da db
    cases us : seqD da with
    | none => rw [us] at e2; cases e2
    | some us' =>
      cases ws : seqD db with
      | none => rw [us, ws] at e2; cases e2
      | some ws' =>
        rw [us, ws] at e2
        cases e2
        obtain ⟨x, y, rfl, w1, w2⟩ := dqa2 qx
        obtain ⟨k1, a, xs, rfl, h2, hR, z1⟩ := seqD_at us w1
        obtain ⟨k2, b, ys, rfl, h4, _, z2⟩ := seqD_at ws w2
        have lx : xs.length ≤ sizeLine := by
          rcases hR with r | r
          · exact S1.lens _ _ r
          · exact S1.lens _ _ r
        refine ⟨a, b, xs, ys, k1, k2, rfl, z1 (Ext.refl _) S1.start, z2 (Ext.refl _) S1.start, q _ R1 H1 S1 x1 ⟨?_, fun R2 H2 i d e s hd => ?_, fun R2 H2 i e s hd => ⟨xs, ys, z1 e s, z2 e s, ?_⟩⟩⟩
        · rw [List.length_map, List.length_zip, h2.length]
          omega
        · obtain ⟨du, dw, hu, hw, rfl⟩ := pair_at hd
          obtain ⟨u, hu, qu⟩ := h2.get hu
          obtain ⟨w, hw, qw⟩ := h4.get hw
          refine ⟨⟨xs, ys, u, w, z1 e s, z2 e s, hu, hw⟩, fun v H' hy => ?_⟩
          obtain ⟨T, u', w', rfl, hT, rfl, f1, f2⟩ := hy
          have f1 := f1 xs (z1 e s)
          have f2 := f2 ys (z2 e s)
          rw [hu] at f1
          rw [hw] at f2
          cases f1
          cases f2
          refine ⟨_, s.laid hT (plain_tup _).1 (show 2 ≤ sizeLine by decide), dq_tuple.mpr ⟨T, _, rfl, upd_same, ?_⟩⟩
          have x2 : Ext R1 (upd R2 T (.tup [u, w])) := e.trans (ext_upd (s.sub.none hT))
          exact dqa_cons.mpr ⟨_, _, rfl, qu.mono x2, dqa_one (qw.mono x2)⟩
        · rw [List.length_map, List.length_zip, h2.length, h4.length] at hd
          omega
  · cases e2
end Pm

namespace Pm
open PySem PySem.Spec PyProof.Rows L2
/-- the items of a list, each with its place -/
def numd : Nat → List D → List D
  | _, [] => []
  | n, x :: xs => .tuple [.int (n : Nat), x] :: numd (n + 1) xs
theorem numd_len : ∀ (xs : List D) (n : Nat), (numd n xs).length = xs.length
  | [], _ => rfl
  | _ :: xs, n => congrArg (· + 1) (numd_len xs (n + 1))
theorem numd_at : ∀ {xs : List D} {n i : Nat} {d : D}, (numd n xs)[i]? = some d → ∃ x, xs[i]? = some x ∧ d = .tuple [.int ((n + i : Nat) : Int), x]
  | [], _, _, _, h => by simp [numd] at h
  | x :: xs, n, 0, d, h => ⟨x, rfl, by simpa [numd] using h.symm⟩
  | x :: xs, n, i + 1, d, h => by
    obtain ⟨y, e, rfl⟩ := numd_at (xs := xs) (n := n + 1) (i := i) (d := d) (by simpa [numd] using h)
    exact ⟨y, e, by rw [show n + 1 + i = n + (i + 1) by omega]⟩
def enumD : List D → Option (List D)
  | [.list xs] => some (numd 0 xs)
  | _ => none
theorem iEnumC {ι : Type} {G : Gx} {k : Nat} {𝒳 : ι → Cx} {e : Expr} {m : ME} {p pos tpos : Pos} {elts : List Expr} {kk : Nat} (fm : Fm G k 𝒳) (hm : G.mg "enumerate" = none) (ha : CE 𝒳 G e m) (hg : ∀ i, Gl (𝒳 i) "enumerate" := by intro _; rfl)
    (hs : ∀ i, starEach [e] (𝒳 i).env = [(false, eval e (𝒳 i).env)] := by intro _; rfl) :
    CI 𝒳 G (.Tuple elts kk tpos) (.Call (.Name "enumerate" p) [e] [] pos) (mRng enumD (mCons m mNil)) := by
  obtain ⟨t, hp, hi, _⟩ := aCons ha aNil hs
  refine ⟨iEnum G.K t, fun i => Eq.mp (congrArg (fun K => PI (𝒳 i) (.Tuple elts kk tpos) (.Call (.Name "enumerate" p) [e] [] pos) (iEnum K t)) (fm.K i)) (pi_enum (hg i) (by rw [fm.mg i]; exact hm) (hp i) (hs i)), fun Φ R ρ σ H ds ρ' S e Q q => ?_⟩
  obtain ⟨as, ρ1, e1, e⟩ := Re.of_bind e
  obtain ⟨e2, rfl⟩ := Re.of_opt e
  refine hi Φ R ρ σ H as _ S e1 _ fun vs R1 H1 S1 x1 qx => ?_
  unfold enumD at e2
  split at e2
  · rename_i us
    cases e2
    obtain ⟨x, rfl, w1⟩ := dqa1 qx
    obtain ⟨a, xs, rfl, h1, h2⟩ := dq_list.mp w1
    have z1 : ∀ {R' H'}, Ext R1 R' → Start G R' H' → SqL G.K H' a xs := fun e s => .inl (.inl (s.sub _ _ (e _ _ h1)))
    have lx : xs.length ≤ sizeLine := S1.lens _ _ h1
    refine ⟨a, xs, rfl, z1 (Ext.refl _) S1.start, q _ R1 H1 S1 x1 ⟨?_, fun R2 H2 i d e s hd => ?_, fun R2 H2 i e s hd => ⟨xs, z1 e s, ?_⟩⟩⟩
    · rw [numd_len, h2.length]
      omega
    · obtain ⟨du, hu, rfl⟩ := numd_at hd
      obtain ⟨u, hu, qu⟩ := h2.get hu
      refine ⟨⟨xs, u, z1 e s, hu⟩, fun v H' hy => ?_⟩
      obtain ⟨T, u', rfl, hT, rfl, f1⟩ := hy
      have f1 := f1 xs (z1 e s)
      rw [hu] at f1
      cases f1
      refine ⟨_, s.laid hT (plain_tup _).1 (show 2 ≤ sizeLine by decide), dq_tuple.mpr ⟨T, _, rfl, upd_same, ?_⟩⟩
      have x2 : Ext R1 (upd R2 T (.tup [.int (i : Nat), u])) := e.trans (ext_upd (s.sub.none hT))
      rw [Nat.zero_add]
      exact dqa_cons.mpr ⟨_, _, rfl, dq_int.mpr rfl, dqa_one (qu.mono x2)⟩
    · rw [numd_len, h2.length] at hd
      omega
  · cases e2
end Pm

namespace Pm
open PySem PySem.Spec PyProof.Rows L2
/-! a, b = value, own list -/
def mParVO (i j : Nat) (m : ME) (o : MO) : MS := fun ρ => Fl.of (m ρ) fun d ρ1 => Fl.of (o ρ1) fun w ρ2 => if i < ρ2.length ∧ j < ρ2.length then .nx ((ρ2.set i (.v d)).set j (.own w)) else .bad
@[simp] theorem mParVO_eq (i j : Nat) (m : ME) (o : MO) (ρ : PE0) : mParVO i j m o ρ = Fl.of (m ρ) fun d ρ1 => Fl.of (o ρ1) fun w ρ2 => if i < ρ2.length ∧ j < ρ2.length then .nx ((ρ2.set i (.v d)).set j (.own w)) else .bad := rfl
theorem OwnAt.made {K : PySem.W.Frag} {R H : Hp} {p t : Addr} {x : HO} (hp : H t = none) : ∀ {w : Ow}, OwnAt K R H p w → OwnAt K R (upd H t x) p w
  | .l ds, ⟨xs, h, r⟩ => ⟨xs, (upd_ne (fun e => by rw [e, hp] at h; cases h)).trans h, r⟩
  | .dk kvs, ⟨xs, h, r⟩ => ⟨xs, (upd_ne (fun e => by rw [e, hp] at h; cases h)).trans h, r⟩
  | .dt kvs, ⟨xs, h, r⟩ => ⟨xs, (upd_ne (fun e => by rw [e, hp] at h; cases h)).trans h, r⟩
theorem stVO {G : Gx} {Φ : Fx} {R H : Hp} {ρ : PE0} {σ : L2.St} {i j : Nat} {d : D} {w : Ow} {v : V} {p : Addr} (S : SR G Φ R ρ σ H) (hij : i ≠ j) (hl : i < ρ.length ∧ j < ρ.length) (M : Mine Φ R ρ σ p) (o : OwnAt G.K R H p w) (q : Dq G.K R d v) :
    SR G Φ R ((ρ.set i (.v d)).set j (.own w)) ((σ.set i (some v)).set j (some (.ref p))) H := by
  rw [List.set_comm _ _ hij, List.set_comm _ _ hij]
  exact (S.storeOwn hl.2 M o).store (by rw [List.length_set]; exact hl.1) q
section
variable {ι : Type} {𝒳 : ι → Cx} {G : Gx} {k : Nat} {W : WX}
/-- both names plain -/
theorem sParVO (i j : Nat) {x y : Str} {a b : Expr} {m : ME} {o : MO} {px py pt pos : Pos} {kt k2 pt2} (fm : Fm G k 𝒳) (ha : CE 𝒳 G a m) (hb : CO 𝒳 G b o) (hi : ∀ q, (𝒳 q).N[i]? = some x := by intro _; rfl) (hj : ∀ q, (𝒳 q).N[j]? = some y := by intro _; rfl) (hij : i ≠ j := by decide)
    (hx : ∀ q, (𝒳 q).env.scope.names.lookup x = some .local := by intro _; rfl) (hy : ∀ q, (𝒳 q).env.scope.names.lookup y = some .local := by intro _; rfl)
    (hw : ∀ q, swappedStores [.Tuple [.Name x px, .Name y py] kt pt] (.Tuple [a, b] k2 pt2) (𝒳 q).env = pure (some [x, y]) := by intro _; rfl)
    (hs : ∀ q, swapsWithSole [.Tuple [.Name x px, .Name y py] kt pt] (.Tuple [a, b] k2 pt2) pos.line (𝒳 q).env = pure false := by intro _; rfl)
    (h1 : ∀ j, starEach [a, b] (𝒳 j).env = (false, eval a (𝒳 j).env) :: starEach [b] (𝒳 j).env := by intro _; rfl) (h2 : ∀ j, starEach [b] (𝒳 j).env = (false, eval b (𝒳 j).env) :: starEach [] (𝒳 j).env := by intro _; rfl) : CS 𝒳 G W (.Assign [.Tuple [.Name x px, .Name y py] kt pt] (.Tuple [a, b] k2 pt2) pos) (mParVO i j m o) := by
  obtain ⟨ta, pa, ia⟩ := ha
  obtain ⟨tb, pb, ib⟩ := hb
  refine ⟨_, fun q => ps_par (fm.calm q) (fm.nod q) (hi q) (hj q) hij (hx q) (hy q) (pa_cons (pa q) (pa_cons (pb q) pa_nil (h2 q)) (h1 q)) (hw q) (hs q), fun Φ R ρ σ H S D h => ?_⟩
  obtain ⟨d, ρ1, e1, h⟩ := EndOk.of h
  obtain ⟨w, ρ2, e2, h⟩ := EndOk.of h
  obtain ⟨hl, h⟩ := EndOk.ite h
  refine ia Φ R ρ σ H d ρ1 S e1 _ fun v R1 H1 S1 x1 q1 => ?_
  refine ib Φ R1 ρ1 σ H1 w ρ2 S1 e2 _ fun p R2 H2 S2 x2 M o => ?_
  exact ⟨v, .ref p, rfl, h _ R2 H2 (stVO S2 hij hl M o (q1.mono x2)) (x1.trans x2)⟩
/-- a name that a block within captures: by way of a new tuple -/
theorem sAsgVO (i j : Nat) {x y : Str} {a b : Expr} {m : ME} {o : MO} {px py pt pos : Pos} {kt k2 pt2} (fm : Fm G k 𝒳) (ha : CE 𝒳 G a m) (hb : CO 𝒳 G b o) (hi : ∀ q, (𝒳 q).N[i]? = some x := by intro _; rfl) (hj : ∀ q, (𝒳 q).N[j]? = some y := by intro _; rfl) (hij : i ≠ j := by decide)
    (hx : ∀ j, Loc (𝒳 j).env.scope x := by first | exact fun _ => Or.inl rfl | exact fun _ => Or.inr rfl)
    (hf : ∀ j, (𝒳 j).fn x = true ∨ (𝒳 j).env.scope.names.lookup x = some .local := by first | exact fun _ => .inl rfl | exact fun _ => .inr rfl)
    (hy : ∀ j, Loc (𝒳 j).env.scope y := by first | exact fun _ => Or.inl rfl | exact fun _ => Or.inr rfl)
    (hg : ∀ j, (𝒳 j).fn y = true ∨ (𝒳 j).env.scope.names.lookup y = some .local := by first | exact fun _ => .inl rfl | exact fun _ => .inr rfl)
    (hw : ∀ q, swappedStores [.Tuple [.Name x px, .Name y py] kt pt] (.Tuple [a, b] k2 pt2) (𝒳 q).env = pure none := by intro _; rfl)
    (hs : ∀ q, swapsWithSole [.Tuple [.Name x px, .Name y py] kt pt] (.Tuple [a, b] k2 pt2) pos.line (𝒳 q).env = pure false := by intro _; rfl)
    (z1 : ∀ j, (assignEach [.Tuple [.Name x px, .Name y py] kt pt] (𝒳 j).env).map (·.2) = [assign (.Tuple [.Name x px, .Name y py] kt pt) (𝒳 j).env] := by intro _; rfl)
    (z2 : ∀ j, (assignEach [.Name x px, .Name y py] (𝒳 j).env).map (·.2) = assign (.Name x px) (𝒳 j).env :: (assignEach [.Name y py] (𝒳 j).env).map (·.2) := by intro _; rfl)
    (z3 : ∀ j, (assignEach [.Name y py] (𝒳 j).env).map (·.2) = assign (.Name y py) (𝒳 j).env :: (assignEach [] (𝒳 j).env).map (·.2) := by intro _; rfl)
    (hn : ∀ j, (assignEach [.Name x px, .Name y py] (𝒳 j).env).length = 2 := by intro _; rfl) (hst : ∀ j, (assignEach [.Name x px, .Name y py] (𝒳 j).env).findIdx? (·.1) = none := by intro _; rfl)
    (h1 : ∀ j, starEach [a, b] (𝒳 j).env = (false, eval a (𝒳 j).env) :: starEach [b] (𝒳 j).env := by intro _; rfl) (h2 : ∀ j, starEach [b] (𝒳 j).env = (false, eval b (𝒳 j).env) :: starEach [] (𝒳 j).env := by intro _; rfl) : CS 𝒳 G W (.Assign [.Tuple [.Name x px, .Name y py] kt pt] (.Tuple [a, b] k2 pt2) pos) (mParVO i j m o) := by
  obtain ⟨ta, pa, ia⟩ := ha
  obtain ⟨tb, pb, ib⟩ := hb
  refine ⟨tAsg (tTup (tCons ta (tCons tb tNil))) (gTup G.K 2 (gCons (gName i) (gCons (gName j) gNil))), fun q => ps_asg (pe_tup (pa_cons (pa q) (pa_cons (pb q) pa_nil (h2 q)) (h1 q)))
    (Eq.mp (congrArg (fun K => PG (𝒳 q) (.Tuple [.Name x px, .Name y py] kt pt) (gTup K 2 (gCons (gName i) (gCons (gName j) gNil)))) (fm.K q)) (pg_tup (fm.calm q) (pgs_cons (pg_name (fm.nod q) (hi q) (hx q) (hf q)) (pgs_cons (pg_name (fm.nod q) (hj q) (hy q) (hg q)) pgs_nil (z3 q)) (z2 q)) (hn q) (hst q))) (hs q) (hw q) (z1 q), fun Φ R ρ σ H S D h => ?_⟩
  obtain ⟨d, ρ1, e1, h⟩ := EndOk.of h
  obtain ⟨w, ρ2, e2, h⟩ := EndOk.of h
  obtain ⟨hl, h⟩ := EndOk.ite h
  refine ia Φ R ρ σ H d ρ1 S e1 _ fun v R1 H1 S1 x1 q1 => ?_
  refine ib Φ R1 ρ1 σ H1 w ρ2 S1 e2 _ fun p R2 H2 S2 x2 M o => ?_
  refine ⟨show 2 ≤ sizeLine by decide, fun t nt => ?_⟩
  refine ⟨t, [v, .ref p], rfl, .inl (.inl upd_same), rfl, v, [.ref p], rfl, .ref p, [], rfl, rfl, ?_⟩
  exact h _ R2 _ (stVO (S2.made nt) hij hl M (o.made nt) (q1.mono x2)) (x1.trans x2)
end
end Pm

namespace Pm
open PySem PySem.W PySem.SeqAt PyProof.Rows
/-! sorting tuples of which some are empty -/
section
variable {prog : Program} {w : World} {A : Around} {E : Value → Shared → Prop} {s : Shared}
theorem tupLt_call {Q : Value → Shared → Prop} {l b : Addr} {items items2 : Array Value} {e r : Nat → Bool} (hl : s.heap.IsTuple l items) (hb : s.heap.IsTuple b items2)
    (he : ∀ j (h1 : j < items.size) (h2 : j < items2.size), EqAt A.in1 s items[j] items2[j] (e j)) (hr : ∀ j (h1 : j < items.size) (h2 : j < items2.size), e j = false → RcLt A.in1 s items[j] items2[j] (r j))
    (h : Q (.bool (firstLt e r (decide (items.size < items2.size)) (List.range (min items.size items2.size)))) s) : wpAny (model prog w) A (call (.builtin "tuple.__lt__") [.ref l, .ref b]) Q E s := by
  obtain ⟨⟨c1, d1, a1, s1⟩, o1, hc1, n1, hd1⟩ := id hl
  obtain ⟨⟨c2, d2, a2, s2⟩, o2, hc2, n2, hd2⟩ := id hb
  simp only at hc1 hd1 hc2 hd2
  subst hc1 hd1 hc2 hd2
  exact call_meets F.slot_tuple_lt ⟨_, o1, rfl⟩ F.entry_tuple_lt (F.args_tuple_lt_2 _ _) (tuple_ltAt l b items items2 n1 n2 d1 d2 s1 s2 e r) ⟨o1, o2, he, hr, h⟩
theorem oneLt_tup {xs ys : List PyData} {a b : Value} {as bs : List Addr} {Q : Bool → Shared → Prop} (ra : Reads s.heap a (.tuple xs) as) (rb : Reads s.heap b (.tuple ys) bs) (h : alike (.tuple xs) (.tuple ys) = true)
    (hu : A.units + min (PyData.tuple xs).depth (PyData.tuple ys).depth < cLine) (hq : Q (dataLt (.tuple xs) (.tuple ys)) s) : wpAny (model prog w) A (oneLt' true a b) Q E s := by
  have al : alikeAll xs ys = true := by simpa [alike] using h
  cases ra with
  | @tuple l o vs n _ _ h1 h2 h3 h4 =>
    cases rb with
    | @tuple l2 o2 us n2 _ _ k1 k2 k3 k4 =>
      have z1 : vs.size = xs.length := by simpa using ReadsAll.length _ _ _ h4
      have z2 : us.size = ys.length := by simpa using ReadsAll.length _ _ _ k4
      rw [dataLt_tuple, ← firstLt_toks xs ys al, ← z1, ← z2] at hq
      rw [oneLt'_eq]; simp only [if_true]
      refine wpAny_bind (wpAny_cRoomFor (room_here hu) ?_)
      refine wpAny_bind (wpAny_callSpecialIfBound?_slot (T := "tuple") ⟨_, h1, h2⟩ F.slot_tuple_lt (tupLt_call (e := pairEq xs ys) (r := fun j => dataLt (xs.getD j .none) (ys.getD j .none)) ⟨_, h1, h2, _, h3⟩ ⟨_, k1, k2, _, k3⟩ (fun j j1 j2 => ?_) (fun j j1 j2 hj => ?_) ?_))
      · have q := eqAt_alikeAll xs ys A.in1 s vs.toList us.toList _ _ h4 k4 al (room_in hu) j (by simpa using j1) (by simpa using j2)
        simpa using q
      · have q := rcLt_alikeAll xs ys A.in1 s vs.toList us.toList _ _ h4 k4 al (room_in hu) j (by simpa using j1) (by simpa using j2) hj
        simpa using q
      · exact wpAny_truthy_bool hq
def fullT : PyData → Bool
  | .tuple [] => false
  | _ => true
/-- the first items of tuples, where there are any -/
theorem firsts_of {vs : List Value} {ds : List PyData} (e : EachIs (fun v d => ∃ as, Reads s.heap v d as) vs ds) (ht : ∀ d ∈ ds, ∃ r, d = .tuple r) :
    ∃ fs : List (Option Value), fs.map (·.isSome) = ds.map fullT ∧ ∀ {Q : List (Option Value) → Shared → Prop} {E : Value → Shared → Prop}, Q fs s → wpAny (model prog w) A (vs.mapM firstOfTuple') Q E s := by
  induction e with
  | nil => exact ⟨[], rfl, fun h => by rw [List.mapM_nil]; exact wpAny_pure h⟩
  | @cons v d vs ds h _ ih =>
    obtain ⟨fs, i1, i2⟩ := ih fun x hx => ht x (List.mem_cons_of_mem _ hx)
    obtain ⟨r, rfl⟩ := ht d List.mem_cons_self
    obtain ⟨as, rd⟩ := h
    cases rd with
    | @tuple a o xs n _ _ h1 h2 h3 h4 =>
      have z := ReadsAll.length _ _ _ h4
      refine ⟨xs[0]? :: fs, ?_, fun {Q E} hq => ?_⟩
      · rw [List.map_cons, List.map_cons, i1]
        congr 1
        cases r with
        | nil =>
          have : xs[0]? = none := by simp at z; simp [z]
          rw [this]; rfl
        | cons x r =>
          have : 0 < xs.size := by simp at z; omega
          rw [Array.getElem?_eq_getElem this]; rfl
      · rw [List.mapM_cons]
        refine wpAny_bind ?_
        rw [kas_first_eq]
        refine wpAny_bind (Looks.here (show Looks (model prog w) s.heap (typeOf (.ref a)) o.cls from (Looks.ld h1).andThen .now) ?_)
        rw [h2, if_neg (by first | decide | simp)]
        refine wpAny_bind (listItems_at h1 h3 (wpAny_pure ?_))
        exact wpAny_bind (i2 (Q := fun bs s' => wpAny (model prog w) A (pure (xs[0]? :: bs)) Q E s') (wpAny_pure hq))
/-- tuples of which one is empty can be sorted -/
theorem sorts_some {vs : List Value} {ds : List PyData} (e : EachIs (fun v d => ∃ as, Reads s.heap v d as) vs ds) (hal : AllAlike ds) (ht : ∀ d ∈ ds, ∃ r, d = .tuple r) (he : PyData.tuple [] ∈ ds) (hu : ∀ d, d ∈ ds → A.units + d.depth < cLine) : SortsAt prog w A s (dataKind s.heap ds) vs := by
  have room : ∀ {d d' : PyData}, d ∈ ds → A.units + min d.depth d'.depth < cLine := fun {d d'} hd => Nat.lt_of_le_of_lt (Nat.add_le_add_left (Nat.min_le_left _ _) _) (hu d hd)
  refine ⟨fun v hv => ?_, ?_⟩
  · obtain ⟨d, hd, as, r⟩ := e.left v hv
    exact ⟨_, dataKind_some hal hd r⟩
  obtain ⟨fs, f1, f2⟩ := firsts_of (prog := prog) (w := w) (A := A) e ht
  have nall : (fs.toArray.all fun x => x.isSome) = false := by
    rw [List.all_toArray]
    have q : (fs.map (·.isSome)).all id = false := by
      rw [f1, List.all_eq_false]
      exact ⟨false, List.mem_map.mpr ⟨_, he, rfl⟩, by simp⟩
    rw [List.all_map] at q
    exact q
  have lt : ∀ (kd : SortKind), kd = general' ∨ kd = oneType' → H.LtAt prog w A s (dataKind s.heap ds) kd := by
    intro kd hk E x y a b Q ha hb hq
    obtain ⟨d, as, hd, ra, rfl⟩ := dataKind_inv ha
    obtain ⟨d', as', hd', rb, rfl⟩ := dataKind_inv hb
    obtain ⟨xs, rfl⟩ := ht d hd
    obtain ⟨ys, rfl⟩ := ht d' hd'
    rcases hk with rfl | rfl
    · exact oneLt_alike (f := false) (fun z => nomatch z) ra rb (hal _ hd _ hd') (fun z => nomatch z) (room hd) hq
    · exact oneLt_tup ra rb (hal _ hd _ hd') (room hd) hq
  by_cases g : (fs.toArray[0]?.bind id).isSome = true
  · refine ⟨general', lt _ (.inl rfl), fun h2 E Q hq => ?_⟩
    rw [keyKind'_eq, List.mapM_toArray, map_eq_pure_bind]
    refine wpAny_bind (wpAny_bind (f2 (wpAny_pure ?_)))
    rw [if_neg (by rw [nall]; exact Bool.false_ne_true), if_pos g]
    exact wpAny_pure hq
  · refine ⟨oneType', lt _ (.inr rfl), fun h2 E Q hq => ?_⟩
    rw [keyKind'_eq, List.mapM_toArray, map_eq_pure_bind]
    refine wpAny_bind (wpAny_bind (f2 (wpAny_pure ?_)))
    rw [if_neg (by rw [nall]; exact Bool.false_ne_true), if_neg g]
    rw [oneTypeOnly'_eq, List.mapM_toArray, map_eq_pure_bind]
    refine wpAny_bind (wpAny_bind (wpAny_bind (kas_mapM (r := Value.type "tuple") _ (fun v hv Q' hq => ?_) (wpAny_pure ?_))))
    · obtain ⟨d, hd, as, r⟩ := e.left v hv
      obtain ⟨xs, rfl⟩ := ht d hd
      exact (looks_reads r).here hq
    · have hall : ((List.map (fun _ => Value.type "tuple") vs).toArray.all fun x => x == Value.type "tuple") = true := by
        simp only [List.all_toArray, List.all_map, List.all_eq_true]
        intro _ _
        exact beq_self_eq_true _
      have h0 : (List.map (fun _ => Value.type "tuple") vs).toArray[0]? = some (Value.type "tuple") := by
        cases vs with
        | nil => exact absurd h2 (by simp)
        | cons v vs => simp
      rw [h0]; simp only [hall, if_true]
      exact wpAny_pure (wpAny_pure hq)
end
end Pm

namespace Pm
open PySem PySem.Spec PyProof.Rows L2
open PySem.W (EachIs AllAlike Sortable dataLe SortsAt sorted_vals sortVals_data sortVals_length sortingHeap copyHeap)
def SrtOk (ds : List D) : Prop := Sortable ds ∨ ((∀ d ∈ ds, ∃ r, d = .tuple r) ∧ PyData.tuple [] ∈ ds)
section
variable {prog : Program} {w : World} {A : Around} {E : Value → Shared → Prop} {s : Shared} {β : Type} {vs : List Value} {bs : List β} {enc : β → PyData} {R : Value → β → Prop}
theorem sortedK {l : Addr} {Q : Value → Shared → Prop} (hl : s.heap.IsList l vs.toArray) (e : EachIs R vs bs) (er : EachIs (fun v b => ∃ as, Reads s.heap v (enc b) as) vs bs) (hal : AllAlike (bs.map enc)) (hk : SrtOk (bs.map enc)) (hL : bs.length ≤ sizeLine)
    (hu : ∀ b, b ∈ bs → A.units + 2 + (enc b).depth < cLine) (h : ∀ out, out.length = bs.length → EachIs R out (bs.mergeSort (dataLe false enc)) → Q (.ref (s.heap.objs.size + 1)) { s with heap := sortedAll s.heap vs (List.toArray out) }) :
    wpAny (model prog w) A (call (.builtin "sorted") [.ref l]) Q E s := by
  rcases hk with hk | ⟨ht, he⟩
  · exact PySem.W.sorted_data hl e er hal hk hL hu h
  · have e2 : EachIs (fun v b => ∃ as, Reads (sortingHeap (copyHeap s.heap vs) (s.heap.objs.size + 1) vs) v (enc b) as) vs bs := er.mono fun _ _ ⟨as, r⟩ => ⟨as, PyProof.Rows.Reads.keeps (fun _ _ => PySem.W.sorting_copy_old) r⟩
    refine sorted_vals hl (sorts_some (s := { s with heap := sortingHeap (copyHeap s.heap vs) (s.heap.objs.size + 1) vs }) (PySem.W.each_map (R := fun v d => ∃ as, Reads (sortingHeap (copyHeap s.heap vs) (s.heap.objs.size + 1) vs) v d as) enc e2) hal ht he (fun d hd => ?_)) (by rw [e.length]; exact hL) (h _ (by rw [sortVals_length false rfl]; exact e.length) (sortVals_data false e e2 hal))
    obtain ⟨b, hb, rfl⟩ := List.mem_map.mp hd
    exact hu b hb
end
def rSortD (K : PySem.W.Frag) : List V → Hp → VK → Prop := fun vs H Q => ∃ (a : Addr) (xs : List V) (ds : List D), vs = [V.ref a] ∧ SqL K H a xs ∧ DpAll K H xs ds ∧ (∀ d ∈ ds, d.plain = true ∧ d.depth ≤ 60) ∧ AllAlike ds ∧ SrtOk ds ∧
  ∀ p, H p = none → Q (.ref p) (upd H p (.lst (((xs.zip ds).mergeSort (dataLe false fun b : V × D => b.2)).map (·.1))))
theorem each_of {X : Cx} {pins : List (Addr × Obj)} {σ : L2.St} {H : Hp} {s : Shared} (I : Inv X pins σ H s) : ∀ {xs : List V} {ds : List D} {us : List Value}, DpAll X.K H xs ds → (∀ d ∈ ds, d.plain = true) → Vals xs us →
    EachIs (fun v (b : V × D) => RelV b.1 v) us (xs.zip ds) ∧ EachIs (fun v (b : V × D) => ∃ as, Reads s.heap v b.2 as) us (xs.zip ds)
  | _, _, _, .nil, _, .nil => ⟨.nil, .nil⟩
  | _, _, _, .cons h1 h2, hp, .cons r1 r2 => by
    obtain ⟨i1, i2⟩ := each_of I h2 (fun d hd => hp d (List.mem_cons_of_mem _ hd)) r2
    exact ⟨.cons r1 i1, .cons (Dp.reads I _ _ _ h1 r1) i2⟩
theorem vals_each : ∀ {us : List Value} {bs : List (V × D)}, EachIs (fun v (b : V × D) => RelV b.1 v) us bs → Vals (bs.map (·.1)) us
  | _, _, .nil => .nil
  | _, _, .cons r h => .cons r (vals_each h)
theorem dpall_len {K : PySem.W.Frag} {H : Hp} : ∀ {xs : List V} {ds : List D}, DpAll K H xs ds → xs.length = ds.length
  | _, _, .nil => rfl
  | _, _, .cons _ h => congrArg (· + 1) (dpall_len h)
theorem cr_sortD {X : Cx} (hu : X.A.units + 64 < cLine) : CallR X (.builtin "sorted") (rSortD X.K) := by
  intro pins s σ H vs us Q I r h
  obtain ⟨a, xs, ds, rfl, hs, hd, hp, hal, hk, q⟩ := h
  obtain ⟨its, rv, hl, hz⟩ := I.list hs
  rw [Vals.ref1 r]
  obtain ⟨e1, e2⟩ := each_of I hd (fun d hd => (hp d hd).1) rv
  have le := dpall_len hd
  have zz : (xs.zip ds).map (·.2) = ds := by rw [List.map_snd_zip]; omega
  refine sortedK (enc := fun b : V × D => b.2) hl.isList e1 e2 (by rw [zz]; exact hal) (by rw [zz]; exact hk) (by rw [List.length_zip]; omega) (fun b hb => ?_) fun out h1 h2 => ?_
  · have hb2 : b.2 ∈ ds := (List.of_mem_zip (a := b.1) (b := b.2) hb).2
    have := (hp _ hb2).2
    omega
  · obtain ⟨ep, he'⟩ := PyProof.Rows.sortedAll_at s.heap its out.toArray
    have hlen : (((xs.zip ds).mergeSort (dataLe false fun b : V × D => b.2)).map (·.1)).length ≤ sizeLine := by
      rw [List.length_map, List.length_mergeSort, List.length_zip]; omega
    exact ⟨.ref _, upd H (s.heap.objs.size + 1) (.lst _), I.laid (t' := s.toks) (fun _ _ => PyProof.Rows.sortedAll_old) (Nat.le_succ _) ⟨hlen, out, ep, vals_each h2, he'⟩, rfl, q _ (I.hok.fresh (Nat.le_succ _))⟩
end Pm

namespace Pm
open PySem PySem.Spec PyProof.Rows L2
open PySem.W (AllAlike Sortable dataLe alike)
/-! sorted(list) of data that can be compared -/
def tupB : D → Bool
  | .tuple _ => true
  | _ => false
def atomB : D → Bool
  | .none => false
  | .tuple _ => false
  | _ => true
def srtB (ds : List D) : Bool := ds.all (fun d => d.plain && decide (d.depth ≤ 60)) && ds.all (fun d => ds.all fun e => alike d e) && (ds.all atomB || ds.all (fun d => tupB d && fullT d) || (ds.all tupB && !ds.all fullT))
def srt (ds : List D) : List D := ds.mergeSort (dataLe false fun d : D => d)
def sortedO : List D → Option Ow
  | [.list ds] => if srtB ds then some (.l (srt ds)) else none
  | _ => none
theorem srtB_ok {ds : List D} (h : srtB ds = true) : (∀ d ∈ ds, d.plain = true ∧ d.depth ≤ 60) ∧ AllAlike ds ∧ SrtOk ds := by
  unfold srtB at h
  rw [Bool.and_eq_true, Bool.and_eq_true] at h
  obtain ⟨⟨h1, h2⟩, h3⟩ := h
  refine ⟨fun d hd => ?_, fun d hd e he => ?_, ?_⟩
  · have := List.all_eq_true.mp h1 d hd
    rw [Bool.and_eq_true, decide_eq_true_eq] at this
    exact this
  · exact List.all_eq_true.mp (List.all_eq_true.mp h2 d hd) e he
  · rw [Bool.or_eq_true, Bool.or_eq_true] at h3
    rcases h3 with (h | h) | h
    · refine .inl (.inr fun d hd => ?_)
      have := List.all_eq_true.mp h d hd
      exact ⟨fun e => by rw [e] at this; exact absurd this (by decide), fun xs e => by rw [e] at this; exact absurd this (by simp [atomB])⟩
    · refine .inl (.inl fun d hd => ?_)
      have := List.all_eq_true.mp h d hd
      rw [Bool.and_eq_true] at this
      cases d with
      | tuple xs =>
        cases xs with
        | nil => exact absurd this.2 (by simp [fullT])
        | cons x r => exact ⟨x, r, rfl⟩
      | _ => exact absurd this.1 (by simp [tupB])
    · rw [Bool.and_eq_true, Bool.not_eq_true'] at h
      have ht : ∀ d ∈ ds, ∃ r, d = PyData.tuple r := fun d hd => by
        have := List.all_eq_true.mp h.1 d hd
        cases d with
        | tuple xs => exact ⟨xs, rfl⟩
        | _ => exact absurd this (by simp [tupB])
      refine .inr ⟨ht, ?_⟩
      obtain ⟨d, hd, e⟩ := List.all_eq_false.mp h.2
      obtain ⟨r, rfl⟩ := ht d hd
      cases r with
      | nil => exact hd
      | cons x r => exact absurd rfl e
theorem dqa_zip {K : PySem.W.Frag} {R : Hp} : ∀ {ds : List D} {xs : List V}, DqA K R ds xs → ∀ b ∈ xs.zip ds, Dq K R b.2 b.1
  | [], _, h, b, hb => by rw [dqa_nil.mp h] at hb; cases hb
  | d :: ds, _, h, b, hb => by
    obtain ⟨x, r, rfl, h1, h2⟩ := dqa_cons.mp h
    rcases List.mem_cons.mp hb with rfl | hb
    · exact h1
    · exact dqa_zip h2 b hb
theorem dqa_of {K : PySem.W.Frag} {R : Hp} : ∀ {bs : List (V × D)}, (∀ b ∈ bs, Dq K R b.2 b.1) → DqA K R (bs.map (·.2)) (bs.map (·.1))
  | [], _ => dqa_nil.mpr rfl
  | b :: bs, h => dqa_cons.mpr ⟨_, _, rfl, h b List.mem_cons_self, dqa_of fun x hx => h x (List.mem_cons_of_mem _ hx)⟩
theorem srt_zip {xs : List V} {ds : List D} (h : xs.length = ds.length) : ((xs.zip ds).mergeSort (dataLe false fun b : V × D => b.2)).map (·.2) = srt ds := by
  unfold srt
  refine (List.map_mergeSort (r := dataLe false fun b : V × D => b.2) (s := dataLe false fun d : D => d) (f := fun b : V × D => b.2) (l := xs.zip ds) (fun a _ b _ => rfl)).trans ?_
  have e : (xs.zip ds).map (fun b : V × D => b.2) = ds := List.map_snd_zip (by omega)
  rw [e]
section
variable {ι : Type} {𝒳 : ι → Cx} {G : Gx} {k : Nat}
theorem oCallB {id : String} {x : Str} {e : Expr} {es : List Expr} {ma : MA} {r : List V → Hp → VK → Prop} {f : List D → Option Ow} {p pos : Pos} (fm : Fm G k 𝒳) (hc : ∀ i, CallR (𝒳 i) (.builtin id) r) (hr : ClO G r f) (hm : G.mg x = none) (hv : bootBuiltins x = some (.builtin id)) (ha : CA 𝒳 G (e :: es) ma)
    (hg : ∀ i, Gl (𝒳 i) x := by intro _; rfl) (hn : x ≠ "__name__" := by decide) (hdb : (x == ("__debug__" : Str)) = false := by decide)
    (he : ∀ i, starEach (e :: es) (𝒳 i).env = (false, eval e (𝒳 i).env) :: starEach es (𝒳 i).env := by intro _; rfl) (hpl : ∀ i, (backTo pos (starEach es (𝒳 i).env)).any (·.1) = false := by intro _; rfl) :
    CO 𝒳 G (.Call (.Name x p) (e :: es) [] pos) (mCallO f ma) := by
  obtain ⟨t, hp, hi, _⟩ := ha
  exact ⟨_, fun i => pe_callB (hc i) (hg i) (by rw [fm.mg i]; exact hm) hv (hp i) hn hdb (he i) (hpl i), fun Φ => iCallO (hi Φ) hr⟩
theorem oSorted {e : Expr} {m : ME} {p pos : Pos} (fm : Fm G k 𝒳) (hm : G.mg "sorted" = none) (h : CE 𝒳 G e m) (hg : ∀ i, Gl (𝒳 i) "sorted" := by intro _; rfl)
    (he : ∀ i, starEach [e] (𝒳 i).env = (false, eval e (𝒳 i).env) :: starEach [] (𝒳 i).env := by intro _; rfl) : CO 𝒳 G (.Call (.Name "sorted" p) [e] [] pos) (mCallO sortedO (mCons m mNil)) :=
  oCallB (r := rSortD G.K) fm (fun i => fm.call (p := fun K => rSortD K) i (cr_sortD (room64 fm i))) (fun Φ R H ρ σ ds d vs S e qa Q q => by
    unfold sortedO at e
    split at e
    · rename_i us
      split at e <;> cases e
      rename_i hb
      obtain ⟨b1, b2, b3⟩ := srtB_ok hb
      obtain ⟨x, rfl, h⟩ := dqa1 qa
      obtain ⟨p, ws, rfl, h1, h2⟩ := dq_list.mp h
      have hp : PyData.plainAll us = true := (sh_all (n := 60) fun d hd => b1 d hd).1
      have lw : ws.length = us.length := h2.length.symm
      refine ⟨p, ws, us, rfl, .inl (.inl (S.sub _ _ h1)), DqA.dp S.sub _ _ hp h2, b1, b2, b3, fun l nl => q l R _ (S.made nl) (Ext.refl R) (S.mine nl) ⟨_, upd_same, ?_, ?_⟩⟩
      · rw [← srt_zip lw]
        exact dqa_of fun b hb => dqa_zip h2 b (List.mem_mergeSort.mp hb)
      · rw [List.length_map, List.length_mergeSort, List.length_zip]
        have : ws.length ≤ sizeLine := S.lens _ _ h1
        omega
    · cases e) hm (by decide +kernel) (aCons h aNil he) hg (by decide) (by decide) he (fun _ => rfl)
end
end Pm

namespace Pm
open PySem PySem.Spec PyProof.Rows L2
open PySem.W (alike)
/-! min(list) of data that can be compared, default= too -/
abbrev leastD (d : D) (ds : List D) : D := PySem.W.minD d ds
def cmpB (ds : List D) : Bool := ds.all (fun d => d.plain && decide (d.depth ≤ 60)) && ds.all (fun d => ds.all fun e => alike d e) && ds.all fun d => match d with | .none => false | _ => true
theorem cmpB_ok {ds : List D} (h : cmpB ds = true) : (∀ d ∈ ds, d.plain = true ∧ d.depth ≤ 60) ∧ PySem.W.AlikeAll ds := by
  unfold cmpB at h
  rw [Bool.and_eq_true, Bool.and_eq_true] at h
  obtain ⟨⟨h1, h2⟩, h3⟩ := h
  refine ⟨fun d hd => ?_, fun d hd e he => ?_, fun d hd e => ?_⟩
  · have := List.all_eq_true.mp h1 d hd
    rw [Bool.and_eq_true, decide_eq_true_eq] at this
    exact this
  · exact List.all_eq_true.mp (List.all_eq_true.mp h2 d hd) e he
  · have := List.all_eq_true.mp h3 d hd
    rw [e] at this
    exact absurd this (by decide)
def rMinD (K : PySem.W.Frag) : List V → Hp → VK → Prop := fun vs H Q => ∃ (a : Addr) (xs : List V) (d : D) (ds : List D), vs = [V.ref a] ∧ SqL K H a xs ∧ DpAll K H xs (d :: ds) ∧ cmpB (d :: ds) = true ∧
  ∀ (i : Nat) (x : V), xs[i]? = some x → (d :: ds)[i]? = some (leastD d ds) → Q x H
theorem cr_minD {X : Cx} (hu : X.A.units + 64 < cLine) (hc : X.calm = true) : CallR X (.builtin "min") (rMinD X.K) := by
  intro pins s σ H vs us Q I r h
  obtain ⟨a, xs, d, ds, rfl, hs, hd, hb, q⟩ := h
  obtain ⟨b1, b2⟩ := cmpB_ok hb
  obtain ⟨its, rv, hl, hz⟩ := I.list hs
  rw [Vals.ref1 r]
  obtain ⟨as, rr⟩ := Dp.readsAll I _ _ _ hd rv
  have hdep : PyData.depthAll (d :: ds) ≤ 60 := (sh_all (n := 60) fun x hx => b1 x hx).2
  refine PySem.W.min_list_data (vs := its.toArray) (I.ok.hd hc) hl.isList rr b2 (by omega) fun i v h' tk bs hv hr hk => ?_
  have hv2 : its[i]? = some v := by simpa using hv
  have hil : i < its.length := (List.getElem?_eq_some_iff.mp hv2).1
  have lx := rv.length
  obtain ⟨x, hx⟩ : ∃ x, xs[i]? = some x := ⟨_, List.getElem?_eq_getElem (by omega)⟩
  obtain ⟨u, hu2, ru⟩ := rv.get hx
  rw [hv2] at hu2
  cases hu2
  obtain ⟨bs2, r2, e2, m2, _⟩ := PySem.W.readsAll_at rr i v hv2
  have r3 := PySem.W.reads_keeps hk r2
  have e := PySem.SeqAt.plain_unique _ _ _ _ _ (b1 _ m2).1 r3 hr
  refine ⟨x, H, I.kept (t' := tk) hk, ru, q i x hx ?_⟩
  rw [List.getElem?_eq_getElem e2]
  rw [List.getD_eq_getElem?_getD, List.getElem?_eq_getElem e2] at e
  exact congrArg some e
end Pm

namespace Pm
open PySem PySem.Spec PyProof.Rows L2
def minL : List D → Option D
  | [.list (d :: ds)] => if cmpB (d :: ds) then some (leastD d ds) else none
  | _ => none
/-- min(list, default=d) -/
def minDefD (xs ks : List D) : Option D := match xs, ks with
  | [.list []], [k] => some k
  | [.list (d :: ds)], [_] => if cmpB (d :: ds) then some (leastD d ds) else none
  | _, _ => none
def rMinDef (K : PySem.W.Frag) : List V → List V → Hp → VK → Prop := fun vs zs H Q => ∃ (a : Addr) (xs : List V) (ds : List D) (z : V), vs = [V.ref a] ∧ zs = [z] ∧ SqL K H a xs ∧ DpAll K H xs ds ∧ cmpB ds = true ∧
  (ds = [] → Q z H) ∧ ∀ (d : D) (r : List D), ds = d :: r → ∀ (i : Nat) (x : V), xs[i]? = some x → ds[i]? = some (leastD d r) → Q x H
theorem cr_minDef {X : Cx} (hu : X.A.units + 64 < cLine) (hc : X.calm = true) : CallRK X (.builtin "min") [Str.ofString "default"] (rMinDef X.K) := by
  intro pins s σ H vs zs us ws Q I r rz h
  obtain ⟨a, xs, ds, z, rfl, rfl, hs, hd, hb, q0, q⟩ := h
  obtain ⟨b1, b2⟩ := cmpB_ok hb
  obtain ⟨its, rv, hl, hz⟩ := I.list hs
  rw [Vals.ref1 r]
  obtain ⟨zu, rfl, rzu⟩ := vals1 rz
  obtain ⟨as, rr⟩ := Dp.readsAll I _ _ _ hd rv
  have hdep : PyData.depthAll ds ≤ 60 := (sh_all (n := 60) fun x hx => b1 x hx).2
  refine PySem.W.min_list_default (vs := its.toArray) (I.ok.hd hc) hl.isList rr b2 (by omega) (fun e h' tk hk => ⟨z, H, I.kept (t' := tk) hk, rzu, q0 e⟩) fun y ys i v h' tk bs ey hv hr hk => ?_
  have hv2 : its[i]? = some v := by simpa using hv
  have hil : i < its.length := (List.getElem?_eq_some_iff.mp hv2).1
  have lx := rv.length
  obtain ⟨x, hx⟩ : ∃ x, xs[i]? = some x := ⟨_, List.getElem?_eq_getElem (by omega)⟩
  obtain ⟨u, hu2, ru⟩ := rv.get hx
  rw [hv2] at hu2
  cases hu2
  obtain ⟨bs2, r2, e2, m2, _⟩ := PySem.W.readsAll_at rr i v hv2
  have r3 := PySem.W.reads_keeps hk r2
  have e := PySem.SeqAt.plain_unique _ _ _ _ _ (b1 _ m2).1 r3 hr
  refine ⟨x, H, I.kept (t' := tk) hk, ru, q y ys ey i x hx ?_⟩
  rw [List.getElem?_eq_getElem e2]
  rw [List.getD_eq_getElem?_getD, List.getElem?_eq_getElem e2] at e
  exact congrArg some e
section
variable {ι : Type} {𝒳 : ι → Cx} {G : Gx} {k : Nat}
theorem cMinL {e : Expr} {m : ME} {p pos : Pos} (fm : Fm G k 𝒳) (hm : G.mg "min" = none) (h : CE 𝒳 G e m) (hg : ∀ i, Gl (𝒳 i) "min" := by intro _; rfl)
    (he : ∀ i, starEach [e] (𝒳 i).env = (false, eval e (𝒳 i).env) :: starEach [] (𝒳 i).env := by intro _; rfl) : CE 𝒳 G (.Call (.Name "min" p) [e] [] pos) (mCallB minL (mCons m mNil)) :=
  cCallB (r := rMinD G.K) fm (fun i => fm.call (p := fun K => rMinD K) i (cr_minD (room64 fm i) (fm.calm i))) (fun Φ R H ρ σ ds d vs S e qa Q q => by
    unfold minL at e
    split at e
    · rename_i x xs
      split at e <;> cases e
      rename_i hb
      obtain ⟨v, rfl, h⟩ := dqa1 qa
      obtain ⟨p, ws, rfl, h1, h2⟩ := dq_list.mp h
      refine ⟨p, ws, x, xs, rfl, .inl (.inl (S.sub _ _ h1)), DqA.dp S.sub _ _ (sh_all (n := 60) fun d hd => (cmpB_ok hb).1 d hd).1 h2, hb, fun i v hv hd => ?_⟩
      obtain ⟨v2, e2, dv⟩ := h2.get hd
      rw [hv] at e2
      cases e2
      exact q _ R H S (Ext.refl R) dv
    · cases e) hm (by decide +kernel) (aCons h aNil he) hg (by decide) (by decide) he (fun _ => rfl)
def mCallBK (f : List D → List D → Option D) (ma mk : MA) : ME := fun ρ => (ma ρ).bind fun ds ρ1 => (mk ρ1).bind fun es ρ2 => Re.opt (f ds es) ρ2
@[simp] theorem mCallBK_eq (f : List D → List D → Option D) (ma mk : MA) (ρ : PE0) : mCallBK f ma mk ρ = (ma ρ).bind fun ds ρ1 => (mk ρ1).bind fun es ρ2 => Re.opt (f ds es) ρ2 := rfl
theorem cMinDef {e : Expr} {kws : List Keyword} {m : ME} {mk : MA} {p pos : Pos} (fm : Fm G k 𝒳) (hm : G.mg "min" = none) (h : CE 𝒳 G e m) (hk : CK 𝒳 G kws mk) (hg : ∀ i, Gl (𝒳 i) "min" := by intro _; rfl)
    (he1 : ∀ i, starEach [e] (𝒳 i).env = (false, eval e (𝒳 i).env) :: starEach [] (𝒳 i).env := by intro _; rfl)
    (he : ∀ i, backTo pos (starEach [e] (𝒳 i).env) = (false, eval e (𝒳 i).env) :: backTo pos (starEach [] (𝒳 i).env) := by intro _; rfl) (hpl : ∀ i, (backTo pos (starEach [e] (𝒳 i).env)).any (·.1) = false := by intro _; rfl)
    (hall : ∀ i, (backToKw pos (keywordEach kws (𝒳 i).env)).all (·.1.isSome) = true := by intro _; rfl) (hnone : ∀ i, (backToKw pos (keywordEach kws (𝒳 i).env)).any (·.1.isNone) = false := by intro _; rfl) (hks : ∀ i, (backToKw pos (keywordEach kws (𝒳 i).env)).filterMap (·.1) = [Str.ofString "default"] := by intro _; rfl) :
    CE 𝒳 G (.Call (.Name "min" p) [e] kws pos) (mCallBK minDefD (mCons m mNil) mk) := by
  obtain ⟨t, hp, hi, _⟩ := aCons h aNil he1
  obtain ⟨tk, kp, ki, _⟩ := hk
  refine ⟨tCKw (rMinDef G.K) t tk, fun i => pe_callBK (r := rMinDef G.K) (by have z := cr_minDef (X := 𝒳 i) (room64 fm i) (fm.calm i); rw [fm.K i] at z; exact z) (hg i) (by rw [fm.mg i]; exact hm) (by decide +kernel) (hp i) (kp i) (by decide) (by decide) (he i) (hpl i) (hall i) (hnone i) (hks i), fun Φ R ρ σ H d ρ' S e Q q => ?_⟩
  obtain ⟨ds, ρ1, e1, f1⟩ := Re.of_bind e
  obtain ⟨es, ρ2, e2, f2⟩ := Re.of_bind f1
  obtain ⟨e3, rfl⟩ := Re.of_opt f2
  clear f1 f2 e
  refine hi Φ R ρ σ H ds ρ1 S e1 _ fun vs R1 H1 S1 x1 q1 => ?_
  refine ki Φ R1 ρ1 σ H1 es _ S1 e2 _ fun zs R2 H2 S2 x2 q2 => ?_
  replace q1 := q1.mono x2
  clear e1 e2
  unfold minDefD at e3
  split at e3
  · rename_i kd
    cases e3
    obtain ⟨v, rfl, h⟩ := dqa1 q1
    obtain ⟨p, ws, rfl, h1, h2⟩ := dq_list.mp h
    obtain ⟨z, rfl, hz⟩ := dqa1 q2
    rw [dqa_nil.mp h2] at h1
    exact ⟨p, [], [], z, rfl, rfl, .inl (.inl (S2.sub _ _ h1)), .nil, rfl, fun _ => q _ R2 H2 S2 (x1.trans x2) hz, fun _ _ e => nomatch e⟩
  · rename_i x xs kd
    by_cases hb : cmpB (x :: xs) = true
    case neg => rw [if_neg hb] at e3; cases e3
    rw [if_pos hb] at e3
    cases e3
    obtain ⟨v, rfl, h⟩ := dqa1 q1
    obtain ⟨p, ws, rfl, h1, h2⟩ := dq_list.mp h
    obtain ⟨z, rfl, hz⟩ := dqa1 q2
    refine ⟨p, ws, x :: xs, z, rfl, rfl, .inl (.inl (S2.sub _ _ h1)), DqA.dp S2.sub _ _ (sh_all (n := 60) fun d hd => (cmpB_ok hb).1 d hd).1 h2, hb, (fun e => nomatch e), fun d r ed i v hv hd => ?_⟩
    cases ed
    obtain ⟨v2, e2, dv⟩ := h2.get hd
    rw [hv] at e2
    cases e2
    exact q _ R2 H2 S2 (x1.trans x2) dv
  · cases e3
end
end Pm

namespace Pm
open PySem PySem.Spec PyProof.Rows L2
/-! t[::-1] of a tuple -/
section
variable {prog : Program} {w : World} {A : Around} {E : Value → Shared → Prop} {s : Shared}
theorem fm_all {α β : Type} {f : α → Option β} {g : α → β} : ∀ {l : List α}, (∀ m ∈ l, f m = some (g m)) → l.filterMap f = l.map g
  | [], _ => rfl
  | x :: l, h => by rw [List.filterMap_cons, h x List.mem_cons_self, List.map_cons, fm_all fun m hm => h m (List.mem_cons_of_mem _ hm)]
theorem pick_back (xs : Array Value) : ((List.range xs.size).filterMap fun (m : Nat) => xs[(((xs.size : Int) - 1) + (m : Int) * (-1)).toNat]?).toArray = xs.toList.reverse.toArray := by
  congr 1
  apply List.ext_getElem?
  intro i
  have e : ((List.range xs.size).filterMap fun (m : Nat) => xs[(((xs.size : Int) - 1) + (m : Int) * (-1)).toNat]?) = (List.range xs.size).map fun m => xs.getD (xs.size - 1 - m) .none := by
    refine fm_all fun m hm => ?_
    rw [List.mem_range] at hm
    have : (((xs.size : Int) - 1) + (m : Int) * (-1)).toNat = xs.size - 1 - m := by omega
    rw [this]
    have hl : xs.size - 1 - m < xs.size := by omega
    simp [hl]
  rw [e, List.getElem?_map]
  by_cases h : i < xs.size
  · rw [List.getElem?_range h, List.getElem?_reverse (by simpa using h)]
    have hl : xs.size - 1 - i < xs.size := by omega
    simp [hl]
  · rw [List.getElem?_eq_none (by rw [List.length_range]; omega), List.getElem?_eq_none (by simp; omega)]
    rfl
theorem getItem_tup_back {t sl : Addr} {items : Array Value} {vl vu vs : Value} {Q : Value → Shared → Prop} (ht : IsTup s.heap t items) (hs : s.heap.IsSliceOf sl vl vu vs) (pl : IsPart vl none) (pu : IsPart vu none) (ps : IsPart vs (some (-1)))
    (h : Q (.ref s.heap.objs.size) { s with heap := s.heap.push { cls := .type "tuple", data := .seq items.toList.reverse.toArray } }) (hsz : items.size ≤ sizeLine) : wpAny (model prog w) A (getItem (.ref t) (.ref sl)) Q E s := by
  have hok : sizeOk (.seq items.toList.reverse.toArray) := by
    show items.toList.reverse.toArray.size ≤ sizeLine
    simpa using hsz
  obtain ⟨os, o1, o2, o3⟩ := id hs
  have tS : s.TypeIs (.ref sl) "slice" := ⟨os, o1, o2⟩
  unfold getItem; try with_reducible refine wpAny_holding ?_
  first | refine wpAny_bind (wpAny_pure ?_) | skip
  refine wpAny_bind (wpAny_sequenceKey ht.typeIs (by decide) ?_); refine wpAny_bind (wpAny_callSpecial?_slot (name := Str.ofString "__getitem__") ht.typeIs PyProof.Rows.slot_tuple_getitem (wpAny_call_entry PyProof.Rows.slot_tuple_getitem ht.typeIs entry_tuple_getitem ?_ (args_tuple_getitem _ _)))
  show wpAny _ _ (Builtin.Tuple.tupleItemsOf (.ref t) >>= _) _ _ s; refine wpAny_bind (tupleItemsOf_ ht ?_)
  refine wpAny_bind (wpAny_typeOf tS ?_); rw [if_pos (by decide)]
  refine wpAny_bind ?_
  unfold Builtin.Slice.sliceApplied Builtin.Slice.sliceFields
  refine wpAny_bind (wpAny_bind (wpAny_field o1 o3 (x := vl) rfl (wpAny_bind (wpAny_field o1 o3 (x := vu) rfl (wpAny_bind (wpAny_field o1 o3 (x := vs) rfl (wpAny_pure ?_)))))))
  refine wpAny_bind (HT.slicePart_ ps ?_)
  show wpAny _ _ (if ((-1 : Int) == 0) = true then _ else _) _ _ s; rw [if_neg (by decide)]
  refine wpAny_bind (HT.slicePart_ pl (wpAny_bind (HT.slicePart_ pu (wpAny_bind (wpAny_pure ?_)))))
  have pl2 : Builtin.Slice.slicePlaces ((items.size : Int) - 1) (-1) (-1) = items.size := by
    unfold Builtin.Slice.slicePlaces
    simp only [show ¬ ((-1 : Int) > 0) by decide, if_false]
    split <;> simp <;> omega
  show wpAny _ _ (pure (((items.size : Int) - 1), (-1 : Int), Builtin.Slice.slicePlaces ((items.size : Int) - 1) (-1) (-1))) _ _ s
  rw [pl2]; refine wpAny_pure ?_
  show wpAny _ _ (if (((items.size : Int) - 1) == 0 && (-1 : Int) == 1 && items.size == items.size) = true then _ else _) _ _ s
  rw [if_neg (by rw [show ((-1 : Int) == 1) = false by decide, Bool.and_false, Bool.false_and]; exact Bool.false_ne_true), pick_back]
  first
    | exact wpAny_bind (m := Builtin.Tuple.tupleExact _) (wpAny_newObj_type (wpAny_pure ⟨_, rfl, wpAny_pure h⟩) hok)
    | exact wpAny_bind (wpAny_bind (m := Builtin.Tuple.tupleExact _) (wpAny_newObj_type (wpAny_pure ⟨_, rfl, wpAny_pure h⟩) hok))
    | exact wpAny_bind (wpAny_bind (m := Builtin.Tuple.tupleExact _) (wpAny_newObj_type (wpAny_pure (wpAny_pure ⟨_, rfl, wpAny_pure h⟩)) hok))
    | exact wpAny_bind (m := Builtin.Tuple.tupleExact _) (wpAny_newObj_type (wpAny_bind (wpAny_pure (wpAny_pure ⟨_, rfl, wpAny_pure h⟩))) hok)
end
def tRevT (K : PySem.W.Frag) (te : TE) : TE := fun σ H Q => te σ H fun x H1 => ∃ a xs, x = .ref a ∧ SqT K H1 a xs ∧ ∀ p, H1 p = none → Q (.ref p) (upd H1 p (.tup xs.reverse))
section
variable {X : Cx}
theorem pe_revT {e : Expr} {te : TE} {k : Nat} {p1 p2 p3 pos : Pos} (he : PE X e te) : PE X (.Subscript e (.Slice none none (some (.UnaryOp .USub (.Constant (.int 1) k p1) p2)) p3) pos) (tRevT X.K te) := by
  refine ⟨fun pins s σ H Q I h => Subscript_ (thn (he.run pins s σ H _ I h) fun v t1 ⟨x, H1, J1, r1, q1⟩ => ?_)⟩
  obtain ⟨a, xs, rfl, hx, q⟩ := q1
  cases r1
  have back : PO X (some (.UnaryOp .USub (.Constant (.int 1) k p1) p2)) (tPart (tUn (rU fun i => .int (-i)) (tC (.int 1)))) := po_some (pe_un un_neg pe_int)
  refine wpAny_Slice (thn (po_none.run pins t1 σ H1 (fun o G => o = none ∧ G = H1) J1 ⟨rfl, rfl⟩) fun vl t2 ⟨l, H2, J2, pl, el, e2⟩ => ?_)
  subst el e2
  refine thn (po_none.run pins t2 σ H2 (fun o G => o = none ∧ G = H2) J2 ⟨rfl, rfl⟩) fun vu t3 ⟨u, H3, J3, pu, eu, e3⟩ => ?_
  subst eu e3
  refine thn (back.run pins t3 σ H3 (fun o G => o = some (-1) ∧ G = H3) J3 ⟨1, rfl, -1, rfl, rfl, rfl⟩) fun vs t4 ⟨o, H4, J4, ps, eo, e4⟩ => ?_
  subst eo e4
  have J5 : Inv X pins σ H4 { t4 with heap := t4.heap.push { cls := .type "slice", data := .fields #[vl, vu, vs] } } := J4.kept (t' := t4.toks) fun b ob q => Heap.get?_push_of_some _ q
  obtain ⟨its, r, ht, hz⟩ := J5.tuple hx
  have hlen := r.length
  show wpAny (model X.prog X.w) X.A (subscriptTail e (.Slice none none (some (.UnaryOp .USub (.Constant (.int 1) k p1) p2)) p3) (.ref a) (.ref t4.heap.objs.size)) (EP X pins σ Q) X.xe { t4 with heap := t4.heap.push { cls := .type "slice", data := .fields #[vl, vu, vs] } }
  refine tail_any (ops := [.ref a, .ref t4.heap.objs.size]) ht.typeIs (PyProof.Rows.slot_tuple_getitem.lookup) ?_ (by with_unfolding_all rfl)
  refine getItem_tup_back ht (Heap.IsSliceOf.new _ vl vu vs) pl pu ps ?_ (by rw [List.size_toArray]; omega)
  refine ⟨.ref _, _, J5.laid (t' := t4.toks) (o := .tup xs.reverse) (fun b ob q => Heap.get?_push_of_some _ q) (Nat.le_refl _) ?_, rfl, q _ (J5.hok.fresh (Nat.le_refl _))⟩
  exact ⟨by rw [List.length_reverse]; omega, _, r.reverse, IsTup.new _ _⟩
end
section
variable {ι : Type} {𝒳 : ι → Cx} {G : Gx} {k : Nat}
def revD : D → Option D
  | .tuple ds => some (.tuple ds.reverse)
  | _ => none
@[simp] theorem revD_t (ds : List D) : revD (.tuple ds) = some (.tuple ds.reverse) := rfl
theorem cRev {e : Expr} {m : ME} {kk : Nat} {p1 p2 p3 pos : Pos} (fm : Fm G k 𝒳) (h : CE 𝒳 G e m) : CE 𝒳 G (.Subscript e (.Slice none none (some (.UnaryOp .USub (.Constant (.int 1) kk p1) p2)) p3) pos) (mOp1 revD m) := by
  obtain ⟨t, hp, hi⟩ := h
  refine ⟨tRevT G.K t, fun i => by have z := pe_revT (k := kk) (p1 := p1) (p2 := p2) (p3 := p3) (pos := pos) (hp i); rw [fm.K i] at z; exact z, fun Φ R ρ σ H d ρ' S e Q q => ?_⟩
  obtain ⟨a, ρ1, e1, e⟩ := Re.of_bind e
  obtain ⟨e2, rfl⟩ := Re.of_opt e
  refine hi Φ R ρ σ H a _ S e1 _ fun v R1 H1 S1 x1 q1 => ?_
  unfold revD at e2
  split at e2 <;> cases e2
  obtain ⟨p, ws, rfl, h1, h2⟩ := dq_tuple.mp q1
  refine ⟨p, ws, rfl, .inl (.inl (S1.sub _ _ h1)), fun l nl => ?_⟩
  have x2 : Ext R1 (upd R1 l (.tup ws.reverse)) := ext_upd (S1.sub.none nl)
  have hz : ws.reverse.length ≤ sizeLine := by rw [List.length_reverse]; exact S1.lens _ _ h1
  exact q _ _ _ (S1.laid nl (plain_tup _).1 hz) (x1.trans x2) (dq_tuple.mpr ⟨l, _, rfl, upd_same, (h2.mono x2).reverse⟩)
end
end Pm

namespace Pm
open PySem PySem.Spec PyProof.Rows L2
/-! tuple * int, list * int, whatever the int -/
theorem tmul_same (l : Addr) (items : Array Value) (n : Nat) (dd : Option Addr) (sl : Array (Option Value)) (x : Int) (u : Tok) (c0 : (decide (x < -(2 ^ 63)) || decide (x ≥ 2 ^ 63)) = false) (c1 : (items.isEmpty || x == 1) = true) :
    Meets (Builtin.«tuple.__mul__» ⟨[.ref l, .int x u], []⟩) (fun _ R s => s.heap.get? l = some { cls := .type "tuple", dict := dd, data := .seq items n, slots := sl } ∧ R (.ok (.ret (Value.ref l))) s) :=
  .of_wp fun prog w A R s h => by
    obtain ⟨hp, g, d, tk, os⟩ := s
    obtain ⟨hl, h⟩ := h
    have f1 := AutoSeq1.idx_int
    wp_walk using wpAny_loadPart' hl
    repeat (first
      | (refine wpAny_ite_false (decide_eq_false (by rw [c0]; exact Bool.false_ne_true)) ?_; wp_walk using wpAny_loadPart' hl)
      | (refine wpAny_ite_true (decide_eq_true c1) ?_; wp_walk using wpAny_loadPart' hl))
    exact ⟨_, rfl, h⟩
theorem tmul_none (l : Addr) (items : Array Value) (n : Nat) (dd : Option Addr) (sl : Array (Option Value)) (x : Int) (u : Tok) (c0 : (decide (x < -(2 ^ 63)) || decide (x ≥ 2 ^ 63)) = false) (c1 : (items.isEmpty || x == 1) = false) (c2 : (decide (x ≤ 0) || items.isEmpty) = true) :
    Meets (Builtin.«tuple.__mul__» ⟨[.ref l, .int x u], []⟩) (fun _ R s => s.heap.get? l = some { cls := .type "tuple", dict := dd, data := .seq items n, slots := sl } ∧
      R (.ok (.ret (Value.ref s.heap.objs.size))) { s with heap := s.heap.push { cls := Value.type "tuple", data := Data.seq #[] }, toks := s.toks }) :=
  .of_wp fun prog w A R s h => by
    obtain ⟨hp, g, d, tk, os⟩ := s
    obtain ⟨hl, h⟩ := h
    have f1 := AutoSeq1.idx_int
    wp_walk using wpAny_loadPart' hl
    repeat (first
      | (refine wpAny_ite_false (decide_eq_false (by rw [c0]; exact Bool.false_ne_true)) ?_; wp_walk using wpAny_loadPart' hl)
      | (refine wpAny_ite_false (decide_eq_false (by rw [c1]; exact Bool.false_ne_true)) ?_; wp_walk using wpAny_loadPart' hl)
      | (refine wpAny_ite_true (decide_eq_true c2) ?_; wp_walk using wpAny_loadPart' hl))
    exact ⟨_, rfl, h⟩
/-- what comes of it, the tuple itself or a new one -/
def repV (xs : List V) (k : Int) : List V := (List.replicate k.toNat xs).flatten
def rMulT (K : PySem.W.Frag) : R2 := fun x y H Q => ∃ l k xs, x = .ref l ∧ y = .int k ∧ SqT K H l xs ∧ -1000 ≤ k ∧ k ≤ 1000 ∧ xs.length ≤ 1000 ∧
  ((xs = [] ∨ k = 1) → Q (.ref l) H) ∧ (¬ (xs = [] ∨ k = 1) → ∀ p, H p = none → Q (.ref p) (upd H p (.tup (repV xs k))))
section
variable {X : Cx}
theorem op_mulT : OpR X (binaryOp .Mult) (rMulT X.K) := by
  intro pins s σ H x y v u Q I rx ry h
  by_cases two : ∃ l k xs, x = V.ref l ∧ y = V.int k ∧ SqT X.K H l xs ∧ xs ≠ [] ∧ 2 ≤ k ∧ k ≤ 1000 ∧ xs.length ≤ 1000 ∧ ∀ p, H p = none → Q (.ref p) (upd H p (.tup (List.replicate k.toNat xs).flatten))
  · exact op_repT pins s σ H x y v u Q I rx ry two
  obtain ⟨l, k, xs, rfl, rfl, hT, h1, h2, hz, q1, q2⟩ := h
  cases rx
  obtain ⟨t, rfl⟩ := ry
  obtain ⟨its, r, ⟨⟨cls, dd, data, sl⟩, ho, hc, n, hd⟩, hs⟩ := I.tuple hT
  simp only at hc hd
  subst hc hd
  have hle : its.length = xs.length := r.length.symm
  have emp : its.toArray.isEmpty = decide (xs = []) := by
    cases its with
    | nil => cases xs with
      | nil => rfl
      | cons a b => simp at hle
    | cons a b => cases xs with
      | nil => simp at hle
      | cons a b => rfl
  have c0 : (decide (k < -(2 ^ 63)) || decide (k ≥ 2 ^ 63)) = false := by
    rw [decide_eq_false (by omega), decide_eq_false (by omega)] <;> rfl
  by_cases e : xs = [] ∨ k = 1
  · have c1 : (its.toArray.isEmpty || k == 1) = true := by
      rw [emp]
      rcases e with e | e <;> simp [e]
    refine wpAny_binaryOp_repeat_ref (T := "tuple") (U := "int") (by decide) ⟨_, ho, rfl⟩ (fun s' => typeIs_int s' k t) noFill_tuple_mul F.fills_int_mul F.slot_int_rmul repeat_tuple F.slot_int_index.lookup
      (call_meets F.slot_int_rmul (typeIs_int s k t) F.entry_int_rmul (F.args_int_rmul_2 _ _) (int_rmul_tuple k t l its.toArray n dd sl)
        ⟨ho, rfl, ⟨_, ho, rfl⟩, call_meets F.slot_tuple_mul ⟨_, ho, rfl⟩ F.entry_tuple_mul (F.args_tuple_mul_2 _ _) (tmul_same l its.toArray n dd sl k t c0 c1) ⟨ho, ?_⟩⟩)
    exact ⟨.ref l, H, I, rfl, q1 e⟩
  · have k0 : k ≤ 0 := by
      rcases Int.lt_or_le 0 k with c | c
      · exfalso
        refine two ⟨l, k, xs, rfl, rfl, hT, fun z => e (.inl z), ?_, h2, hz, q2 e⟩
        have : k ≠ 1 := fun z => e (.inr z)
        omega
      · exact c
    have c1 : (its.toArray.isEmpty || k == 1) = false := by
      rw [emp, decide_eq_false fun z => e (.inl z), Bool.false_or]
      exact beq_eq_false_iff_ne.mpr fun z => e (.inr z)
    have c2 : (decide (k ≤ 0) || its.toArray.isEmpty) = true := by rw [decide_eq_true k0]; rfl
    refine wpAny_binaryOp_repeat_ref (T := "tuple") (U := "int") (by decide) ⟨_, ho, rfl⟩ (fun s' => typeIs_int s' k t) noFill_tuple_mul F.fills_int_mul F.slot_int_rmul repeat_tuple F.slot_int_index.lookup
      (call_meets F.slot_int_rmul (typeIs_int s k t) F.entry_int_rmul (F.args_int_rmul_2 _ _) (int_rmul_tuple k t l its.toArray n dd sl)
        ⟨ho, rfl, ⟨_, ho, rfl⟩, call_meets F.slot_tuple_mul ⟨_, ho, rfl⟩ F.entry_tuple_mul (F.args_tuple_mul_2 _ _) (tmul_none l its.toArray n dd sl k t c0 c1 c2) ⟨ho, ?_⟩⟩)
    have er : repV xs k = [] := by
      unfold repV
      have : k.toNat = 0 := by omega
      rw [this]; rfl
    have q3 := q2 e s.heap.objs.size (I.hok.fresh (Nat.le_refl _))
    rw [er] at q3
    exact ⟨.ref s.heap.objs.size, _, I.laid (t' := s.toks) (o := .tup []) (fun b ob q => Heap.get?_push_of_some _ q) (Nat.le_refl _) ⟨Nat.zero_le _, [], .nil, IsTup.new _ _⟩, rfl, q3⟩
end
section
variable {ι : Type} {𝒳 : ι → Cx} {G : Gx} {k : Nat}
def repD (ds : List D) (k : Int) : List D := (List.replicate k.toNat ds).flatten
def mulTD : D → D → Option D
  | .tuple ds, .int k => if -1000 ≤ k ∧ k ≤ 1000 ∧ ds.length ≤ 1000 then some (.tuple (repD ds k)) else none
  | _, _ => none
theorem repD_self {ds : List D} {k : Int} (h : ds = [] ∨ k = 1) : repD ds k = ds := by
  unfold repD
  rcases h with rfl | rfl
  · induction k.toNat with
    | zero => rfl
    | succ n ih => rw [List.replicate_succ, List.flatten_cons, ih]; rfl
  · show (List.replicate 1 ds).flatten = ds
    simp
theorem repV_len (xs : List V) (k : Int) (h1 : k ≤ 1000) (h2 : xs.length ≤ 1000) : (repV xs k).length ≤ sizeLine := by
  unfold repV
  rw [PyProof.Rows.lm_len_rep_flat, sizeLine_eq]
  have : k.toNat * xs.length ≤ 1000 * 1000 := Nat.mul_le_mul (by omega) h2
  omega
theorem cMulT {a b : Expr} {ma mb : ME} {pos : Pos} (fm : Fm G k 𝒳) (ha : CE 𝒳 G a ma) (hb : CE 𝒳 G b mb) : CE 𝒳 G (.BinOp a .Mult b pos) (mOp2 mulTD ma mb) :=
  cBin (r := rMulT G.K) (fun i => fm.op (p := rMulT) i op_mulT) (fun Φ R H ρ σ a b d x y S e qa qb Q q => by
    unfold mulTD at e
    split at e
    · rename_i ds j
      split at e <;> cases e
      rename_i hb
      obtain ⟨p, ws, rfl, h1, h2⟩ := dq_tuple.mp qa
      have hw : ws.length ≤ 1000 := by rw [← h2.length]; exact hb.2.2
      refine ⟨p, j, ws, rfl, dq_int.mp qb, .inl (.inl (S.sub _ _ h1)), hb.1, hb.2.1, hw, fun c => ?_, fun c l nl => ?_⟩
      · have c' : ds = [] ∨ j = 1 := c.imp (fun z => List.eq_nil_of_length_eq_zero (by rw [h2.length, z]; rfl)) id
        rw [repD_self c'] at q
        exact q _ R H S (Ext.refl R) (dq_tuple.mpr ⟨p, ws, rfl, h1, h2⟩)
      · have x2 : Ext R (upd R l (.tup (repV ws j))) := ext_upd (S.sub.none nl)
        exact q _ _ _ (S.laid nl (plain_tup _).1 (repV_len ws j hb.2.1 hw)) x2 (dq_tuple.mpr ⟨l, _, rfl, upd_same, (h2.mono x2).rep j.toNat⟩)
    · cases e) ha hb
/-- a list times an int, a new list of our own -/
def mulLO : D → D → Option Ow
  | .list ds, .int k => if -1000 ≤ k ∧ k ≤ 1000 ∧ ds.length ≤ 1000 then some (.l (repD ds k)) else none
  | _, _ => none
def mOp2O (f : D → D → Option Ow) (ma mb : ME) : MO := fun ρ => (ma ρ).bind fun a ρ1 => (mb ρ1).bind fun b ρ2 => Re.opt (f a b) ρ2
theorem oMulL {a b : Expr} {ma mb : ME} {pos : Pos} (fm : Fm G k 𝒳) (ha : CE 𝒳 G a ma) (hb : CE 𝒳 G b mb) : CO 𝒳 G (.BinOp a .Mult b pos) (mOp2O mulLO ma mb) := by
  obtain ⟨ta, pa, ia⟩ := ha
  obtain ⟨tb, pb, ib⟩ := hb
  refine ⟨tOp rRep ta tb, fun i => pe_op op_rep (pa i) (pb i), fun Φ R ρ σ H d ρ' S e Q q => ?_⟩
  obtain ⟨a, ρ1, e1, e⟩ := Re.of_bind e
  obtain ⟨b, ρ2, e2, e⟩ := Re.of_bind e
  obtain ⟨e3, rfl⟩ := Re.of_opt e
  refine ia Φ R ρ σ H a ρ1 S e1 _ fun x R1 H1 S1 x1 q1 => ?_
  refine ib Φ R1 ρ1 σ H1 b _ S1 e2 _ fun y R2 H2 S2 x2 q2 => ?_
  replace q1 := q1.mono x2
  unfold mulLO at e3
  split at e3
  · obtain ⟨hc, e4⟩ := Option.ite_none_right_eq_some.mp e3
    cases e4
    obtain ⟨p, ws, rfl, h1, h2⟩ := dq_list.mp q1
    have hw : ws.length ≤ 1000 := by rw [← h2.length]; exact hc.2.2
    have hz : (repV ws _).length ≤ sizeLine := repV_len ws _ hc.2.1 hw
    refine ⟨p, _, ws, rfl, dq_int.mp q2, S2.sub _ _ h1, by omega, by omega, ?_, fun l nl => ?_⟩
    · unfold repV at hz
      rw [PyProof.Rows.lm_len_rep_flat, Nat.mul_comm] at hz
      exact hz
    · exact q l R2 _ (S2.made nl) (x1.trans x2) (S2.mine nl) ⟨_, upd_same, h2.rep _, hz⟩
  · cases e3
end
end Pm

namespace Pm
open PySem PySem.Spec PyProof.Rows L2
/-! a, b = .. , some of them lists of our own -/
abbrev MM := PE0 → Re (List Sl)
def MixOk (G : Gx) (Φ : Fx) (R H : Hp) (ρ : PE0) (σ : L2.St) : List Sl → List V → Prop
  | [], vs => vs = []
  | .v d :: r, vs => ∃ x xs, vs = x :: xs ∧ Dq G.K R d x ∧ MixOk G Φ R H ρ σ r xs
  | .own w :: r, vs => ∃ p xs, vs = .ref p :: xs ∧ Mine Φ R ρ σ p ∧ OwnAt G.K R H p w ∧ V.ref p ∉ xs ∧ MixOk G Φ R H ρ σ r xs
  | _ :: _, _ => False
def IM (G : Gx) (Φ : Fx) (t : TA) (m : MM) : Prop := ∀ (R : Hp) (ρ : PE0) (σ : L2.St) (H : Hp) (rs : List Sl) (ρ' : PE0), SR G Φ R ρ σ H → m ρ = .ok rs ρ' →
  ∀ Q : List V → Hp → Prop, (∀ (vs : List V) (R' H' : Hp), SR G Φ R' ρ' σ H' → Ext R R' → MixOk G Φ R' H' ρ' σ rs vs → Q vs H') → t σ H Q
theorem dq_ref {K : PySem.W.Frag} {R : Hp} {d : D} {p : Addr} (h : Dq K R d (.ref p)) : R p ≠ none := by
  cases d with
  | none => cases dq_none.mp h
  | bool b => cases dq_bool.mp h
  | int i => cases dq_int.mp h
  | str x => cases dq_str.mp h
  | list ds => obtain ⟨a, xs, e, h1, _⟩ := dq_list.mp h; cases e; rw [h1]; simp
  | tuple ds => obtain ⟨a, xs, e, h1, _⟩ := dq_tuple.mp h; cases e; rw [h1]; simp
  | dict ds =>
    obtain ⟨a, xs, e, h1, _⟩ := dq_dict.mp h
    cases e
    rcases h1 with ⟨ks, _, h1, _⟩ | ⟨ks, _, h1, _⟩ <;> rw [h1] <;> simp
section
variable {ι : Type} {𝒳 : ι → Cx} {G : Gx} {k : Nat} {W : WX}
def CM (𝒳 : ι → Cx) (G : Gx) (es : List Expr) (m : MM) : Prop := ∃ t, (∀ i, PA (𝒳 i) es t) ∧ ∀ Φ, IM G Φ t m
def xNilM : MM := fun ρ => .ok [] ρ
def xVM (m : ME) (r : MM) : MM := fun ρ => (m ρ).bind fun d ρ1 => (r ρ1).bind fun rs ρ2 => .ok (.v d :: rs) ρ2
def xOM (m : MO) (r : MM) : MM := fun ρ => (m ρ).bind fun w ρ1 => (r ρ1).bind fun rs ρ2 => .ok (.own w :: rs) ρ2
@[simp] theorem xNilM_eq (ρ : PE0) : xNilM ρ = .ok [] ρ := rfl
@[simp] theorem xVM_eq (m : ME) (r : MM) (ρ : PE0) : xVM m r ρ = (m ρ).bind fun d ρ1 => (r ρ1).bind fun rs ρ2 => .ok (.v d :: rs) ρ2 := rfl
@[simp] theorem xOM_eq (m : MO) (r : MM) (ρ : PE0) : xOM m r ρ = (m ρ).bind fun w ρ1 => (r ρ1).bind fun rs ρ2 => .ok (.own w :: rs) ρ2 := rfl
theorem xNil : CM 𝒳 G [] xNilM := ⟨tNil, fun _ => pa_nil, fun Φ R ρ σ H d ρ' S e Q q => by cases e; exact q _ R H S (Ext.refl R) rfl⟩
theorem xV {e : Expr} {es : List Expr} {m : ME} {r : MM} (h : CE 𝒳 G e m) (hr : CM 𝒳 G es r) (hs : ∀ j, starEach (e :: es) (𝒳 j).env = (false, eval e (𝒳 j).env) :: starEach es (𝒳 j).env := by intro _; rfl) : CM 𝒳 G (e :: es) (xVM m r) := by
  obtain ⟨t, hp, hi⟩ := h
  obtain ⟨u, hpr, hir⟩ := hr
  refine ⟨tCons t u, fun j => pa_cons (hp j) (hpr j) (hs j), fun Φ R ρ σ H ds ρ' S e Q q => ?_⟩
  obtain ⟨d, ρ1, e1, e⟩ := Re.of_bind e
  obtain ⟨ds', ρ2, e2, e⟩ := Re.of_bind e
  cases e
  refine hi Φ R ρ σ H d ρ1 S e1 _ fun v R1 H1 S1 x1 q1 => ?_
  refine hir Φ R1 ρ1 σ H1 ds' _ S1 e2 _ fun vs R2 H2 S2 x2 q2 => ?_
  exact q _ R2 H2 S2 (x1.trans x2) ⟨_, _, rfl, q1.mono x2, q2⟩
theorem mix_unput {Φ : Fx} {R H : Hp} {ρ : PE0} {σ : L2.St} {p : Addr} {o : HO} (nr : R p = none) : ∀ {rs : List Sl} {vs : List V}, MixOk G (Φ.put p o) R H ρ σ rs vs → MixOk G Φ R H ρ σ rs vs ∧ V.ref p ∉ vs
  | [], vs, h => by
    have h : vs = [] := h
    subst h
    exact ⟨rfl, by simp⟩
  | .v d :: r, vs, h => by
    obtain ⟨x, xs, rfl, q, h⟩ := h
    obtain ⟨i1, i2⟩ := mix_unput nr h
    refine ⟨⟨x, xs, rfl, q, i1⟩, fun z => ?_⟩
    rcases List.mem_cons.mp z with z | z
    · rw [← z] at q; exact dq_ref q nr
    · exact i2 z
  | .own w :: r, vs, h => by
    obtain ⟨a, xs, rfl, M, ow, ni, h⟩ := h
    obtain ⟨i1, i2⟩ := mix_unput nr h
    have nh : upd Φ.H0 p o a = none := M.nh
    have ne : a ≠ p := fun z => by rw [z, upd_same] at nh; cases nh
    rw [upd_ne ne] at nh
    refine ⟨⟨a, xs, rfl, ⟨M.nr, nh, M.ns⟩, ow, ni, i1⟩, fun z => ?_⟩
    rcases List.mem_cons.mp z with z | z
    · cases z; exact ne rfl
    · exact i2 z
  | .un :: _, _, h => h.elim
  | .dice _ :: _, _, h => h.elim
  | .raw _ :: _, _, h => h.elim
  | .scr _ :: _, _, h => h.elim
  | .fn _ :: _, _, h => h.elim
theorem xO {e : Expr} {es : List Expr} {m : MO} {r : MM} (h : CO 𝒳 G e m) (hr : CM 𝒳 G es r) (hs : ∀ j, starEach (e :: es) (𝒳 j).env = (false, eval e (𝒳 j).env) :: starEach es (𝒳 j).env := by intro _; rfl) : CM 𝒳 G (e :: es) (xOM m r) := by
  obtain ⟨t, hp, hi⟩ := h
  obtain ⟨u, hpr, hir⟩ := hr
  refine ⟨tCons t u, fun j => pa_cons (hp j) (hpr j) (hs j), fun Φ R ρ σ H ds ρ' S e Q q => ?_⟩
  obtain ⟨w, ρ1, e1, e⟩ := Re.of_bind e
  obtain ⟨ds', ρ2, e2, e⟩ := Re.of_bind e
  cases e
  refine hi Φ R ρ σ H w ρ1 S e1 _ fun p R1 H1 S1 x1 M1 o1 => ?_
  obtain ⟨o, ho, hn⟩ := o1.there
  refine hir (Φ.put p o) R1 ρ1 σ H1 ds' _ (S1.guard M1 ho hn) e2 _ fun vs R2 H2 S2 x2 q2 => ?_
  obtain ⟨S3, M3, h3⟩ := S2.unguard' S1 M1 hn (fun xs z => o1.nt xs (by rw [ho, z]))
  obtain ⟨q3, n3⟩ := mix_unput M3.nr q2
  exact q _ R2 H2 S3 (x1.trans x2) ⟨p, vs, rfl, M3, o1.mono x2 (by rw [h3, ho]), n3, q3⟩
/-- one is stored -/
theorem SR.put1 {Φ : Fx} {R H : Hp} {ρ : PE0} {σ : L2.St} {i : Nat} {s : Sl} {rs : List Sl} {vs : List V} (S : SR G Φ R ρ σ H) (hi : i < ρ.length) (h : MixOk G Φ R H ρ σ (s :: rs) vs) :
    ∃ x xs, vs = x :: xs ∧ SR G Φ R (ρ.set i s) (σ.set i (some x)) H ∧ MixOk G Φ R H (ρ.set i s) (σ.set i (some x)) rs xs := by
  have li : i < σ.length := by rw [S.len]; exact hi
  have key : ∀ (x : V) (n : ∀ w, s = .own w → ∃ p, x = .ref p) (rs : List Sl) (xs : List V), (∀ w p, s = .own w → x = .ref p → V.ref p ∉ xs) → MixOk G Φ R H ρ σ rs xs → MixOk G Φ R H (ρ.set i s) (σ.set i (some x)) rs xs := by
    intro x n rs
    induction rs with
    | nil => intro xs _ h; exact h
    | cons r rs ih =>
      intro xs hx h
      cases r with
      | v d =>
        obtain ⟨y, ys, rfl, q, h⟩ := h
        exact ⟨y, ys, rfl, q, ih ys (fun w p e1 e2 z => hx w p e1 e2 (List.mem_cons_of_mem _ z)) h⟩
      | own w =>
        obtain ⟨a, ys, rfl, M, ow, ni, h⟩ := h
        refine ⟨a, ys, rfl, ⟨M.nr, M.nh, fun j w' hj => ?_⟩, ow, ni, ih ys (fun w p e1 e2 z => hx w p e1 e2 (List.mem_cons_of_mem _ z)) h⟩
        by_cases e : i = j
        · subst e
          rw [List.getElem?_set_self hi] at hj
          obtain ⟨p, ep⟩ := n w' (Option.some.inj hj)
          rw [List.getElem?_set_self li]
          intro z
          have z := Option.some.inj (Option.some.inj z)
          exact hx w' a (Option.some.inj hj) z List.mem_cons_self
        · rw [List.getElem?_set_ne e] at hj ⊢
          exact M.ns j w' hj
      | un => exact h.elim
      | dice _ => exact h.elim
      | raw _ => exact h.elim
      | scr _ => exact h.elim
      | fn _ => exact h.elim
  cases s with
  | v d =>
    obtain ⟨x, xs, rfl, q, h⟩ := h
    exact ⟨x, xs, rfl, S.store hi q, key x (fun _ e => by cases e) rs xs (fun _ _ e => by cases e) h⟩
  | own w =>
    obtain ⟨p, xs, rfl, M, ow, ni, h⟩ := h
    exact ⟨.ref p, xs, rfl, S.storeOwn hi M ow, key _ (fun _ _ => ⟨p, rfl⟩) rs xs (fun _ q _ e => by cases e; exact ni) h⟩
  | un => exact h.elim
  | dice _ => exact h.elim
  | raw _ => exact h.elim
  | scr _ => exact h.elim
  | fn _ => exact h.elim
def mMix2 (i j : Nat) (m : MM) : MS := fun ρ => Fl.of (m ρ) fun rs ρ1 => match rs with
  | [a, b] => if i < ρ1.length ∧ j < ρ1.length then .nx ((ρ1.set i a).set j b) else .bad
  | _ => .bad
def mMix3 (i j l : Nat) (m : MM) : MS := fun ρ => Fl.of (m ρ) fun rs ρ1 => match rs with
  | [a, b, c] => if i < ρ1.length ∧ j < ρ1.length ∧ l < ρ1.length then .nx (((ρ1.set i a).set j b).set l c) else .bad
  | _ => .bad
@[simp] theorem mMix2_eq (i j : Nat) (m : MM) (ρ : PE0) : mMix2 i j m ρ = Fl.of (m ρ) fun rs ρ1 => match rs with | [a, b] => if i < ρ1.length ∧ j < ρ1.length then .nx ((ρ1.set i a).set j b) else .bad | _ => .bad := rfl
@[simp] theorem mMix3_eq (i j l : Nat) (m : MM) (ρ : PE0) : mMix3 i j l m ρ = Fl.of (m ρ) fun rs ρ1 => match rs with | [a, b, c] => if i < ρ1.length ∧ j < ρ1.length ∧ l < ρ1.length then .nx (((ρ1.set i a).set j b).set l c) else .bad | _ => .bad := rfl
theorem mix2 {Φ : Fx} {R H : Hp} {ρ : PE0} {σ : L2.St} {i j : Nat} {a b : Sl} {vs : List V} (S : SR G Φ R ρ σ H) (hl : i < ρ.length ∧ j < ρ.length) (h : MixOk G Φ R H ρ σ [a, b] vs) :
    ∃ u w, vs = [u, w] ∧ SR G Φ R ((ρ.set i a).set j b) ((σ.set i (some u)).set j (some w)) H := by
  obtain ⟨u, xs, rfl, S1, h1⟩ := S.put1 hl.1 h
  obtain ⟨w, ys, rfl, S2, h2⟩ := S1.put1 (i := j) (by rw [List.length_set]; exact hl.2) h1
  have h2 : ys = [] := h2
  subst h2
  exact ⟨u, w, rfl, S2⟩
theorem mix3 {Φ : Fx} {R H : Hp} {ρ : PE0} {σ : L2.St} {i j l : Nat} {a b c : Sl} {vs : List V} (S : SR G Φ R ρ σ H) (hl : i < ρ.length ∧ j < ρ.length ∧ l < ρ.length) (h : MixOk G Φ R H ρ σ [a, b, c] vs) :
    ∃ u w v, vs = [u, w, v] ∧ SR G Φ R (((ρ.set i a).set j b).set l c) (((σ.set i (some u)).set j (some w)).set l (some v)) H := by
  obtain ⟨u, xs, rfl, S1, h1⟩ := S.put1 hl.1 h
  obtain ⟨w, ys, rfl, S2, h2⟩ := S1.put1 (i := j) (by rw [List.length_set]; exact hl.2.1) h1
  obtain ⟨v, zs, rfl, S3, h3⟩ := S2.put1 (i := l) (by rw [List.length_set, List.length_set]; exact hl.2.2) h2
  have h3 : zs = [] := h3
  subst h3
  exact ⟨u, w, v, rfl, S3⟩
theorem MixOk.made {Φ : Fx} {R H : Hp} {ρ : PE0} {σ : L2.St} {t : Addr} {x : HO} (hp : H t = none) : ∀ {rs : List Sl} {vs : List V}, MixOk G Φ R H ρ σ rs vs → MixOk G Φ R (upd H t x) ρ σ rs vs
  | [], _, h => h
  | .v d :: r, _, h => by
    obtain ⟨y, ys, rfl, q, h⟩ := h
    exact ⟨y, ys, rfl, q, h.made hp⟩
  | .own w :: r, _, h => by
    obtain ⟨a, ys, rfl, M, ow, ni, h⟩ := h
    exact ⟨a, ys, rfl, M, ow.made hp, ni, h.made hp⟩
  | .un :: _, _, h => h.elim
  | .dice _ :: _, _, h => h.elim
  | .raw _ :: _, _, h => h.elim
  | .scr _ :: _, _, h => h.elim
  | .fn _ :: _, _, h => h.elim
theorem sMix2 (i j : Nat) {x y : Str} {a b : Expr} {m : MM} {px py pt pos : Pos} {kt k2 pt2} (fm : Fm G k 𝒳) (h : CM 𝒳 G [a, b] m) (hi : ∀ q, (𝒳 q).N[i]? = some x := by intro _; rfl) (hj : ∀ q, (𝒳 q).N[j]? = some y := by intro _; rfl) (hij : i ≠ j := by decide)
    (hx : ∀ q, (𝒳 q).env.scope.names.lookup x = some .local := by intro _; rfl) (hy : ∀ q, (𝒳 q).env.scope.names.lookup y = some .local := by intro _; rfl)
    (hw : ∀ q, swappedStores [.Tuple [.Name x px, .Name y py] kt pt] (.Tuple [a, b] k2 pt2) (𝒳 q).env = pure (some [x, y]) := by intro _; rfl)
    (hs : ∀ q, swapsWithSole [.Tuple [.Name x px, .Name y py] kt pt] (.Tuple [a, b] k2 pt2) pos.line (𝒳 q).env = pure false := by intro _; rfl) : CS 𝒳 G W (.Assign [.Tuple [.Name x px, .Name y py] kt pt] (.Tuple [a, b] k2 pt2) pos) (mMix2 i j m) := by
  obtain ⟨t, hp, hI⟩ := h
  refine ⟨_, fun q => ps_par (fm.calm q) (fm.nod q) (hi q) (hj q) hij (hx q) (hy q) (hp q) (hw q) (hs q), fun Φ R ρ σ H S D h => ?_⟩
  obtain ⟨ds, ρ1, e1, h⟩ := EndOk.of h
  split at h
  · obtain ⟨hl, h⟩ := EndOk.ite h
    refine hI Φ R ρ σ H _ ρ1 S e1 _ fun vs R' H' S' x q => ?_
    obtain ⟨u, w, rfl, S2⟩ := mix2 S' hl q
    exact ⟨u, w, rfl, h _ R' H' S2 x⟩
  · exact False.elim h
theorem sMix3 (i j l : Nat) {x y z : Str} {a b c : Expr} {m : MM} {px py pz pt pos : Pos} {kt k2 pt2} (fm : Fm G k 𝒳) (h : CM 𝒳 G [a, b, c] m) (hi : ∀ q, (𝒳 q).N[i]? = some x := by intro _; rfl) (hj : ∀ q, (𝒳 q).N[j]? = some y := by intro _; rfl) (hl : ∀ q, (𝒳 q).N[l]? = some z := by intro _; rfl) (hij : i ≠ j := by decide) (hil : i ≠ l := by decide) (hjl : j ≠ l := by decide)
    (hx : ∀ q, (𝒳 q).env.scope.names.lookup x = some .local := by intro _; rfl) (hy : ∀ q, (𝒳 q).env.scope.names.lookup y = some .local := by intro _; rfl) (hz : ∀ q, (𝒳 q).env.scope.names.lookup z = some .local := by intro _; rfl)
    (hw : ∀ q, swappedStores [.Tuple [.Name x px, .Name y py, .Name z pz] kt pt] (.Tuple [a, b, c] k2 pt2) (𝒳 q).env = pure (some [x, y, z]) := by intro _; rfl)
    (hs : ∀ q, swapsWithSole [.Tuple [.Name x px, .Name y py, .Name z pz] kt pt] (.Tuple [a, b, c] k2 pt2) pos.line (𝒳 q).env = pure false := by intro _; rfl) : CS 𝒳 G W (.Assign [.Tuple [.Name x px, .Name y py, .Name z pz] kt pt] (.Tuple [a, b, c] k2 pt2) pos) (mMix3 i j l m) := by
  obtain ⟨t, hp, hI⟩ := h
  refine ⟨_, fun q => ps_par3 (fm.calm q) (fm.nod q) (hi q) (hj q) (hl q) hij hil hjl (hx q) (hy q) (hz q) (hp q) (hw q) (hs q), fun Φ R ρ σ H S D h => ?_⟩
  obtain ⟨ds, ρ1, e1, h⟩ := EndOk.of h
  split at h
  · obtain ⟨hl, h⟩ := EndOk.ite h
    refine hI Φ R ρ σ H _ ρ1 S e1 _ fun vs R' H' S' x q => ?_
    obtain ⟨u, w, v, rfl, S2⟩ := mix3 S' hl q
    exact ⟨u, w, v, rfl, h _ R' H' S2 x⟩
  · exact False.elim h
/-! names that a block captures: by way of a new tuple -/
theorem sMixT2 (i j : Nat) {x y : Str} {a b : Expr} {m : MM} {px py pt pos : Pos} {kt k2 pt2} (fm : Fm G k 𝒳) (h : CM 𝒳 G [a, b] m) (hi : ∀ q, (𝒳 q).N[i]? = some x := by intro _; rfl) (hj : ∀ q, (𝒳 q).N[j]? = some y := by intro _; rfl)
    (hx : ∀ j, Loc (𝒳 j).env.scope x := by first | exact fun _ => Or.inl rfl | exact fun _ => Or.inr rfl)
    (hf : ∀ j, (𝒳 j).fn x = true ∨ (𝒳 j).env.scope.names.lookup x = some .local := by first | exact fun _ => .inl rfl | exact fun _ => .inr rfl)
    (hy : ∀ j, Loc (𝒳 j).env.scope y := by first | exact fun _ => Or.inl rfl | exact fun _ => Or.inr rfl)
    (hg : ∀ j, (𝒳 j).fn y = true ∨ (𝒳 j).env.scope.names.lookup y = some .local := by first | exact fun _ => .inl rfl | exact fun _ => .inr rfl)
    (hw : ∀ q, swappedStores [.Tuple [.Name x px, .Name y py] kt pt] (.Tuple [a, b] k2 pt2) (𝒳 q).env = pure none := by intro _; rfl)
    (hs : ∀ q, swapsWithSole [.Tuple [.Name x px, .Name y py] kt pt] (.Tuple [a, b] k2 pt2) pos.line (𝒳 q).env = pure false := by intro _; rfl)
    (z1 : ∀ j, (assignEach [.Tuple [.Name x px, .Name y py] kt pt] (𝒳 j).env).map (·.2) = [assign (.Tuple [.Name x px, .Name y py] kt pt) (𝒳 j).env] := by intro _; rfl)
    (z2 : ∀ j, (assignEach [.Name x px, .Name y py] (𝒳 j).env).map (·.2) = assign (.Name x px) (𝒳 j).env :: (assignEach [.Name y py] (𝒳 j).env).map (·.2) := by intro _; rfl)
    (z3 : ∀ j, (assignEach [.Name y py] (𝒳 j).env).map (·.2) = assign (.Name y py) (𝒳 j).env :: (assignEach [] (𝒳 j).env).map (·.2) := by intro _; rfl)
    (hn : ∀ j, (assignEach [.Name x px, .Name y py] (𝒳 j).env).length = 2 := by intro _; rfl) (hst : ∀ j, (assignEach [.Name x px, .Name y py] (𝒳 j).env).findIdx? (·.1) = none := by intro _; rfl) :
    CS 𝒳 G W (.Assign [.Tuple [.Name x px, .Name y py] kt pt] (.Tuple [a, b] k2 pt2) pos) (mMix2 i j m) := by
  obtain ⟨t, hp, hI⟩ := h
  refine ⟨tAsg (tTup t) (gTup G.K 2 (gCons (gName i) (gCons (gName j) gNil))), fun q => ps_asg (pe_tup (hp q))
    (Eq.mp (congrArg (fun K => PG (𝒳 q) (.Tuple [.Name x px, .Name y py] kt pt) (gTup K 2 (gCons (gName i) (gCons (gName j) gNil)))) (fm.K q)) (pg_tup (fm.calm q) (pgs_cons (pg_name (fm.nod q) (hi q) (hx q) (hf q)) (pgs_cons (pg_name (fm.nod q) (hj q) (hy q) (hg q)) pgs_nil (z3 q)) (z2 q)) (hn q) (hst q))) (hs q) (hw q) (z1 q), fun Φ R ρ σ H S D h => ?_⟩
  obtain ⟨ds, ρ1, e1, h⟩ := EndOk.of h
  split at h
  · obtain ⟨hl, h⟩ := EndOk.ite h
    refine hI Φ R ρ σ H _ ρ1 S e1 _ fun vs R' H' S' x q => ?_
    obtain ⟨u, w, rfl, _⟩ := mix2 S' hl q
    refine ⟨show 2 ≤ sizeLine by decide, fun t nt => ?_⟩
    obtain ⟨u', w', e, S2⟩ := mix2 (S'.made nt) hl (q.made nt)
    cases e
    exact ⟨t, [u, w], rfl, .inl (.inl upd_same), rfl, u, [w], rfl, w, [], rfl, rfl, h _ R' _ S2 x⟩
  · exact False.elim h
theorem sMixT3 (i j l : Nat) {x y z : Str} {a b c : Expr} {m : MM} {px py pz pt pos : Pos} {kt k2 pt2} (fm : Fm G k 𝒳) (h : CM 𝒳 G [a, b, c] m) (hi : ∀ q, (𝒳 q).N[i]? = some x := by intro _; rfl) (hj : ∀ q, (𝒳 q).N[j]? = some y := by intro _; rfl) (hl : ∀ q, (𝒳 q).N[l]? = some z := by intro _; rfl)
    (hx : ∀ j, Loc (𝒳 j).env.scope x := by first | exact fun _ => Or.inl rfl | exact fun _ => Or.inr rfl)
    (hf : ∀ j, (𝒳 j).fn x = true ∨ (𝒳 j).env.scope.names.lookup x = some .local := by first | exact fun _ => .inl rfl | exact fun _ => .inr rfl)
    (hy : ∀ j, Loc (𝒳 j).env.scope y := by first | exact fun _ => Or.inl rfl | exact fun _ => Or.inr rfl)
    (hg : ∀ j, (𝒳 j).fn y = true ∨ (𝒳 j).env.scope.names.lookup y = some .local := by first | exact fun _ => .inl rfl | exact fun _ => .inr rfl)
    (hz : ∀ j, Loc (𝒳 j).env.scope z := by first | exact fun _ => Or.inl rfl | exact fun _ => Or.inr rfl)
    (he : ∀ j, (𝒳 j).fn z = true ∨ (𝒳 j).env.scope.names.lookup z = some .local := by first | exact fun _ => .inl rfl | exact fun _ => .inr rfl)
    (hw : ∀ q, swappedStores [.Tuple [.Name x px, .Name y py, .Name z pz] kt pt] (.Tuple [a, b, c] k2 pt2) (𝒳 q).env = pure none := by intro _; rfl)
    (hs : ∀ q, swapsWithSole [.Tuple [.Name x px, .Name y py, .Name z pz] kt pt] (.Tuple [a, b, c] k2 pt2) pos.line (𝒳 q).env = pure false := by intro _; rfl)
    (z1 : ∀ j, (assignEach [.Tuple [.Name x px, .Name y py, .Name z pz] kt pt] (𝒳 j).env).map (·.2) = [assign (.Tuple [.Name x px, .Name y py, .Name z pz] kt pt) (𝒳 j).env] := by intro _; rfl)
    (z2 : ∀ j, (assignEach [.Name x px, .Name y py, .Name z pz] (𝒳 j).env).map (·.2) = assign (.Name x px) (𝒳 j).env :: (assignEach [.Name y py, .Name z pz] (𝒳 j).env).map (·.2) := by intro _; rfl)
    (z3 : ∀ j, (assignEach [.Name y py, .Name z pz] (𝒳 j).env).map (·.2) = assign (.Name y py) (𝒳 j).env :: (assignEach [.Name z pz] (𝒳 j).env).map (·.2) := by intro _; rfl)
    (z4 : ∀ j, (assignEach [.Name z pz] (𝒳 j).env).map (·.2) = assign (.Name z pz) (𝒳 j).env :: (assignEach [] (𝒳 j).env).map (·.2) := by intro _; rfl)
    (hn : ∀ j, (assignEach [.Name x px, .Name y py, .Name z pz] (𝒳 j).env).length = 3 := by intro _; rfl) (hst : ∀ j, (assignEach [.Name x px, .Name y py, .Name z pz] (𝒳 j).env).findIdx? (·.1) = none := by intro _; rfl) :
    CS 𝒳 G W (.Assign [.Tuple [.Name x px, .Name y py, .Name z pz] kt pt] (.Tuple [a, b, c] k2 pt2) pos) (mMix3 i j l m) := by
  obtain ⟨t, hp, hI⟩ := h
  refine ⟨tAsg (tTup t) (gTup G.K 3 (gCons (gName i) (gCons (gName j) (gCons (gName l) gNil)))), fun q => ps_asg (pe_tup (hp q))
    (Eq.mp (congrArg (fun K => PG (𝒳 q) (.Tuple [.Name x px, .Name y py, .Name z pz] kt pt) (gTup K 3 (gCons (gName i) (gCons (gName j) (gCons (gName l) gNil))))) (fm.K q)) (pg_tup (fm.calm q) (pgs_cons (pg_name (fm.nod q) (hi q) (hx q) (hf q)) (pgs_cons (pg_name (fm.nod q) (hj q) (hy q) (hg q)) (pgs_cons (pg_name (fm.nod q) (hl q) (hz q) (he q)) pgs_nil (z4 q)) (z3 q)) (z2 q)) (hn q) (hst q))) (hs q) (hw q) (z1 q), fun Φ R ρ σ H S D h => ?_⟩
  obtain ⟨ds, ρ1, e1, h⟩ := EndOk.of h
  split at h
  · obtain ⟨hl, h⟩ := EndOk.ite h
    refine hI Φ R ρ σ H _ ρ1 S e1 _ fun vs R' H' S' x q => ?_
    obtain ⟨u, w, v, rfl, _⟩ := mix3 S' hl q
    refine ⟨show 3 ≤ sizeLine by decide, fun t nt => ?_⟩
    obtain ⟨u', w', v', e, S2⟩ := mix3 (S'.made nt) hl (q.made nt)
    cases e
    exact ⟨t, [u, w, v], rfl, .inl (.inl upd_same), rfl, u, [w, v], rfl, w, [v], rfl, v, [], rfl, rfl, h _ R' _ S2 x⟩
  · exact False.elim h
end
end Pm

namespace Pm
open PySem PySem.Spec PyProof.Rows L2
/-! a list of our own, read and changed without being shared -/
def listAt (i : Nat) (ρ : PE0) : Option (List D) := match ρ[i]? with
  | some (.own (.l c)) => some c
  | some (.v (.list c)) => some c
  | _ => none
def ownAt (i : Nat) (ρ : PE0) : Option (List D) := match ρ[i]? with
  | some (.own (.l c)) => some c
  | _ => none
section
variable (i : Nat) (c : List D) (ρ : PE0)
@[simp] theorem listAt_eq : listAt i ρ = (match ρ[i]? with | some (.own (.l c)) => some c | some (.v (.list c)) => some c | _ => none) := rfl
@[simp] theorem ownAt_eq : ownAt i ρ = (match ρ[i]? with | some (.own (.l c)) => some c | _ => none) := rfl
end
section
variable {ι : Type} {𝒳 : ι → Cx} {G : Gx} {k : Nat} {W : WX} {Φ : Fx} {R H : Hp} {ρ : PE0} {σ : L2.St} {i : Nat} {c : List D}
theorem ownAt_s (h : ownAt i ρ = some c) : ρ[i]? = some (.own (.l c)) := by
  unfold ownAt at h
  split at h
  · rename_i e; cases h; exact e
  · cases h
theorem SR.listAt (S : SR G Φ R ρ σ H) (h : listAt i ρ = some c) : ∃ a xs, σ[i]? = some (some (.ref a)) ∧ H a = some (.lst xs) ∧ DqA G.K R c xs ∧ xs.length ≤ sizeLine := by
  unfold Pm.listAt at h
  split at h
  · rename_i e
    cases h
    obtain ⟨a, e1, _, _, xs, e2, e3, e4⟩ := S.sl i _ e
    exact ⟨a, xs, e1, e2, e3, e4⟩
  · rename_i e
    cases h
    obtain ⟨x, e1, e2⟩ := S.sl i _ e
    obtain ⟨a, xs, rfl, h1, h2⟩ := dq_list.mp e2
    exact ⟨a, xs, e1, S.sub _ _ h1, h2, S.lens _ _ h1⟩
  · cases h
/-- the slot is there, as it was -/
theorem SR.listStay {R1 H1 : Hp} {ρ1 : PE0} {c1 : List D} (S : SR G Φ R ρ σ H) (S1 : SR G Φ R1 ρ1 σ H1) (h : Pm.listAt i ρ = some c) (h1 : Pm.listAt i ρ1 = some c1) : ∃ a xs, σ[i]? = some (some (.ref a)) ∧ H1 a = some (.lst xs) ∧ DqA G.K R1 c1 xs ∧ xs.length ≤ sizeLine := S1.listAt h1
/-! ### x[e] -/
def mOix (i : Nat) (m : ME) : ME := fun ρ => match listAt i ρ with
  | some _ => (m ρ).bind fun d ρ1 => match listAt i ρ1 with
    | some c => Re.opt (ixD (.list c) d) ρ1
    | none => .bad
  | none => .bad
@[simp] theorem mOix_eq (i : Nat) (m : ME) (ρ : PE0) : mOix i m ρ = (match listAt i ρ with | some _ => (m ρ).bind fun d ρ1 => (match listAt i ρ1 with | some c => Re.opt (ixD (.list c) d) ρ1 | none => .bad) | none => .bad) := rfl
theorem cOix (i : Nat) {y : Str} {b : Expr} {m : ME} {py pos : Pos} (fm : Fm G k 𝒳) (h : CE 𝒳 G b m) (hN : ∀ j, (𝒳 j).N[i]? = some y := by intro _; rfl) (hv : ∀ j, Vis (𝒳 j).env.scope y := by first | exact fun _ => Or.inl rfl | exact fun _ => Or.inr (Or.inl rfl) | exact fun _ => Or.inr (Or.inr rfl)) (hd : (y == ("__debug__" : Str)) = false := by decide) (hcd : (y == ("__classdict__" : Str)) = false := by decide)
    (hs : PlainIx b := by exact fun _ _ => rfl) : CE 𝒳 G (.Subscript (.Name y py) b pos) (mOix i m) := by
  obtain ⟨t, hp, hi⟩ := h
  refine ⟨tOp (rIxL G.K) (tVar i) t, fun j => pe_ix (fm.ix (p := rIxL) j ix_list) (pe_var (hN j) (hv j) hd hcd) (hp j) hs, fun Φ R ρ σ H d ρ' S e Q q => ?_⟩
  unfold mOix at e
  split at e
  · rename_i c0 hc0
    obtain ⟨d1, ρ1, e1, e⟩ := Re.of_bind e
    split at e
    · rename_i c hc
      obtain ⟨e2, rfl⟩ := Re.of_opt e
      obtain ⟨a, _, z1, _⟩ := S.listAt hc0
      refine ⟨.ref a, z1, hi Φ R ρ σ H d1 ρ' S e1 _ fun v R1 H1 S1 x1 qv => ?_⟩
      obtain ⟨b2, xs, y1, y2, y3, y4⟩ := S1.listAt hc
      rw [z1] at y1
      cases y1
      unfold ixD at e2
      cases d1 with
      | int n =>
        obtain ⟨u, hu, qu⟩ := y3.atI e2
        cases dq_int.mp qv
        exact ⟨a, xs, n, u, rfl, rfl, .inl (.inl y2), hu, q u R1 H1 S1 x1 qu⟩
      | _ => cases e2
    · cases e
  · cases e
/-! ### len(x) -/
def mOlen (i : Nat) : ME := fun ρ => match listAt i ρ with
  | some c => .ok (.int c.length) ρ
  | none => .bad
@[simp] theorem mOlen_eq (i : Nat) (ρ : PE0) : mOlen i ρ = (match listAt i ρ with | some c => .ok (.int c.length) ρ | none => .bad) := rfl
theorem cOlen (i : Nat) {y : Str} {py p pos : Pos} (fm : Fm G k 𝒳) (hm : G.mg "len" = none) (hN : ∀ j, (𝒳 j).N[i]? = some y := by intro _; rfl) (hv : ∀ j, Vis (𝒳 j).env.scope y := by first | exact fun _ => Or.inl rfl | exact fun _ => Or.inr (Or.inl rfl) | exact fun _ => Or.inr (Or.inr rfl)) (hd : (y == ("__debug__" : Str)) = false := by decide) (hcd : (y == ("__classdict__" : Str)) = false := by decide)
    (hg : ∀ i, Gl (𝒳 i) "len" := by intro _; rfl) (he : ∀ i, starEach [.Name y py] (𝒳 i).env = (false, eval (.Name y py) (𝒳 i).env) :: starEach [] (𝒳 i).env := by intro _; rfl) : CE 𝒳 G (.Call (.Name "len" p) [.Name y py] [] pos) (mOlen i) := by
  refine ⟨tCB (fun xs H Q => ∃ p ys, xs = [.ref p] ∧ (SqL G.K H p ys ∨ SqT G.K H p ys) ∧ Q (.int ys.length) H) (tCons (tVar i) tNil), fun j => pe_callB (fm.call (p := fun K xs H Q => ∃ p ys, xs = [.ref p] ∧ (SqL K H p ys ∨ SqT K H p ys) ∧ Q (.int ys.length) H) j call_len_seq) (hg j) (by rw [fm.mg j]; exact hm) boot_len (pa_cons (pe_var (hN j) (hv j) hd hcd) pa_nil (he j)) (by decide) (by decide) (he j) rfl, fun Φ R ρ σ H d ρ' S e Q q => ?_⟩
  unfold mOlen at e
  split at e
  · rename_i c hc
    cases e
    obtain ⟨a, xs, z1, z2, z3, _⟩ := S.listAt hc
    exact ⟨.ref a, z1, a, xs, rfl, .inl (.inl (.inl z2)), by rw [← z3.length]; exact q _ R H S (Ext.refl R) (dq_int.mpr rfl)⟩
  · cases e
/-! ### e in x, e not in x -/
def mOin (neg : Bool) (i : Nat) (m : ME) : MT := fun ρ => (m ρ).bind fun d ρ1 => match listAt i ρ1 with
  | some c => Re.opt ((inO d (.list c)).map fun b => if neg then !b else b) ρ1
  | none => .bad
@[simp] theorem mOin_eq (neg : Bool) (i : Nat) (m : ME) (ρ : PE0) : mOin neg i m ρ = (m ρ).bind fun d ρ1 => (match listAt i ρ1 with | some c => Re.opt ((inO d (.list c)).map fun b => if neg then !b else b) ρ1 | none => .bad) := rfl
theorem iOin {t : TE} {m : ME} {neg : Bool} {i : Nat} (hi : ∀ Φ, IE G Φ t m) : ∀ Φ, IT G Φ (tTest (tOp (rInP G.K neg) t (tVar i))) (mOin neg i m) := fun Φ R ρ σ H b ρ' S e Q q => by
  obtain ⟨d, ρ1, e1, e⟩ := Re.of_bind e
  refine hi Φ R ρ σ H d ρ1 S e1 _ fun v R1 H1 S1 x1 qv => ?_
  split at e
  · rename_i c hc
    obtain ⟨e2, rfl⟩ := Re.of_opt e
    obtain ⟨b0, e3, rfl⟩ := Option.map_eq_some_iff.mp e2
    obtain ⟨a, xs, z1, z2, z3, _⟩ := S1.listAt hc
    unfold inO at e3
    simp only at e3
    obtain ⟨hh, e4⟩ := Option.ite_none_right_eq_some.mp e3
    cases e4
    obtain ⟨h1, h2⟩ := Bool.and_eq_true_iff.mp hh
    refine ⟨.ref a, z1, d, c, qv.dp S1.sub _ _ (shp_lay h1), h1, .inr ⟨.lst (.inl (.inl z2)) (DqA.dp S1.sub _ _ (by simpa [PyData.plain] using shp_lay h2) z3), h2⟩, ?_⟩
    cases neg
    · exact ⟨_, rfl, q R1 H1 S1 x1⟩
    · exact ⟨_, rfl, q R1 H1 S1 x1⟩
  · cases e
theorem tOinIn (i : Nat) {y : Str} {a : Expr} {m : ME} {py pos : Pos} (fm : Fm G k 𝒳) (h : CE 𝒳 G a m) (hN : ∀ j, (𝒳 j).N[i]? = some y := by intro _; rfl) (hv : ∀ j, Vis (𝒳 j).env.scope y := by first | exact fun _ => Or.inl rfl | exact fun _ => Or.inr (Or.inl rfl) | exact fun _ => Or.inr (Or.inr rfl)) (hd : (y == ("__debug__" : Str)) = false := by decide) (hcd : (y == ("__classdict__" : Str)) = false := by decide)
    (hm : behindInMarks .In (.Name y py) = false := by first | exact nomark _ | rfl) : CT 𝒳 G (.Compare a [.In] [.Name y py] pos) (mOin false i m) := by
  obtain ⟨t, hp, hi⟩ := h
  exact ⟨_, fun j => pt_cmpR (fm.op (p := fun K => rInP K false) j (op_inP (room65 fm j))) (hp j) (pe_var (hN j) (hv j) hd hcd) hm, iOin hi⟩
theorem tOinNot (i : Nat) {y : Str} {a : Expr} {m : ME} {py pos : Pos} (fm : Fm G k 𝒳) (h : CE 𝒳 G a m) (hN : ∀ j, (𝒳 j).N[i]? = some y := by intro _; rfl) (hv : ∀ j, Vis (𝒳 j).env.scope y := by first | exact fun _ => Or.inl rfl | exact fun _ => Or.inr (Or.inl rfl) | exact fun _ => Or.inr (Or.inr rfl)) (hd : (y == ("__debug__" : Str)) = false := by decide) (hcd : (y == ("__classdict__" : Str)) = false := by decide)
    (hm : behindInMarks .NotIn (.Name y py) = false := by first | exact nomark _ | rfl) : CT 𝒳 G (.Compare a [.NotIn] [.Name y py] pos) (mOin true i m) := by
  obtain ⟨t, hp, hi⟩ := h
  exact ⟨_, fun j => pt_cmpR (fm.op (p := fun K => rInP K true) j (op_notInP (room65 fm j))) (hp j) (pe_var (hN j) (hv j) hd hcd) hm, iOin hi⟩
/-! ### x[e] = v -/
def mOset (i : Nat) (me m : ME) : MS := fun ρ => Fl.of (m ρ) fun d ρ1 => match ownAt i ρ1 with
  | some _ => Fl.of (me ρ1) fun e ρ2 => match ownAt i ρ2, e with
    | some c, .int n => match ixN c.length n with
      | some j => .nx (ρ2.set i (.own (.l (c.set j d))))
      | none => .bad
    | _, _ => .bad
  | none => .bad
@[simp] theorem mOset_eq (i : Nat) (me m : ME) (ρ : PE0) : mOset i me m ρ = Fl.of (m ρ) fun d ρ1 => (match ownAt i ρ1 with | some _ => Fl.of (me ρ1) fun e ρ2 => (match ownAt i ρ2, e with | some c, .int n => (match ixN c.length n with | some j => .nx (ρ2.set i (.own (.l (c.set j d)))) | none => .bad) | _, _ => .bad) | none => .bad) := rfl
theorem sOset (i : Nat) {y : Str} {ix e : Expr} {me m : ME} {py tpos pos : Pos} (hx : CE 𝒳 G ix me) (h : CE 𝒳 G e m) (hN : ∀ j, (𝒳 j).N[i]? = some y := by intro _; rfl) (hv : ∀ j, Vis (𝒳 j).env.scope y := by first | exact fun _ => Or.inl rfl | exact fun _ => Or.inr (Or.inl rfl) | exact fun _ => Or.inr (Or.inr rfl)) (hd : (y == ("__debug__" : Str)) = false := by decide) (hcd : (y == ("__classdict__" : Str)) = false := by decide)
    (hs : ∀ j, swapsWithSole [.Subscript (.Name y py) ix tpos] e pos.line (𝒳 j).env = pure false := by intro _; rfl) (hw : ∀ j, swappedStores [.Subscript (.Name y py) ix tpos] e (𝒳 j).env = pure none := by intro _; rfl)
    (h1 : ∀ j, (assignEach [.Subscript (.Name y py) ix tpos] (𝒳 j).env).map (·.2) = [assign (.Subscript (.Name y py) ix tpos) (𝒳 j).env] := by intro _; rfl)
    (ha : ∀ j v, assign (.Subscript (.Name y py) ix tpos) (𝒳 j).env v = (do
      let ov ← holding [v] (eval (.Name y py) (𝒳 j).env)
      let iv ← holding [v, ov] (eval ix (𝒳 j).env)
      standAt tpos
      holding [v, ov, iv] (setItem ov iv v)
      release [v, ov, iv] []) := by intro _ _; rfl) : CS 𝒳 G W (.Assign [.Subscript (.Name y py) ix tpos] e pos) (mOset i me m) := by
  obtain ⟨t, hp, hi⟩ := h
  obtain ⟨tx, px, ixI⟩ := hx
  refine ⟨tAsg t (gSub (tVar i) tx rSetL), fun j => ps_asg (hp j) (pg_sub (pe_var (hN j) (hv j) hd hcd) (px j) set_list (ha j)) (hs j) (hw j) (h1 j), fun Φ R ρ σ H S D h => ?_⟩
  obtain ⟨d, ρ1, e1, h⟩ := EndOk.of h
  refine hi Φ R ρ σ H d ρ1 S e1 _ fun v R1 H1 S1 x1 qv => ?_
  split at h
  · rename_i c0 hc0
    obtain ⟨a, z1, _⟩ := S1.sl i _ (ownAt_s hc0)
    refine ⟨.ref a, z1, ?_⟩
    obtain ⟨d2, ρ2, e2, h⟩ := EndOk.of h
    refine ixI Φ R1 ρ1 σ H1 d2 ρ2 S1 e2 _ fun v2 R2 H2 S2 x2 qv2 => ?_
    split at h
    · rename_i c n hc
      obtain ⟨b, y1, _, _, xs, y4, y5, y6⟩ := S2.sl i _ (ownAt_s hc)
      rw [z1] at y1
      cases y1
      split at h
      · rename_i j hj
        rw [y5.length] at hj
        cases dq_int.mp qv2
        exact ⟨a, xs, n, j, rfl, rfl, y4, hj, h σ R2 _ (S2.write (ownAt_s hc) z1 y4 (plain_lst xs) ⟨xs.set j v, upd_same, y5.set j (qv.mono x2), by rw [List.length_set]; exact y6⟩) (x1.trans x2)⟩
      · exact False.elim h
    · exact False.elim h
  · exact False.elim h
/-! ### x[e] += n -/
def rGetL : V → V → Hp → VK → Prop := fun o i H Q => ∃ p xs n z, o = .ref p ∧ i = .int n ∧ H p = some (.lst xs) ∧ 0 ≤ n ∧ xs[n.toNat]? = some z ∧ Q z H
theorem get_list {X : Cx} : PGet X rGetL := by
  intro pins s σ H o i ov iv Q I ro ri h
  obtain ⟨p, xs, n, z, rfl, rfl, hp, h0, hz, q⟩ := h
  cases ro
  obtain ⟨t, rfl⟩ := ri
  obtain ⟨its, r, pl, hl⟩ := I.list (.inl (.inl hp))
  obtain ⟨w, ew, rw'⟩ := r.get hz
  have hw : n.toNat < its.length := (List.getElem?_eq_some_iff.mp ew).1
  have hl2 := r.length
  exact wpAny_getItem_list pl.isList h0 (by have := line63; omega) (by simpa using ew) ⟨z, H, I, rw', q⟩
def mOaug (i : Nat) (me m : ME) : MS := fun ρ => match ownAt i ρ with
  | some _ => Fl.of (me ρ) fun e ρ1 => match ownAt i ρ1, e with
    | some c, .int n => match c[n.toNat]? with
      | some (.int z) => Fl.of (m ρ1) fun d ρ2 => match ownAt i ρ2, d with
        | some c2, .int y => if 0 ≤ n ∧ n.toNat < c2.length then .nx (ρ2.set i (.own (.l (c2.set n.toNat (.int (z + y)))))) else .bad
        | _, _ => .bad
      | _ => .bad
    | _, _ => .bad
  | none => .bad
@[simp] theorem mOaug_eq (i : Nat) (me m : ME) (ρ : PE0) : mOaug i me m ρ = (match ownAt i ρ with | some _ => Fl.of (me ρ) fun e ρ1 => (match ownAt i ρ1, e with | some c, .int n => (match c[n.toNat]? with | some (.int z) => Fl.of (m ρ1) fun d ρ2 => (match ownAt i ρ2, d with | some c2, .int y => if 0 ≤ n ∧ n.toNat < c2.length then .nx (ρ2.set i (.own (.l (c2.set n.toNat (.int (z + y)))))) else .bad | _, _ => .bad) | _ => .bad) | _, _ => .bad) | none => .bad) := rfl
theorem sOaug (i : Nat) {y : Str} {ix e : Expr} {me m : ME} {py tpos pos : Pos} (hx : CE 𝒳 G ix me) (h : CE 𝒳 G e m) (hN : ∀ j, (𝒳 j).N[i]? = some y := by intro _; rfl) (hv : ∀ j, Vis (𝒳 j).env.scope y := by first | exact fun _ => Or.inl rfl | exact fun _ => Or.inr (Or.inl rfl) | exact fun _ => Or.inr (Or.inr rfl)) (hd : (y == ("__debug__" : Str)) = false := by decide) (hcd : (y == ("__classdict__" : Str)) = false := by decide)
    (ha : ∀ ov iv new, augStore ix ov iv new = (do holding [new, ov, iv] (setItem ov iv new); release [new, ov, iv] []; pure .next) := by intros; rfl) : CS 𝒳 G W (.AugAssign (.Subscript (.Name y py) ix tpos) .Add e pos) (mOaug i me m) := by
  obtain ⟨t, hp, hi⟩ := h
  obtain ⟨tx, px, ixI⟩ := hx
  refine ⟨tAugS (tVar i) tx t rGetL (ipI fun i j => i + j) rSetL, fun j => ps_augS (pe_var (hN j) (hv j) hd hcd) (px j) get_list (hp j) ip_add set_list ha, fun Φ R ρ σ H S D h => ?_⟩
  unfold mOaug at h
  split at h
  · rename_i c0 hc0
    obtain ⟨a, z1, _⟩ := S.sl i _ (ownAt_s hc0)
    refine ⟨.ref a, z1, ?_⟩
    obtain ⟨d2, ρ1, e2, h⟩ := EndOk.of h
    refine ixI Φ R ρ σ H d2 ρ1 S e2 _ fun v2 R1 H1 S1 x1 qv2 => ?_
    split at h
    · rename_i c n hc
      split at h
      · rename_i z hz
        obtain ⟨d, ρ2, e1, h⟩ := EndOk.of h
        split at h
        · rename_i c2 y2 hc2
          obtain ⟨⟨h0, hn⟩, h⟩ := EndOk.ite h
          obtain ⟨b, y1, _, _, xs, y4, y5, y6⟩ := S1.sl i _ (ownAt_s hc)
          rw [z1] at y1
          cases y1
          obtain ⟨u, hu, qu⟩ := y5.get hz
          cases dq_int.mp qv2
          cases dq_int.mp qu
          refine ⟨a, xs, n, _, rfl, rfl, y4, h0, hu, ?_⟩
          refine hi Φ R1 ρ1 σ H1 _ ρ2 S1 e1 _ fun v R2 H2 S2 x2 qv => ?_
          obtain ⟨b, w1, _, _, ws, w4, w5, w6⟩ := S2.sl i _ (ownAt_s hc2)
          rw [z1] at w1
          cases w1
          cases dq_int.mp qv
          have hj : ixN ws.length n = some n.toNat := by
            unfold ixN
            rw [w5.length] at hn
            rw [if_pos h0, if_pos (by omega)]
          exact ⟨z, y2, rfl, rfl, a, ws, n, _, rfl, rfl, w4, hj, h σ R2 _ (S2.write (ownAt_s hc2) z1 w4 (plain_lst ws) ⟨ws.set n.toNat (.int (z + y2)), upd_same, w5.set _ (dq_int.mpr rfl), by rw [List.length_set]; exact w6⟩) (x1.trans x2)⟩
        · exact False.elim h
      · exact False.elim h
    · exact False.elim h
  · exact False.elim h
/-! ### x.pop(), x.pop(e) -/
def mOpop (i : Nat) : ME := fun ρ => match ownAt i ρ with
  | some c => match c[c.length - 1]? with
    | some d => .ok d (ρ.set i (.own (.l c.dropLast)))
    | none => .bad
  | none => .bad
@[simp] theorem mOpop_eq (i : Nat) (ρ : PE0) : mOpop i ρ = (match ownAt i ρ with | some c => (match c[c.length - 1]? with | some d => .ok d (ρ.set i (.own (.l c.dropLast))) | none => .bad) | none => .bad) := rfl
theorem DqA.dropLast {K : PySem.W.Frag} {R : Hp} {ds : List D} {vs : List V} (h : DqA K R ds vs) : DqA K R ds.dropLast vs.dropLast := by
  rw [List.dropLast_eq_take, List.dropLast_eq_take, h.length]
  exact h.take _
theorem cOpop (i : Nat) {y : Str} {py apos cpos : Pos} (fm : Fm G k 𝒳) (hN : ∀ j, (𝒳 j).N[i]? = some y := by intro _; rfl) (hv : ∀ j, Vis (𝒳 j).env.scope y := by first | exact fun _ => Or.inl rfl | exact fun _ => Or.inr (Or.inl rfl) | exact fun _ => Or.inr (Or.inr rfl)) (hd : (y == ("__debug__" : Str)) = false := by decide) (hcd : (y == ("__classdict__" : Str)) = false := by decide)
    (hbase : ∀ j, attributeBase (.Name y py) "pop" (𝒳 j).env (eval (.Name y py) (𝒳 j).env) = eval (.Name y py) (𝒳 j).env := by intro _; rfl) (hline : (apos.endLine == cpos.line) = true := by rfl) :
    CE 𝒳 G (.Call (.Attribute (.Name y py) "pop" apos) [] [] cpos) (mOpop i) := by
  refine ⟨tBM0 G.K "list" rPop (tVar i), fun j => Eq.mp (congrArg (fun K => PE (𝒳 j) _ (tBM0 K "list" rPop (tVar i))) (fm.K j)) (pe_bm0 PySem.F.plainAttrs_list PySem.F.slot_list_pop PySem.F.type_list_pop mt_pop (pe_var (hN j) (hv j) hd hcd) (hbase j) hline), fun Φ R ρ σ H d ρ' S e Q q => ?_⟩
  unfold mOpop at e
  split at e
  · rename_i c hc
    split at e
    · rename_i d' hd'
      cases e
      obtain ⟨a, z1, z2, z3, xs, y4, y5, y6⟩ := S.sl i _ (ownAt_s hc)
      obtain ⟨u, hu, qu⟩ := y5.get hd'
      rw [y5.length] at hu
      refine ⟨.ref a, z1, .inl ⟨rfl, xs, .inl (.inl y4)⟩, a, xs, u, rfl, rfl, y4, hu, ?_⟩
      exact q u R _ (S.write (ownAt_s hc) z1 y4 (plain_lst xs) ⟨xs.dropLast, upd_same, y5.dropLast, by rw [List.length_dropLast]; omega⟩) (Ext.refl R) qu
    · cases e
  · cases e
def mOpopAt (i : Nat) (m : ME) : ME := fun ρ => match ownAt i ρ with
  | some _ => (m ρ).bind fun e ρ1 => match ownAt i ρ1, e with
    | some c, .int n => match c[n.toNat]? with
      | some d => if 0 ≤ n then .ok d (ρ1.set i (.own (.l (c.eraseIdx n.toNat)))) else .bad
      | none => .bad
    | _, _ => .bad
  | none => .bad
@[simp] theorem mOpopAt_eq (i : Nat) (m : ME) (ρ : PE0) : mOpopAt i m ρ = (match ownAt i ρ with | some _ => (m ρ).bind fun e ρ1 => (match ownAt i ρ1, e with | some c, .int n => (match c[n.toNat]? with | some d => if 0 ≤ n then .ok d (ρ1.set i (.own (.l (c.eraseIdx n.toNat)))) else .bad | none => .bad) | _, _ => .bad) | none => .bad) := rfl
theorem cOpopAt (i : Nat) {y : Str} {e : Expr} {m : ME} {py apos cpos : Pos} (fm : Fm G k 𝒳) (h : CE 𝒳 G e m) (hN : ∀ j, (𝒳 j).N[i]? = some y := by intro _; rfl) (hv : ∀ j, Vis (𝒳 j).env.scope y := by first | exact fun _ => Or.inl rfl | exact fun _ => Or.inr (Or.inl rfl) | exact fun _ => Or.inr (Or.inr rfl)) (hd : (y == ("__debug__" : Str)) = false := by decide) (hcd : (y == ("__classdict__" : Str)) = false := by decide)
    (hbase : ∀ j, attributeBase (.Name y py) "pop" (𝒳 j).env (eval (.Name y py) (𝒳 j).env) = eval (.Name y py) (𝒳 j).env := by intro _; rfl)
    (hfew : ∀ j, ((backTo cpos (starEach [e] (𝒳 j).env)).all (fun x => !x.1) && (backToKw cpos (keywordEach [] (𝒳 j).env)).all (fun x => x.1.isSome) && decide (([e] : List Expr).length + ([] : List Keyword).length + (if ([] : List Keyword).isEmpty then 0 else 1) < 30)) = true := by intro _; rfl)
    (hline : (apos.endLine == cpos.line) = true := by rfl) (hs : ∀ j, starEach [e] (𝒳 j).env = (false, eval e (𝒳 j).env) :: starEach [] (𝒳 j).env := by intro _; rfl) :
    CE 𝒳 G (.Call (.Attribute (.Name y py) "pop" apos) [e] [] cpos) (mOpopAt i m) := by
  obtain ⟨t, hp, hi, _⟩ := aCons h aNil hs
  refine ⟨tBM G.K "list" rPopAt (tVar i) t, fun j => Eq.mp (congrArg (fun K => PE (𝒳 j) _ (tBM K "list" rPopAt (tVar i) t)) (fm.K j)) (pe_bm PySem.F.plainAttrs_list PySem.F.slot_list_pop PySem.F.type_list_pop mt_popAt (pe_var (hN j) (hv j) hd hcd) (hp j) (hbase j) (hfew j) hline (hs j) rfl), fun Φ R ρ σ H d ρ' S e Q q => ?_⟩
  unfold mOpopAt at e
  split at e
  · rename_i c0 hc0
    obtain ⟨d1, ρ1, e1, e⟩ := Re.of_bind e
    obtain ⟨a, z1, _, _, us0, z4, _⟩ := S.sl i _ (ownAt_s hc0)
    refine ⟨.ref a, z1, .inl ⟨rfl, us0, .inl (.inl z4)⟩, hi Φ R ρ σ H [d1] ρ1 S (by show (m ρ).bind _ = _; rw [e1]; rfl) _ fun vs R1 H1 S1 x1 qvs => ?_⟩
    split at e
    · rename_i c n hc
      split at e
      · rename_i d' hd'
        split at e
        · rename_i h0
          cases e
          obtain ⟨b, y1, _, _, xs, y4, y5, y6⟩ := S1.sl i _ (ownAt_s hc)
          rw [z1] at y1
          cases y1
          obtain ⟨v, rfl, qv⟩ := dqa1 qvs
          cases dq_int.mp qv
          obtain ⟨u, hu, qu⟩ := y5.get hd'
          have hl : n.toNat < xs.length := (List.getElem?_eq_some_iff.mp hu).1
          have hk : seqIndex? n xs.length = some n.toNat := seqIndex_of h0 (by omega)
          refine ⟨a, xs, n, n.toNat, u, rfl, rfl, y4, by omega, by have := line63; omega, hk, hu, ?_⟩
          exact q u R1 _ (S1.write (ownAt_s hc) z1 y4 (plain_lst xs) ⟨xs.eraseIdx n.toNat, upd_same, y5.eraseIdx _, Nat.le_trans (List.length_eraseIdx_le _ _) y6⟩) x1 qu
        · cases e
      · cases e
    · cases e
  · cases e
end
end Pm

namespace Pm
open PySem PySem.Spec PyProof.Rows L2
/-! list(range(..)), tuple(range(..)); max, min, sum of lists and tuples -/
theorem rgV_d (a b : Int) : rgV a b = ((List.range (b - a).toNat).map fun i : Nat => a + (i : Int)).map V.int := by
  unfold rgV
  rw [List.map_map]
  rfl
theorem dqa_rg {K : PySem.W.Frag} {R : Hp} (a b : Int) : DqA K R (rngD a (b - a).toNat) (rgV a b) := by
  unfold rngD rgV
  have e1 : ((List.range (b - a).toNat).map fun i : Nat => PyData.int (a + (i : Int))) = ((List.range (b - a).toNat).map fun i : Nat => a + (i : Int)).map .int := by rw [List.map_map]; rfl
  have e2 : ((List.range (b - a).toNat).map fun i : Nat => V.int (a + (i : Int))) = ((List.range (b - a).toNat).map fun i : Nat => a + (i : Int)).map V.int := by rw [List.map_map]; rfl
  rw [e1, e2]
  exact dqa_ints _
/-- range's ends -/
def rgE : List D → Option (Int × Int)
  | [.int b] => if smallI b then some (0, b) else none
  | [.int a, .int b] => if smallI a && smallI b then some (a, b) else none
  | _ => none
def lstRgO (ds : List D) : Option Ow := (rgE ds).map fun p => .l (rngD p.1 (p.2 - p.1).toNat)
def tupRgD (ds : List D) : Option D := (rgE ds).map fun p => .tuple (rngD p.1 (p.2 - p.1).toNat)
theorem rgOk_of {a b : Int} (ha : smallI a = true) (hb : smallI b = true) : RgOk a b := by
  obtain ⟨a1, a2⟩ := smallI_iff ha
  obtain ⟨b1, b2⟩ := smallI_iff hb
  exact ⟨by omega, by omega, by omega, by omega, by omega⟩
section
variable {ι : Type} {𝒳 : ι → Cx} {G : Gx} {k : Nat}
def CRg (𝒳 : ι → Cx) (G : Gx) (e : Expr) (m : MA) : Prop := ∃ t, (∀ i, PRg (𝒳 i) e t) ∧ ∀ (Φ : Fx) (R : Hp) (ρ : PE0) (σ : L2.St) (H : Hp) (ds : List D) (a b : Int) (ρ' : PE0), SR G Φ R ρ σ H → m ρ = .ok ds ρ' → rgE ds = some (a, b) →
  ∀ Q : Int → Int → Hp → Prop, (∀ R' H', SR G Φ R' ρ' σ H' → Ext R R' → Q a b H') → t σ H Q
theorem rg1 {a : Expr} {m : ME} {p pos : Pos} (fm : Fm G k 𝒳) (hm : G.mg "range" = none) (h : CE 𝒳 G a m) (hg : ∀ i, Gl (𝒳 i) "range" := by intro _; rfl) (na : ∀ i, starEach [a] (𝒳 i).env = (false, eval a (𝒳 i).env) :: starEach [] (𝒳 i).env := by intro _; rfl) : CRg 𝒳 G (.Call (.Name "range" p) [a] [] pos) (mCons m mNil) := by
  obtain ⟨t, hp, hi⟩ := h
  refine ⟨tRg1 t, fun i => prg_1 (hg i) (by rw [fm.mg i]; exact hm) (hp i) (na i), fun Φ R ρ σ H ds a b ρ' S e er Q q => ?_⟩
  obtain ⟨d, ρ1, e1, e⟩ := Re.of_bind e
  cases e
  refine hi Φ R ρ σ H d ρ' S e1 _ fun v R1 H1 S1 x1 qv => ?_
  unfold rgE at er
  cases d with
  | int n =>
    obtain ⟨_, er⟩ := Option.ite_none_right_eq_some.mp er
    cases er
    exact ⟨_, dq_int.mp qv, q R1 H1 S1 x1⟩
  | _ => cases er
theorem rg2 {a b : Expr} {ma mb : ME} {p pos : Pos} (fm : Fm G k 𝒳) (hm : G.mg "range" = none) (ha : CE 𝒳 G a ma) (hb : CE 𝒳 G b mb) (hg : ∀ i, Gl (𝒳 i) "range" := by intro _; rfl) (na : ∀ i, starEach [a, b] (𝒳 i).env = (false, eval a (𝒳 i).env) :: starEach [b] (𝒳 i).env := by intro _; rfl)
    (nb : ∀ i, starEach [b] (𝒳 i).env = (false, eval b (𝒳 i).env) :: starEach [] (𝒳 i).env := by intro _; rfl) (hpl : ∀ i, (backTo pos (starEach [b] (𝒳 i).env)).any (fun x => x.1) = false := by intro _; rfl) : CRg 𝒳 G (.Call (.Name "range" p) [a, b] [] pos) (mCons ma (mCons mb mNil)) := by
  obtain ⟨t, hp, hi⟩ := ha
  obtain ⟨u, hq, hj⟩ := hb
  refine ⟨tRg2 t u, fun i => prg_2 (hg i) (by rw [fm.mg i]; exact hm) (hp i) (hq i) (na i) (nb i) (hpl i), fun Φ R ρ σ H ds a b ρ' S e er Q q => ?_⟩
  obtain ⟨d, ρ1, e1, e⟩ := Re.of_bind e
  obtain ⟨ds2, ρ2, e2, e⟩ := Re.of_bind e
  cases e
  obtain ⟨d2, ρ3, e3, e2⟩ := Re.of_bind e2
  cases e2
  refine hi Φ R ρ σ H d ρ1 S e1 _ fun v R1 H1 S1 x1 qv => ?_
  refine hj Φ R1 ρ1 σ H1 d2 ρ' S1 e3 _ fun v2 R2 H2 S2 x2 qv2 => ?_
  unfold rgE at er
  split at er
  · rename_i heq; cases heq
  · rename_i i j heq
    cases heq
    obtain ⟨_, er⟩ := Option.ite_none_right_eq_some.mp er
    cases er
    exact ⟨_, _, dq_int.mp qv, dq_int.mp qv2, q R2 H2 S2 (x1.trans x2)⟩
  · cases er
theorem rgE_ok {ds : List D} {a b : Int} (h : rgE ds = some (a, b)) : RgOk a b := by
  unfold rgE at h
  split at h
  · obtain ⟨h1, e⟩ := Option.ite_none_right_eq_some.mp h
    cases e
    exact rgOk_of rfl h1
  · obtain ⟨h1, e⟩ := Option.ite_none_right_eq_some.mp h
    cases e
    rw [Bool.and_eq_true] at h1
    exact rgOk_of h1.1 h1.2
  · cases h
theorem rg_len {a b : Int} (h : RgOk a b) : (rgV a b).length ≤ sizeLine := by
  rw [rgV_length, sizeLine_eq]
  have := h.2.2.2.2
  omega
theorem oListRg {e : Expr} {m : MA} {p pos : Pos} (fm : Fm G k 𝒳) (hm : G.mg "list" = none) (h : CRg 𝒳 G e m) (hg : ∀ i, Gl (𝒳 i) "list" := by intro _; rfl) (na : ∀ i, starEach [e] (𝒳 i).env = (false, eval e (𝒳 i).env) :: starEach [] (𝒳 i).env := by intro _; rfl) : CO 𝒳 G (.Call (.Name "list" p) [e] [] pos) (mCallO lstRgO m) := by
  obtain ⟨t, hp, hi⟩ := h
  refine ⟨tLstRg t, fun i => pe_listRg (fm.calm i) (hg i) (by rw [fm.mg i]; exact hm) (hp i) (na i), fun Φ R ρ σ H w ρ' S e Q q => ?_⟩
  obtain ⟨ds, ρ1, e1, e⟩ := Re.of_bind e
  obtain ⟨e2, rfl⟩ := Re.of_opt e
  obtain ⟨⟨a, b⟩, e3, rfl⟩ := Option.map_eq_some_iff.mp e2
  refine hi Φ R ρ σ H ds a b _ S e1 e3 _ fun R1 H1 S1 x1 => ⟨rgE_ok e3, fun l nl => ?_⟩
  exact q l R1 _ (S1.made nl) x1 (S1.mine nl) ⟨_, upd_same, dqa_rg a b, rg_len (rgE_ok e3)⟩
theorem cTupRg {e : Expr} {m : MA} {p pos : Pos} (fm : Fm G k 𝒳) (hm : G.mg "tuple" = none) (h : CRg 𝒳 G e m) (hg : ∀ i, Gl (𝒳 i) "tuple" := by intro _; rfl) (na : ∀ i, starEach [e] (𝒳 i).env = (false, eval e (𝒳 i).env) :: starEach [] (𝒳 i).env := by intro _; rfl) : CE 𝒳 G (.Call (.Name "tuple" p) [e] [] pos) (mCallB tupRgD m) := by
  obtain ⟨t, hp, hi⟩ := h
  refine ⟨tTupRg t, fun i => pe_tupRg (fm.calm i) (hg i) (by rw [fm.mg i]; exact hm) (hp i) (na i), fun Φ R ρ σ H w ρ' S e Q q => ?_⟩
  obtain ⟨ds, ρ1, e1, e⟩ := Re.of_bind e
  obtain ⟨e2, rfl⟩ := Re.of_opt e
  obtain ⟨⟨a, b⟩, e3, rfl⟩ := Option.map_eq_some_iff.mp e2
  refine hi Φ R ρ σ H ds a b _ S e1 e3 _ fun R1 H1 S1 x1 => ⟨rgE_ok e3, fun l nl => ?_⟩
  have x2 : Ext R1 (upd R1 l (.tup (rgV a b))) := ext_upd (S1.sub.none nl)
  exact q _ _ _ (S1.laid nl (plain_tup _).1 (rg_len (rgE_ok e3))) (x1.trans x2) (dq_tuple.mpr ⟨l, _, rfl, upd_same, dqa_rg a b⟩)
end
/-! ### max, min -/
abbrev mostD (d : D) (ds : List D) : D := PySem.W.maxD d ds
def maxA : List D → Option D
  | [.list (d :: ds)] => if cmpB (d :: ds) then some (mostD d ds) else none
  | [.tuple (d :: ds)] => if cmpB (d :: ds) then some (mostD d ds) else none
  | _ => none
def minA : List D → Option D
  | [.list (d :: ds)] => if cmpB (d :: ds) then some (leastD d ds) else none
  | [.tuple (d :: ds)] => if cmpB (d :: ds) then some (leastD d ds) else none
  | _ => none
def rBest (mx : Bool) (K : PySem.W.Frag) : List V → Hp → VK → Prop := fun vs H Q => ∃ (a : Addr) (xs : List V) (d : D) (ds : List D), vs = [V.ref a] ∧ (SqL K H a xs ∨ SqT K H a xs) ∧ DpAll K H xs (d :: ds) ∧ cmpB (d :: ds) = true ∧
  ∀ (i : Nat) (x : V), xs[i]? = some x → (d :: ds)[i]? = some (if mx then mostD d ds else leastD d ds) → Q x H
theorem cr_best {X : Cx} (mx : Bool) (hu : X.A.units + 64 < cLine) (hc : X.calm = true) : CallR X (.builtin (if mx then "max" else "min")) (rBest mx X.K) := by
  intro pins s σ H vs us Q I r h
  obtain ⟨a, xs, d, ds, rfl, hs, hd, hb, q⟩ := h
  obtain ⟨b1, b2⟩ := cmpB_ok hb
  rw [Vals.ref1 r]
  have hdep : PyData.depthAll (d :: ds) ≤ 60 := (sh_all (n := 60) fun x hx => b1 x hx).2
  have fin : ∀ {its : List Value}, Vals xs its → ∀ (i : Nat) (v : Value) (h' : Heap) (tk : Nat) (bs : List Addr), its.toArray[i]? = some v → Reads h' v (if mx then mostD d ds else leastD d ds) bs → (∀ b o, s.heap.get? b = some o → h'.get? b = some o) → EP X pins σ Q v { s with heap := h', toks := tk } := by
    intro its rv i v h' tk bs hv hr hk
    obtain ⟨as, rr⟩ := Dp.readsAll I _ _ _ hd rv
    have hv2 : its[i]? = some v := by simpa using hv
    have hil : i < its.length := (List.getElem?_eq_some_iff.mp hv2).1
    have lx := rv.length
    obtain ⟨x, hx⟩ : ∃ x, xs[i]? = some x := ⟨_, List.getElem?_eq_getElem (by omega)⟩
    obtain ⟨u, hu2, ru⟩ := rv.get hx
    rw [hv2] at hu2
    cases hu2
    obtain ⟨bs2, r2, e2, m2, _⟩ := PySem.W.readsAll_at rr i v hv2
    have e := PySem.SeqAt.plain_unique _ _ _ _ _ (b1 _ m2).1 (PySem.W.reads_keeps hk r2) hr
    refine ⟨x, H, I.kept (t' := tk) hk, ru, q i x hx ?_⟩
    rw [List.getElem?_eq_getElem e2]
    rw [List.getD_eq_getElem?_getD, List.getElem?_eq_getElem e2] at e
    exact congrArg some e
  rcases hs with hs | hs
  · obtain ⟨its, rv, hl, hz⟩ := I.list hs
    obtain ⟨as, rr⟩ := Dp.readsAll I _ _ _ hd rv
    cases mx
    · exact PySem.W.min_list_data (vs := its.toArray) (I.ok.hd hc) hl.isList rr b2 (by omega) fun i v h' tk bs hv hr hk => fin rv i v h' tk bs hv hr hk
    · exact PySem.W.max_list_data (vs := its.toArray) (I.ok.hd hc) hl.isList rr b2 (by omega) fun i v h' tk bs hv hr hk => fin rv i v h' tk bs hv hr hk
  · obtain ⟨its, rv, hl, hz⟩ := I.tuple hs
    obtain ⟨as, rr⟩ := Dp.readsAll I _ _ _ hd rv
    have ht : s.heap.IsTuple a its.toArray := hl
    cases mx
    · exact PySem.W.min_tuple_data (vs := its.toArray) (I.ok.hd hc) ht rr b2 (by omega) fun i v h' tk bs hv hr hk => fin rv i v h' tk bs hv hr hk
    · exact PySem.W.max_tuple_data (vs := its.toArray) (I.ok.hd hc) ht rr b2 (by omega) fun i v h' tk bs hv hr hk => fin rv i v h' tk bs hv hr hk
section
variable {ι : Type} {𝒳 : ι → Cx} {G : Gx} {k : Nat}
theorem clBest (mx : Bool) {f : List D → Option D} (hf : ∀ ds r, f ds = some r → ∃ d xs, (ds = [.list (d :: xs)] ∨ ds = [.tuple (d :: xs)]) ∧ cmpB (d :: xs) = true ∧ r = if mx then mostD d xs else leastD d xs) : ClI G (rBest mx G.K) f := fun Φ R H ρ σ ds d vs S e qa Q q => by
  obtain ⟨x, xs, hds, hb, rfl⟩ := hf ds d e
  have fin : ∀ {p : Addr} {ws : List V}, DqA G.K R (x :: xs) ws → (SqL G.K H p ws ∨ SqT G.K H p ws) → rBest mx G.K [V.ref p] H Q := fun {p ws} h2 hs => by
    refine ⟨p, ws, x, xs, rfl, hs, DqA.dp S.sub _ _ (sh_all (n := 60) fun d hd => (cmpB_ok hb).1 d hd).1 h2, hb, fun i v hv hd => ?_⟩
    obtain ⟨v2, e2, dv⟩ := h2.get hd
    rw [hv] at e2
    cases e2
    exact q _ R H S (Ext.refl R) dv
  rcases hds with rfl | rfl
  · obtain ⟨v, rfl, h⟩ := dqa1 qa
    obtain ⟨p, ws, rfl, h1, h2⟩ := dq_list.mp h
    exact fin h2 (.inl (.inl (.inl (S.sub _ _ h1))))
  · obtain ⟨v, rfl, h⟩ := dqa1 qa
    obtain ⟨p, ws, rfl, h1, h2⟩ := dq_tuple.mp h
    exact fin h2 (.inr (.inl (.inl (S.sub _ _ h1))))
theorem cMaxA {e : Expr} {m : ME} {p pos : Pos} (fm : Fm G k 𝒳) (hm : G.mg "max" = none) (h : CE 𝒳 G e m) (hg : ∀ i, Gl (𝒳 i) "max" := by intro _; rfl)
    (he : ∀ i, starEach [e] (𝒳 i).env = (false, eval e (𝒳 i).env) :: starEach [] (𝒳 i).env := by intro _; rfl) : CE 𝒳 G (.Call (.Name "max" p) [e] [] pos) (mCallB maxA (mCons m mNil)) :=
  cCallB (r := rBest true G.K) fm (fun i => fm.call (p := rBest true) i (cr_best true (room64 fm i) (fm.calm i))) (clBest true fun ds r e => by
    unfold maxA at e
    split at e
    · obtain ⟨hb, e⟩ := Option.ite_none_right_eq_some.mp e
      cases e
      exact ⟨_, _, .inl rfl, hb, rfl⟩
    · obtain ⟨hb, e⟩ := Option.ite_none_right_eq_some.mp e
      cases e
      exact ⟨_, _, .inr rfl, hb, rfl⟩
    · cases e) hm (by decide +kernel) (aCons h aNil he) hg (by decide) (by decide) he (fun _ => rfl)
theorem cMinA {e : Expr} {m : ME} {p pos : Pos} (fm : Fm G k 𝒳) (hm : G.mg "min" = none) (h : CE 𝒳 G e m) (hg : ∀ i, Gl (𝒳 i) "min" := by intro _; rfl)
    (he : ∀ i, starEach [e] (𝒳 i).env = (false, eval e (𝒳 i).env) :: starEach [] (𝒳 i).env := by intro _; rfl) : CE 𝒳 G (.Call (.Name "min" p) [e] [] pos) (mCallB minA (mCons m mNil)) :=
  cCallB (r := rBest false G.K) fm (fun i => fm.call (p := rBest false) i (cr_best false (room64 fm i) (fm.calm i))) (clBest false fun ds r e => by
    unfold minA at e
    split at e
    · obtain ⟨hb, e⟩ := Option.ite_none_right_eq_some.mp e
      cases e
      exact ⟨_, _, .inl rfl, hb, rfl⟩
    · obtain ⟨hb, e⟩ := Option.ite_none_right_eq_some.mp e
      cases e
      exact ⟨_, _, .inr rfl, hb, rfl⟩
    · cases e) hm (by decide +kernel) (aCons h aNil he) hg (by decide) (by decide) he (fun _ => rfl)
end
end Pm

namespace Pm
open PySem PySem.Spec PyProof.Rows L2
/-! sum of a list or tuple; sets of ints; list.index of an int; sorted of a tuple -/
def rSumA (K : PySem.W.Frag) : List V → Hp → VK → Prop := fun vs H Q => ∃ (a : Addr) (ns : List Int), vs = [V.ref a] ∧ (SqL K H a (ns.map V.int) ∨ SqT K H a (ns.map V.int)) ∧ Q (.int ns.sum) H
theorem cr_sumA {X : Cx} (hc : X.calm = true) : CallR X (.builtin "sum") (rSumA X.K) := by
  intro pins s σ H vs us Q I r h
  obtain ⟨a, ns, rfl, hs | hs, q⟩ := h
  · exact cr_sum hc pins s σ H _ us Q I r ⟨a, ns, rfl, hs, q⟩
  · obtain ⟨its, rv, hl, _⟩ := I.tuple hs
    rw [Vals.ref1 r]
    have hi : IntsAre its ns := rv.ints
    obtain ⟨xs, hx⟩ := hi.allInts.items
    have hn : numsOf its.toArray.toList = ns := by rw [show its.toArray.toList = its from rfl, hi.numsOf]
    rw [hx] at hl hn
    rw [nums_intItems] at hn
    refine PySem.W.ktm_sumG (I.ok.hd hc) hl fun h' tk t' hk => ?_
    have e : preSum (numAt xs) xs.size = ns.sum := by rw [preSum_eq, List.take_of_length_le (by simp), hn]
    exact ⟨.int _, H, I.kept hk, ⟨_, by rw [e]⟩, q⟩
def sumA : List D → Option D
  | [d] => (seqD d).bind fun ds => (intsOf ds).map fun ns => .int ns.sum
  | _ => none
section
variable {ι : Type} {𝒳 : ι → Cx} {G : Gx} {k : Nat}
theorem cSumA {e : Expr} {m : ME} {p pos : Pos} (fm : Fm G k 𝒳) (hm : G.mg "sum" = none) (h : CE 𝒳 G e m) (hg : ∀ i, Gl (𝒳 i) "sum" := by intro _; rfl)
    (he : ∀ i, starEach [e] (𝒳 i).env = (false, eval e (𝒳 i).env) :: starEach [] (𝒳 i).env := by intro _; rfl) : CE 𝒳 G (.Call (.Name "sum" p) [e] [] pos) (mCallB sumA (mCons m mNil)) :=
  cCallB (r := rSumA G.K) fm (fun i => fm.call (p := rSumA) i (cr_sumA (fm.calm i))) (fun Φ R H ρ σ ds d vs S e qa Q q => by
    unfold sumA at e
    split at e
    · rename_i z
      obtain ⟨us, e1, e⟩ := Option.bind_eq_some_iff.mp e
      obtain ⟨ns, e2, rfl⟩ := Option.map_eq_some_iff.mp e
      obtain ⟨x, rfl, h⟩ := dqa1 qa
      obtain ⟨kd, a, xs, rfl, h2, hR, _⟩ := seqD_at e1 h
      rw [intsOf_eq e2] at h2
      have hx := h2.ints
      subst hx
      refine ⟨a, ns, rfl, ?_, q _ R H S (Ext.refl R) (dq_int.mpr rfl)⟩
      rcases hR with hR | hR
      · exact .inl (.inl (.inl (S.sub _ _ hR)))
      · exact .inr (.inl (.inl (S.sub _ _ hR)))
    · cases e) hm (by decide +kernel) (aCons h aNil he) hg (by decide) (by decide) he (fun _ => rfl)
end
/-! ### sets of ints -/
/-- each once, as met first -/
def dist (ns : List Int) : List Int := ns.foldl step_dedup []
theorem dedup_go (ns acc : List Int) (h : acc.Nodup) : (ns.foldl step_dedup acc).Nodup ∧ ∀ k, k ∈ ns.foldl step_dedup acc ↔ k ∈ acc ∨ k ∈ ns := by
  induction ns generalizing acc with
  | nil => exact ⟨h, fun k => by simp⟩
  | cons n ns ih =>
    rw [List.foldl_cons]
    by_cases c : n ∈ acc
    · have e : step_dedup acc n = acc := by
        unfold step_dedup
        exact if_pos (List.any_eq_true.mpr ⟨n, c, by simp⟩)
      rw [e]
      obtain ⟨h1, h2⟩ := ih acc h
      refine ⟨h1, fun k => ?_⟩
      rw [h2, List.mem_cons]
      constructor
      · rintro (z | z)
        · exact .inl z
        · exact .inr (.inr z)
      · rintro (z | z | z)
        · exact .inl z
        · exact .inl (by rw [z]; exact c)
        · exact .inr z
    · have e : step_dedup acc n = acc ++ [n] := by
        unfold step_dedup
        refine if_neg fun z => ?_
        obtain ⟨x, hx, e2⟩ := List.any_eq_true.mp z
        have : x = n := by simpa using e2
        exact c (by rw [← this]; exact hx)
      rw [e]
      obtain ⟨h1, h2⟩ := ih (acc ++ [n]) (by
        rw [List.nodup_append]
        exact ⟨h, by simp, fun a ha b hb z => c (by rw [List.mem_singleton] at hb; rw [← hb, ← z]; exact ha)⟩)
      refine ⟨h1, fun k => ?_⟩
      rw [h2, List.mem_append, List.mem_singleton, List.mem_cons]
      exact or_assoc
theorem dist_nodup (ns : List Int) : (dist ns).Nodup := (dedup_go ns [] List.nodup_nil).1
theorem dist_mem (ns : List Int) (k : Int) : k ∈ dist ns ↔ k ∈ ns := by
  unfold dist
  rw [(dedup_go ns [] List.nodup_nil).2]
  simp
theorem firstMet_dist (ns : List Int) : firstMet (fun i => ns.getD i 0) ns.length = dist ns := by
  unfold firstMet dist
  congr 1
  apply List.ext_getElem?
  intro i
  rw [List.getElem?_map]
  by_cases h : i < ns.length
  · rw [List.getElem?_range h, List.getElem?_eq_getElem h]
    simp [h]
  · rw [List.getElem?_eq_none (by rw [List.length_range]; omega), List.getElem?_eq_none (by omega)]
    rfl
theorem count_of {l : List Int} {ns : List Int} (h : l.Nodup) (hm : ∀ k, k ∈ l ↔ k ∈ ns) : l.length = (dist ns).length :=
  ((List.perm_ext_iff_of_nodup h (dist_nodup ns)).mpr fun k => (hm k).trans (dist_mem ns k).symm).length_eq
def tLenS (K : PySem.W.Frag) (ta : TE) : TE := fun σ H Q => ta σ H fun x H1 => ∃ (l : Addr) (ns : List Int), x = V.ref l ∧ (SqL K H1 l (ns.map V.int) ∨ SqT K H1 l (ns.map V.int)) ∧ ns.length ≤ 1000 ∧ Q (.int (dist ns).length) H1
theorem pe_lenS {X : Cx} {a : Expr} {ta : TE} {p p2 q pos : Pos} (hc : X.calm = true) (hg : Gl X "len") (hm : X.mg "len" = none) (hg2 : Gl X "set") (hm2 : X.mg "set" = none) (ha : PE X a ta)
    (na : starEach [a] X.env = (false, eval a X.env) :: starEach [] X.env := by rfl) : PE X (.Call (.Name "len" p) [.Call (.Name "set" p2) [a] [] q] [] pos) (tLenS X.K ta) := by
  refine ⟨fun pins s σ H Q I h => Call_ (ld_blt I hg hm boot_len (callWith_builtin1 (args_cons ?_ rfl) rfl rfl))⟩
  refine Call_ (ld_blt I hg2 hm2 boot_set (callWith_type1 (args_cons (thn (ha.run pins s σ H _ I h) fun v t1 ⟨x, H1, J1, r1, q1⟩ => args_nil ?_) na) na rfl))
  obtain ⟨l, ns, rfl, hq | hq, hb, q1⟩ := q1
  · cases r1
    obtain ⟨its, r, pl, hz⟩ := J1.list hq
    have hl : its.toArray.size = ns.length := by rw [List.size_toArray, ← r.length, List.length_map]
    refine call_set_list (J1.ok.hd hc) pl.isList (ns := ns) (by simpa using r.ints) (by rw [hl]; unfold scanBound; omega) fun h' tk hS hk => args_nil ?_
    rw [hl, firstMet_dist] at hS
    obtain ⟨o, es, ep, t, ho, hex, hd, _, _, _, hf, hn⟩ := hS
    have J2 : Inv X pins σ H1 { t1 with heap := h', toks := tk } := J1.kept fun b o e => hk b o (Heap.lt_size e) e
    have hle : (dist ns).length ≤ ns.length := by rw [← firstMet_dist]; exact firstMet_length_le _ _
    exact call_len_set ho hex hd hf (by rw [hn] <;> omega) ⟨.int (dist ns).length, H1, J2.tok _, ⟨_, by rw [hn]⟩, q1⟩
  · cases r1
    obtain ⟨its, r, pl, hz⟩ := J1.tuple hq
    refine call_set_tupI ns (J1.ok.hd hc) (items := its.toArray) pl (by simpa using r.ints) (by unfold scanBound; omega) fun h' tk c hS hcl hk => args_nil ?_
    obtain ⟨o, es, ep, t, ho, hex, hd, _, hnd, hmm, _, hf, hn, _⟩ := hS
    have J2 : Inv X pins σ H1 { t1 with heap := h', toks := tk } := J1.kept hk
    have hcount : es.size = (dist ns).length := by
      rw [← count_of hnd (ns := ns) fun k => by rw [← hmm, decide_eq_true_eq], List.length_map, Array.length_toList]
    exact call_len_set ho hex hd hf (by omega) ⟨.int (dist ns).length, H1, J2.tok _, ⟨_, by rw [hcount]⟩, q1⟩
def lenSetI : List D → Option D
  | [d] => (seqD d).bind fun ds => (intsOf ds).bind fun ns => if ns.length ≤ 1000 then some (.int (dist ns).length) else none
  | _ => none
section
variable {ι : Type} {𝒳 : ι → Cx} {G : Gx} {k : Nat}
theorem cLenSetI {a : Expr} {m : ME} {p p2 q pos : Pos} (fm : Fm G k 𝒳) (hm : G.mg "len" = none) (hm2 : G.mg "set" = none) (h : CE 𝒳 G a m) (hg : ∀ i, Gl (𝒳 i) "len" := by intro _; rfl) (hg2 : ∀ i, Gl (𝒳 i) "set" := by intro _; rfl)
    (na : ∀ i, starEach [a] (𝒳 i).env = (false, eval a (𝒳 i).env) :: starEach [] (𝒳 i).env := by intro _; rfl) : CE 𝒳 G (.Call (.Name "len" p) [.Call (.Name "set" p2) [a] [] q] [] pos) (mCallB lenSetI (mCons m mNil)) := by
  obtain ⟨t, hp, hi⟩ := h
  refine ⟨tLenS G.K t, fun i => by have z := pe_lenS (p := p) (p2 := p2) (q := q) (pos := pos) (fm.calm i) (hg i) (by rw [fm.mg i]; exact hm) (hg2 i) (by rw [fm.mg i]; exact hm2) (hp i) (na i); rw [fm.K i] at z; exact z, fun Φ R ρ σ H d ρ' S e Q q => ?_⟩
  obtain ⟨ds, ρ1, e1, e⟩ := Re.of_bind e
  obtain ⟨d0, ρ2, e3, e1⟩ := Re.of_bind e1
  cases e1
  obtain ⟨e2, rfl⟩ := Re.of_opt e
  refine hi Φ R ρ σ H d0 _ S e3 _ fun v R1 H1 S1 x1 qv => ?_
  obtain ⟨us, f1, f2⟩ := Option.bind_eq_some_iff.mp (show (seqD d0).bind _ = some d from e2)
  obtain ⟨ns, f3, f4⟩ := Option.bind_eq_some_iff.mp f2
  obtain ⟨f5, f6⟩ := Option.ite_none_right_eq_some.mp f4
  cases f6
  obtain ⟨kd, a, xs, rfl, h2, hR, _⟩ := seqD_at f1 qv
  rw [intsOf_eq f3] at h2
  have hx := h2.ints
  subst hx
  refine ⟨a, ns, rfl, ?_, f5, q _ R1 H1 S1 x1 (dq_int.mpr rfl)⟩
  rcases hR with hR | hR
  · exact .inl (.inl (.inl (S1.sub _ _ hR)))
  · exact .inr (.inl (.inl (S1.sub _ _ hR)))
end
/-! sorted(set(t)) -/
def rSetTI (w : World) (K : PySem.W.Frag) : List V → Hp → VK → Prop := fun vs H Q => ∃ (p : Addr) (ns : List Int), vs = [V.ref p] ∧ SqT K H p (ns.map V.int) ∧ ns.length ≤ 1000 ∧ ∀ a n, H a = none → n ≤ ns.length → Q (.ref a) (upd H a (SetO w a (fun j => decide (j ∈ ns)) n))
theorem cr_setTI {X : Cx} (hc : X.calm = true) : CallR X (.type "set") (rSetTI X.w X.K) := by
  intro pins s σ H vs us Q I r h
  obtain ⟨p, ns, rfl, hs, hb, q⟩ := h
  rw [Vals.ref1 r]
  obtain ⟨its, rv, pl, hz⟩ := I.tuple hs
  have hn : H s.heap.objs.size = none := I.hok.fresh (Nat.le_refl _)
  refine call_set_tupI ns (I.ok.hd hc) (items := its.toArray) pl (by simpa using rv.ints) (by unfold scanBound; omega) fun h' tk c hS hcl hk => ?_
  exact ⟨.ref s.heap.objs.size, upd H s.heap.objs.size (SetO X.w s.heap.objs.size (fun j => decide (j ∈ ns)) c), I.laid (t' := tk) hk (Nat.le_refl _) (setO_new hS), rfl, q _ c hn hcl⟩
def isort (ns : List Int) : List Int := (dist ns).mergeSort fun a b => decide (a ≤ b)
theorem strict_ext : ∀ {l m : List Int}, l.Pairwise (· < ·) → m.Pairwise (· < ·) → (∀ k, k ∈ l ↔ k ∈ m) → l = m
  | [], [], _, _, _ => rfl
  | [], b :: m, _, _, h => absurd ((h b).mpr List.mem_cons_self) (by simp)
  | a :: l, [], _, _, h => absurd ((h a).mp List.mem_cons_self) (by simp)
  | a :: l, b :: m, h1, h2, h => by
    rw [List.pairwise_cons] at h1 h2
    have e : a = b := by
      rcases List.mem_cons.mp ((h a).mp List.mem_cons_self) with z | z
      · exact z
      · rcases List.mem_cons.mp ((h b).mpr List.mem_cons_self) with y | y
        · exact y.symm
        · have := h2.1 a z
          have := h1.1 b y
          omega
    subst e
    have : l = m := strict_ext h1.2 h2.2 fun k => by
      constructor
      · intro hk
        rcases List.mem_cons.mp ((h k).mp (List.mem_cons_of_mem _ hk)) with z | z
        · have := h1.1 k hk; omega
        · exact z
      · intro hk
        rcases List.mem_cons.mp ((h k).mpr (List.mem_cons_of_mem _ hk)) with z | z
        · have := h2.1 k hk; omega
        · exact z
    rw [this]
theorem isort_mem (ns : List Int) (k : Int) : k ∈ isort ns ↔ k ∈ ns := by
  unfold isort
  rw [List.mem_mergeSort, dist_mem]
theorem isort_strict (ns : List Int) : (isort ns).Pairwise (· < ·) := by
  have h1 : (isort ns).Pairwise fun a b => decide (a ≤ b) = true := List.pairwise_mergeSort (le := fun a b : Int => decide (a ≤ b)) (fun a b c h1 h2 => by simp at h1 h2 ⊢; omega) (fun a b => by simp; omega) _
  have h2 : (isort ns).Nodup := ((List.mergeSort_perm (dist ns) _).nodup_iff).mpr (dist_nodup ns)
  refine (h1.and h2).imp fun {a b} ⟨x, y⟩ => ?_
  simp at x
  have : a ≠ b := y
  omega
def sortSetO : List D → Option Ow
  | [.tuple ds] => (intsOf ds).bind fun ns => if ns.length < 64 then some (.l ((isort ns).map .int)) else none
  | _ => none
section
variable {ι : Type} {𝒳 : ι → Cx} {G : Gx} {k : Nat}
theorem oSortSet {a : Expr} {m : ME} {p p2 q pos : Pos} (fm : Fm G k 𝒳) (hm : G.mg "sorted" = none) (hm2 : G.mg "set" = none) (h : CE 𝒳 G a m) (hg : ∀ i, Gl (𝒳 i) "sorted" := by intro _; rfl) (hg2 : ∀ i, Gl (𝒳 i) "set" := by intro _; rfl)
    (na : ∀ i, starEach [a] (𝒳 i).env = (false, eval a (𝒳 i).env) :: starEach [] (𝒳 i).env := by intro _; rfl)
    (nb : ∀ i, starEach [.Call (.Name "set" p2) [a] [] q] (𝒳 i).env = (false, eval (.Call (.Name "set" p2) [a] [] q) (𝒳 i).env) :: starEach [] (𝒳 i).env := by intro _; rfl) : CO 𝒳 G (.Call (.Name "sorted" p) [.Call (.Name "set" p2) [a] [] q] [] pos) (mCallO sortSetO (mCons m mNil)) := by
  obtain ⟨t, hp, hi⟩ := h
  refine ⟨tCB (rSortedSet G.w) (tCons (tCB (rSetTI G.w G.K) (tCons t tNil)) tNil), fun i => ?_, fun Φ R ρ σ H w ρ' S e Q q => ?_⟩
  · have z1 : CallR (𝒳 i) (.type "set") (rSetTI G.w G.K) := by have z := cr_setTI (X := 𝒳 i) (fm.calm i); rw [fm.K i, fm.w i] at z; exact z
    have z2 : CallR (𝒳 i) (.builtin "sorted") (rSortedSet G.w) := by have z := cr_sortedSet (X := 𝒳 i) (fm.calm i); rw [fm.w i] at z; exact z
    exact pe_callB z2 (hg i) (by rw [fm.mg i]; exact hm) (by decide +kernel) (pa_cons (pe_callTy z1 (hg2 i) (by rw [fm.mg i]; exact hm2) boot_set (pa_cons (hp i) pa_nil (na i)) (by decide) (by decide) (na i) rfl) pa_nil (nb i)) (by decide) (by decide) (nb i) rfl
  · obtain ⟨ds, ρ1, e1, e⟩ := Re.of_bind e
    obtain ⟨d0, ρ2, e3, e1⟩ := Re.of_bind e1
    cases e1
    obtain ⟨e2, rfl⟩ := Re.of_opt e
    refine hi Φ R ρ σ H d0 _ S e3 _ fun v R1 H1 S1 x1 qv => ?_
    unfold sortSetO at e2
    split at e2
    · rename_i us heq
      cases heq
      obtain ⟨ns, f3, f4⟩ := Option.bind_eq_some_iff.mp e2
      obtain ⟨f5, f6⟩ := Option.ite_none_right_eq_some.mp f4
      cases f6
      obtain ⟨p, xs, rfl, h1, h2⟩ := dq_tuple.mp qv
      rw [intsOf_eq f3] at h2
      have hx := h2.ints
      subst hx
      refine ⟨p, ns, rfl, .inl (.inl (S1.sub _ _ h1)), by omega, fun a n na hn => ?_⟩
      have S2 := S1.made (o := SetO G.w a (fun j => decide (j ∈ ns)) n) na
      refine ⟨a, _, n, rfl, upd_same, by omega, fun ms l h1 h2 h3 nl => ?_⟩
      have em : ms = isort ns := strict_ext h1 (isort_strict ns) fun k => by rw [h2, decide_eq_true_eq, isort_mem]
      subst em
      exact q l R1 _ (S2.made nl) x1 (S2.mine nl) ⟨_, upd_same, dqa_ints _, by rw [List.length_map, h3, sizeLine_eq]; omega⟩
    · cases e2
/-! ### l.index(n) -/
def indexI (us ds : List D) : Option D := match ds with
  | [.int n] => (intsOf us).bind fun ns => if n ∈ ns then some (.int (ns.idxOf n : Nat)) else none
  | _ => none
def rIndexI (K : PySem.W.Frag) : V → List V → Hp → VK → Prop := fun x vs H Q => ∃ (a : Addr) (ns : List Int) (n : Int), x = .ref a ∧ vs = [.int n] ∧ SqL K H a (ns.map V.int) ∧ n ∈ ns ∧ Q (.int (ns.idxOf n : Nat)) H
theorem mt_indexI {X : Cx} (hu : X.A.units + 64 < cLine) : MtR X "list.index" (rIndexI X.K) := by
  intro pins s σ H x vs v us Q I rx rv h
  obtain ⟨a, ns, n, rfl, rfl, hs, hn, q⟩ := h
  cases rx
  obtain ⟨u, rfl, t, rfl⟩ := vals1 rv
  obtain ⟨its, r, hl, hz⟩ := I.list hs
  have hlen := r.length
  rw [List.length_map] at hlen
  refine PySem.W.index_list_datum (α := Int) hl.isList (.of_ints (by simpa using r.ints)) (PySem.W.holds_int n t) (by show _ + 1 + 0 < _; omega) (by rw [List.length_map] at hz; exact hz) hn ?_
  exact ⟨.int _, H, I.tok _, ⟨_, rfl⟩, q⟩
def mMethL (f : List D → List D → Option D) (mo : ME) (ma : MA) : ME := fun ρ => (mo ρ).bind fun d ρ1 => match d with
  | .list us => (ma ρ1).bind fun ds ρ2 => Re.opt (f us ds) ρ2
  | _ => .bad
@[simp] theorem mMethL_eq (f : List D → List D → Option D) (mo : ME) (ma : MA) (ρ : PE0) : mMethL f mo ma ρ = (mo ρ).bind fun d ρ1 => (match d with | .list us => (ma ρ1).bind fun ds ρ2 => Re.opt (f us ds) ρ2 | _ => .bad) := rfl
theorem cIndexL {o e : Expr} {mo m : ME} {apos cpos : Pos} (fm : Fm G k 𝒳) (ho : CE 𝒳 G o mo) (h : CE 𝒳 G e m)
    (hbase : ∀ j, attributeBase o "index" (𝒳 j).env (eval o (𝒳 j).env) = eval o (𝒳 j).env := by intro _; rfl)
    (hfew : ∀ j, ((backTo cpos (starEach [e] (𝒳 j).env)).all (fun x => !x.1) && (backToKw cpos (keywordEach [] (𝒳 j).env)).all (fun x => x.1.isSome) && decide (([e] : List Expr).length + ([] : List Keyword).length + (if ([] : List Keyword).isEmpty then 0 else 1) < 30)) = true := by intro _; rfl)
    (hline : (apos.endLine == cpos.line) = true := by rfl) (hs : ∀ j, starEach [e] (𝒳 j).env = (false, eval e (𝒳 j).env) :: starEach [] (𝒳 j).env := by intro _; rfl) :
    CE 𝒳 G (.Call (.Attribute o "index" apos) [e] [] cpos) (mMethL indexI mo (mCons m mNil)) := by
  obtain ⟨tO, pO, iO⟩ := ho
  obtain ⟨t, hp, hi, _⟩ := aCons h aNil hs
  refine ⟨tBM G.K "list" (rIndexI G.K) tO t, fun j => Eq.mp (congrArg (fun K => PE (𝒳 j) _ (tBM K "list" (rIndexI K) tO t)) (fm.K j)) (pe_bm PySem.F.plainAttrs_list PySem.F.slot_list_index PySem.F.type_list_index (mt_indexI (room64 fm j)) (pO j) (hp j) (hbase j) (hfew j) hline (hs j) rfl), fun Φ R ρ σ H d ρ' S e Q q => ?_⟩
  obtain ⟨d0, ρ1, e1, e⟩ := Re.of_bind e
  split at e
  · rename_i us
    obtain ⟨ds, ρ2, e2, e⟩ := Re.of_bind e
    obtain ⟨e3, rfl⟩ := Re.of_opt e
    refine iO Φ R ρ σ H _ ρ1 S e1 _ fun v R1 H1 S1 x1 qv => ?_
    obtain ⟨a, xs, rfl, h1, h2⟩ := dq_list.mp qv
    refine ⟨.inl ⟨rfl, xs, .inl (.inl (S1.sub _ _ h1))⟩, hi Φ R1 ρ1 σ H1 ds _ S1 e2 _ fun vs R2 H2 S2 x2 q2 => ?_⟩
    unfold indexI at e3
    split at e3
    · rename_i n
      obtain ⟨ns, f3, f4⟩ := Option.bind_eq_some_iff.mp e3
      obtain ⟨f5, f6⟩ := Option.ite_none_right_eq_some.mp f4
      cases f6
      rw [intsOf_eq f3] at h2
      have hx := h2.ints
      subst hx
      obtain ⟨x, rfl, hx⟩ := dqa1 q2
      exact ⟨a, ns, n, rfl, by rw [dq_int.mp hx], .inl (.inl (S2.sub _ _ (x2 _ _ h1))), f5, q _ R2 H2 S2 (x1.trans x2) (dq_int.mpr rfl)⟩
    · cases e3
  · cases e
end
end Pm

namespace Pm
open PySem PySem.Spec PyProof.Rows L2
/-! tables of sets, of any of five sizes -/
/-- where the walk i -> 5 i + 1 has been, as bits -/
def orb (m : Nat) : Nat → Nat → Nat → Nat
  | 0, _, acc => acc
  | n + 1, x, acc => orb m n ((x * 5 + 1) % (m + 1)) (acc ||| (1 <<< x))
theorem orb_bit (m j : Nat) : ∀ (n a acc : Nat), (orb m n (lcgN m a) acc).testBit j = true → acc.testBit j = true ∨ ∃ b, a ≤ b ∧ b < a + n ∧ lcgN m b = j
  | 0, a, acc, h => .inl h
  | n + 1, a, acc, h => by
    have h' : (orb m n (lcgN m (a + 1)) (acc ||| (1 <<< lcgN m a))).testBit j = true := h
    rcases orb_bit m j n (a + 1) _ h' with h1 | ⟨b, b1, b2, b3⟩
    · rw [Nat.testBit_or, Bool.or_eq_true] at h1
      rcases h1 with h1 | h1
      · exact .inl h1
      · refine .inr ⟨a, Nat.le_refl _, by omega, ?_⟩
        rw [Nat.one_shiftLeft, Nat.testBit_two_pow] at h1
        exact of_decide_eq_true h1
    · exact .inr ⟨b, by omega, by omega, b3⟩
/-- each slot begins a run, soon enough -/
def Full (m : Nat) : Prop := m % 2 = 1 ∧ ∀ (h : Int) (j : Nat), j ≤ m → ∃ n, n ≤ m + 12 ∧ runI m (SetTable.bits h) n = j
theorem full_of {m : Nat} (odd : m % 2 = 1) (c : orb m (m + 1) 0 0 = 2 ^ (m + 1) - 1) (z : lcgN m (m + 1) = 0) : Full m := by
  have all : ∀ j, j ≤ m → ∃ b, b ≤ m ∧ lcgN m b = j := fun j hj => by
    have hb : (orb m (m + 1) (lcgN m 0) 0).testBit j = true := by
      show (orb m (m + 1) 0 0).testBit j = true
      rw [c, Nat.testBit_two_pow_sub_one]
      exact decide_eq_true (by omega)
    rcases orb_bit m j (m + 1) 0 0 hb with h | ⟨b, _, b2, b3⟩
    · rw [Nat.zero_testBit] at h; cases h
    · exact ⟨b, by omega, b3⟩
  have per : ∀ k, lcgN m (m + 1 + k) = lcgN m k := fun k => by
    induction k with
    | zero => exact z
    | succ k ih => exact congrArg (fun x => (x * 5 + 1) % (m + 1)) ih
  refine ⟨odd, fun h j hj => ?_⟩
  obtain ⟨a, ha, ea⟩ := all _ (runI_le m (SetTable.bits h) 12)
  obtain ⟨b, hb, eb⟩ := all j hj
  have fin : ∀ k, k ≤ m → lcgN m (a + k) = j → ∃ n, n ≤ m + 12 ∧ runI m (SetTable.bits h) n = j := fun k hk e =>
    ⟨12 + k, by omega, by rw [runI_tail (bits_lt h), ← ea, lcgN_add]; exact e⟩
  by_cases q : a ≤ b
  · exact fin (b - a) (by omega) (by rw [show a + (b - a) = b by omega]; exact eb)
  · exact fin (b + (m + 1) - a) (by omega) (by rw [show a + (b + (m + 1) - a) = m + 1 + b by omega, per]; exact eb)
theorem full7 : Full 7 := full_of rfl (by decide +kernel) (by decide +kernel)
theorem full31 : Full 31 := full_of rfl (by decide +kernel) (by decide +kernel)
theorem full127 : Full 127 := full_of rfl (by decide +kernel) (by decide +kernel)
theorem full511 : Full 511 := full_of rfl (by decide +kernel) (by decide +kernel)
theorem way_in (m : Nat) (h : Int) (k : Nat) : way m h k ≤ m := by
  have b0 : SetTable.bits h % (m + 1) ≤ m := Nat.le_of_lt_succ (Nat.mod_lt (SetTable.bits h) (Nat.succ_pos m))
  have r := runEnd_bd b0
  have q := nth_in (m := m) k (runAt m (SetTable.bits h % (m + 1)) (SetTable.bits h)) (by unfold runAt; dsimp only; omega)
  unfold way
  omega
/-- a table in which all is found again from the hashes -/
structure Tb (t : SetTable) (hs : List Int) : Prop where
  rise : Ris t.place.toList
  none_ : t.dummies = #[]
  size : t.place.size = hs.length
  full : Full t.mask
  found : ∀ (i : Nat) (h : Int) (j : Nat), hs[i]? = some h → t.place.toList[i]? = some j → ∃ k, way t.mask h k = j ∧ ∀ c, c < k → way t.mask h c ∈ t.place.toList
section
variable {t : SetTable} {hs : List Int}
/-- the way's first empty slot -/
theorem Tb.gap (T : Tb t hs) (room : hs.length ≤ t.mask) (h : Int) : ∃ K, K < 10 * SetTable.turns t.mask ∧ way t.mask h K ∉ t.place.toList ∧ ∀ k, k < K → way t.mask h k ∈ t.place.toList := by
  obtain ⟨j, hj, hn⟩ := st_missing t.place.toList (t.mask + 1) (by rw [Array.length_toList, T.size]; omega)
  obtain ⟨n, hn2, e⟩ := T.full.2 h j (Nat.le_of_lt_succ hj)
  obtain ⟨k, hk, ek⟩ := run_nth t.mask (SetTable.bits h) n
  have at_ : way t.mask h k = j := (congrArg SetTable.Probe.j ek).trans e
  obtain ⟨K, h1, h2, h3⟩ := st_least (p := fun k => way t.mask h k ∉ t.place.toList) k (fun z => hn (by rw [← at_]; exact z))
  exact ⟨K, by unfold SetTable.turns; omega, h2, fun c hc => Classical.not_not.mp (h3 c hc)⟩
/-- what has the hash lies ahead of that -/
theorem Tb.ahead (T : Tb t hs) {h : Int} {K i j : Nat} (hK : way t.mask h K ∉ t.place.toList) (hi : hs[i]? = some h) (hj : t.place.toList[i]? = some j) : ∃ k, k < K ∧ way t.mask h k = j := by
  obtain ⟨k, e, hb⟩ := T.found i h j hi hj
  refine ⟨k, Classical.byContradiction fun hk => ?_, e⟩
  by_cases q : k = K
  · subst q
    exact hK (by rw [e]; exact List.mem_of_getElem? hj)
  · exact hK (hb K (by omega))
/-- one more -/
theorem Tb.more (T : Tb t hs) {h : Int} {K : Nat} (hK : way t.mask h K ∉ t.place.toList) (hb : ∀ k, k < K → way t.mask h k ∈ t.place.toList) {p : Nat} (hp : p = SetTable.below t.place (way t.mask h K)) :
    (t.put (way t.mask h K)).2 = p ∧ p ≤ hs.length ∧ Tb (t.put (way t.mask h K)).1 (hs.take p ++ h :: hs.drop p) ∧ (t.put (way t.mask h K)).1.mask = t.mask ∧ (t.put (way t.mask h K)).1.led = t.led ∧
      (t.put (way t.mask h K)).1.plain = t.plain ∧ (t.put (way t.mask h K)).1.fill = hs.length + 1 := by
  generalize hw : way t.mask h K = w at *
  have pl : (t.put w).1.place.toList = t.place.toList.take p ++ w :: t.place.toList.drop p := by rw [hp]; exact put_place t w
  have b1 : p ≤ t.place.size := by rw [hp]; exact (below_cut T.rise w).1
  have b2 : p ≤ hs.length := by rw [← T.size]; exact b1
  have b3 : p ≤ t.place.toList.length := by rw [Array.length_toList]; exact b1
  have nd := put_dm T.none_ w
  have sz : (t.put w).1.place.size = hs.length + 1 := by rw [← Array.length_toList, pl, len_ins _ b3, Array.length_toList, T.size]
  have stay : ∀ {x}, x ∈ t.place.toList → x ∈ (t.put w).1.place.toList := fun hx => by rw [pl]; exact mem_ins.mpr (.inr hx)
  have old : ∀ {i : Nat} {g : Int} {j : Nat}, hs[i]? = some g → t.place.toList[i]? = some j → ∃ k, way t.mask g k = j ∧ ∀ c, c < k → way t.mask g c ∈ (t.put w).1.place.toList := fun a b => by
    obtain ⟨k, e, z⟩ := T.found _ _ _ a b
    exact ⟨k, e, fun c hc => stay (z c hc)⟩
  refine ⟨hp.symm, b2, ⟨ris_insert T.rise (fun e => hK (List.mem_of_getElem? (by rw [Array.getElem?_toList]; exact e))), nd, by rw [sz, len_ins _ b2], T.full, fun i g j h1 h2 => ?_⟩, rfl, rfl, rfl, ?_⟩
  · rw [tins_get hs b2] at h1
    rw [pl, tins_get _ b3] at h2
    show ∃ k, way t.mask g k = j ∧ ∀ c, c < k → way t.mask g c ∈ (t.put w).1.place.toList
    by_cases c : i < p
    · rw [if_pos c] at h1 h2; exact old h1 h2
    · rw [if_neg c] at h1 h2
      by_cases d : i = p
      · rw [if_pos d] at h1 h2
        cases h1
        cases h2
        exact ⟨K, hw, fun c hc => stay (hb c hc)⟩
      · rw [if_neg d] at h1 h2; exact old h1 h2
  · show (t.put w).1.place.size + (t.put w).1.dummies.size = hs.length + 1
    rw [sz, nd]
    rfl
end
/-! ### all laid anew -/
theorem spot {m : Nat} (F : Full m) (owner : Array (Option Nat)) (h : Int) {j : Nat} (hj : j ≤ m) (free : oAt owner j = none) :
    ∃ K, SetTable.layClean.free m owner (SetTable.turns m) (SetTable.bits h % (m + 1)) (SetTable.bits h) = some (way m h K) ∧ oAt owner (way m h K) = none ∧ ∀ k, k < K → oAt owner (way m h k) ≠ none := by
  obtain ⟨n, hn, e⟩ := F.2 h j hj
  have at_ : way m h (off m (SetTable.bits h % (m + 1)) (SetTable.bits h) n) = j := by
    unfold way
    rw [nth_off, itL_run]
    exact e
  obtain ⟨K, k1, k2, k3⟩ := st_least (p := fun k => oAt owner (way m h k) = none) _ (by rw [at_]; exact free)
  refine ⟨K, free_spec m owner (SetTable.turns m) n _ _ K (by unfold SetTable.turns; omega) k1 (fun k hk => ?_) ?_, k2, k3⟩
  · cases z : oAt owner (nth m (runAt m (SetTable.bits h % (m + 1)) (SetTable.bits h)) k).j with
    | none => exact (k3 k hk z).elim
    | some x => rfl
  · have z : oAt owner (nth m (runAt m (SetTable.bits h % (m + 1)) (SetTable.bits h)) K).j = none := k2
    rw [z]
    rfl
theorem seat {m : Nat} (F : Full m) {done : List Int} {owner : Array (Option Nat)} (W : Own m done owner) (hl : done.length ≤ m) (h : Int) :
    ∃ j, SetTable.layClean.free m owner (SetTable.turns m) (SetTable.bits h % (m + 1)) (SetTable.bits h) = some j ∧ Own m (done ++ [h]) (owner.setIfInBounds j (some done.length)) := by
  obtain ⟨ps, hps, hin⟩ := W.ps
  obtain ⟨j0, h0, hn0⟩ := st_missing ps (m + 1) (by omega)
  obtain ⟨K, e1, e2, e3⟩ := spot F owner h (Nat.le_of_lt_succ h0) (Classical.byContradiction fun z => hn0 (hin j0 (Nat.le_of_lt_succ h0) z))
  generalize hw : way m h K = w at e1 e2
  have hwm : w ≤ m := by rw [← hw]; exact way_in m h K
  have hws : w < owner.size := by rw [W.sz]; omega
  have self := oAt_set_self (some done.length) hws
  have other : ∀ {i}, i ≠ w → oAt (owner.setIfInBounds w (some done.length)) i = oAt owner i := fun hi => oAt_set_ne _ hi
  have grow : ∀ {i}, oAt owner i ≠ none → oAt (owner.setIfInBounds w (some done.length)) i ≠ none := fun {i} hi => by
    by_cases c : i = w
    · rw [c, self]; simp
    · rw [other c]; exact hi
  refine ⟨w, e1, by rw [Array.size_setIfInBounds]; exact W.sz, fun j k hj e => ?_, fun k hk => ?_, w :: ps, by simp [hps], fun j hj e => ?_⟩
  · by_cases c : j = w
    · rw [c, self] at e
      cases e
      exact ⟨h, K, by simp, by rw [hw, c], fun c hc => grow (e3 c hc)⟩
    · rw [other c] at e
      obtain ⟨g, C, a1, a2, a3⟩ := W.at_ j k hj e
      exact ⟨g, C, by rw [List.getElem?_append_left (List.getElem?_eq_some_iff.mp a1).1]; exact a1, a2, fun c hc => grow (a3 c hc)⟩
  · by_cases c : k < done.length
    · obtain ⟨j, hj, e⟩ := W.all k c
      exact ⟨j, hj, by rw [other fun z => by rw [z, e2] at e; cases e]; exact e⟩
    · have : k = done.length := by simp at hk; omega
      exact ⟨w, hwm, by rw [this]; exact self⟩
  · by_cases c : j = w
    · rw [c]; exact List.mem_cons_self
    · rw [other c] at e
      exact List.mem_cons_of_mem _ (hin j hj e)
theorem seats {m : Nat} (F : Full m) : ∀ (rest done : List Int) (owner : Array (Option Nat)), Own m done owner → done.length + rest.length ≤ m →
    ∃ o2, rest.foldl (stepF m) (some (owner, done.length)) = some (o2, (done ++ rest).length) ∧ Own m (done ++ rest) o2
  | [], done, owner, W, _ => ⟨owner, by simp, by simpa using W⟩
  | h :: rest, done, owner, W, hl => by
    simp only [List.length_cons] at hl
    obtain ⟨j, e, W1⟩ := seat F W (by omega) h
    obtain ⟨o2, f, W2⟩ := seats F rest (done ++ [h]) _ W1 (by simp; omega)
    rw [List.append_assoc, List.singleton_append] at f W2
    refine ⟨o2, ?_, W2⟩
    rw [List.foldl_cons, stepF_some e]
    simpa using f
theorem relaid_tb (t : SetTable) {hs : Array Int} {wanted M : Nat} (hw : SetTable.sizeAbove wanted - 1 = M) (F : Full M) (hn : hs.size ≤ M) :
    ∃ t2 order, t.relaid hs wanted = some (t2, order) ∧ order.toList.Perm (List.range hs.size) ∧ Tb t2 (order.toList.map fun i => hs.getD i 0) ∧ t2.mask = M ∧ t2.led = t.led ∧ t2.plain = t.plain := by
  obtain ⟨owner, f, W⟩ := seats F hs.toList [] _ (Own.init M) (by simpa using hn)
  rw [List.nil_append] at W f
  have clean : SetTable.layClean M hs = some owner := by
    rw [layClean_eq]
    have f' : hs.toList.foldl (stepF M) (some (Array.replicate (M + 1) none, 0)) = some (owner, hs.toList.length) := f
    rw [f']
    rfl
  have made : t.relaid hs wanted = some (tabOf t M owner, ((liveOf M owner).map (·.2)).toArray) := by rw [relaid_eq, hw, clean]; rfl
  have ris := ris_live (fun j => owner.getD j none) (List.range (M + 1)) (by unfold Ris; first | exact List.pairwise_lt_range | exact List.pairwise_lt_range _)
  have rs : Ris ((liveOf M owner).map (·.1)) := ris.1
  have cnt : (liveOf M owner).length = hs.size := by
    obtain ⟨ps, p1, p2⟩ := W.ps
    have nd : ((liveOf M owner).map (·.1)).Nodup := List.Pairwise.imp (fun h => Nat.ne_of_lt h) (show ((liveOf M owner).map (·.1)).Pairwise (· < ·) from rs)
    have a := nat_nodup_len ((liveOf M owner).map (·.1)) ps nd fun x hx => by
      obtain ⟨⟨y, k⟩, hq, rfl⟩ := List.mem_map.mp hx
      obtain ⟨b1, b2⟩ := (mem_live W.sz).1 hq
      exact p2 y b1 (by rw [b2]; simp)
    have b := nat_nodup_len (List.range hs.size) ((liveOf M owner).map (·.2)) List.nodup_range fun k hk => by
      obtain ⟨j, b1, b2⟩ := W.all k (by rw [Array.length_toList]; exact List.mem_range.mp hk)
      exact List.mem_map.mpr ⟨(j, k), (mem_live W.sz).2 ⟨b1, b2⟩, rfl⟩
    simp at a b p1
    omega
  refine ⟨tabOf t M owner, ((liveOf M owner).map (·.2)).toArray, made, ?_, ⟨rs, rfl, by simp [tabOf], F, fun i h j h1 h2 => ?_⟩, rfl, rfl, rfl⟩
  · refine perm_range hs.size _ (by simpa using cnt) fun k hk => ?_
    obtain ⟨j, b1, b2⟩ := W.all k (by rw [Array.length_toList]; exact hk)
    exact List.mem_map.mpr ⟨(j, k), (mem_live W.sz).2 ⟨b1, b2⟩, rfl⟩
  · have h1' : (((liveOf M owner).map (·.2)).map fun i => hs.getD i 0)[i]? = some h := h1
    have h2' : ((liveOf M owner).map (·.1))[i]? = some j := h2
    rw [List.getElem?_map] at h2'
    rw [List.map_map, List.getElem?_map] at h1'
    obtain ⟨⟨y, k⟩, hq, rfl⟩ := Option.map_eq_some_iff.mp h2'
    rw [hq] at h1'
    have eh : hs.getD k 0 = h := Option.some.inj h1'
    obtain ⟨b1, b2⟩ := (mem_live W.sz).1 (List.mem_of_getElem? hq)
    obtain ⟨g, K, a1, a2, a3⟩ := W.at_ y k b1 b2
    have e0 : hs.getD k 0 = g := by rw [Array.getD_eq_getD_getElem?, ← Array.getElem?_toList, a1]; rfl
    rw [← eh, e0]
    refine ⟨K, a2, fun c hc => ?_⟩
    show way M g c ∈ (liveOf M owner).map (·.1)
    cases z : oAt owner (way M g c) with
    | none => exact (a3 c hc z).elim
    | some x => exact List.mem_map.mpr ⟨(way M g c, x), (mem_live W.sz).2 ⟨way_in M g c, z⟩, rfl⟩
end Pm

namespace Pm
open PySem PySem.Spec PyProof.Rows L2
/-! sets of nested tuples of ints -/
abbrev NK := NestedKey
mutual
/-- numbers and tuples alone -/
def numO : NK → Bool
  | .num _ => true
  | .tup ks => numOs ks
  | _ => false
def numOs : List NK → Bool
  | [] => true
  | k :: ks => numO k && numOs ks
end
section
variable {P : Program} {w : World}
def ClsAt (P : Program) (w : World) (n : Nat) (s : Shared) (v : Value) : Prop := ∀ (A : Around) (E : Value → Shared → Prop) (Q : Bool → Shared → Prop), Q false s → wpAny (model P w) A (ofAClassStatement n v) Q E s
def ByvAt (P : Program) (w : World) (n : Nat) (s : Shared) (v : Value) : Prop := ∀ (A : Around) (E : Value → Shared → Prop) (Q : Bool → Shared → Prop), Q true s → wpAny (model P w) A (hashByValue n v) Q E s
theorem ClsAt.tup {n : Nat} {s : Shared} {a : Addr} {o : Obj} {vs : Array Value} {m : Nat} (ho : s.heap.get? a = some o) (hc : o.cls = .type "tuple") (hd : o.data = .seq vs m) (hq : ∀ v ∈ vs.toList, ClsAt P w n s v) : ClsAt P w (n + 1) s (.ref a) := fun A E Q h => by
  have hT : s.TypeIs (.ref a) "tuple" := ⟨o, ho, hc⟩
  unfold ofAClassStatement
  refine wpAny_bind (wpAny_typeOf hT ?_)
  dsimp only
  simp only [show (("tuple" : String) == "tuple") = true by decide, if_true]
  try refine wpAny_bind (wpAny_pure ?_)
  try simp only [Bool.not_true, Bool.false_eq_true, if_false]
  show wpAny _ _ (seqItems? (.ref a) >>= _) _ _ s
  refine wpAny_bind (wpAny_seqItems ho hd (wpAny_bind ?_))
  show wpAny _ _ (forIn vs _ _) _ _ s
  rw [← Array.forIn_toList]
  refine wpAny_forIn_list _ (fun rest r t => r.1 = none ∧ t = s ∧ ∀ v ∈ rest, ClsAt P w n s v) _ ?_ ?_ _ _ ⟨rfl, rfl, hq⟩
  · rintro v rest r t ⟨hr, rfl, hall⟩
    refine wpAny_bind (hall v List.mem_cons_self _ _ _ ?_)
    simp only [Bool.false_eq_true, if_false]
    exact wpAny_pure ⟨rfl, rfl, fun u hu => hall u (List.mem_cons_of_mem _ hu)⟩
  · rintro ⟨r1, r2⟩ t ⟨hr, rfl, _⟩
    simp only at hr
    subst hr
    exact wpAny_pure h
theorem ByvAt.tup {n : Nat} {s : Shared} {a : Addr} {o : Obj} {vs : Array Value} {m : Nat} (ho : s.heap.get? a = some o) (hc : o.cls = .type "tuple") (hd : o.data = .seq vs m) (hq : ∀ v ∈ vs.toList, ByvAt P w n s v) : ByvAt P w (n + 1) s (.ref a) := fun A E Q h => by
  have hT : s.TypeIs (.ref a) "tuple" := ⟨o, ho, hc⟩
  unfold hashByValue
  refine wpAny_bind (wpAny_specialOf hT F.slot_tuple_hash.lookup ?_)
  show wpAny _ _ (seqItems? (.ref a) >>= _) _ _ s
  refine wpAny_bind (wpAny_seqItems ho hd (wpAny_bind ?_))
  show wpAny _ _ (forIn vs _ _) _ _ s
  rw [← Array.forIn_toList]
  refine wpAny_forIn_list _ (fun rest r t => r.1 = none ∧ t = s ∧ ∀ v ∈ rest, ByvAt P w n s v) _ ?_ ?_ _ _ ⟨rfl, rfl, hq⟩
  · rintro v rest r t ⟨hr, rfl, hall⟩
    refine wpAny_bind (hall v List.mem_cons_self _ _ _ ?_)
    simp only [Bool.not_true, Bool.false_eq_true, if_false]
    exact wpAny_pure ⟨rfl, rfl, fun u hu => hall u (List.mem_cons_of_mem _ hu)⟩
  · rintro ⟨r1, r2⟩ t ⟨hr, rfl, _⟩
    simp only at hr
    subst hr
    exact wpAny_pure h
mutual
theorem cls_key : ∀ (k : NK) (v : Value) (n : Nat) (s : Shared), NestedIs s.heap k v → k.depth ≤ n → ClsAt P w n s v
  | .none, _, n, s, x, _ => by cases x; exact fun A E Q h => by cases n <;> exact wpAny_pure h
  | .num i, _, n, s, x, _ => by cases x <;> exact fun A E Q h => by cases n <;> exact wpAny_pure h
  | .text y, _, n, s, x, _ => by cases x; exact fun A E Q h => by cases n <;> exact wpAny_pure h
  | .tup ks, _, n, s, x, hn => by
    cases x with
    | tup hg hc hd hk =>
      simp only [NestedKey.depth] at hn
      cases n with
      | zero => omega
      | succ n => exact .tup hg hc hd (cls_keys ks _ n s hk (by omega))
theorem cls_keys : ∀ (ks : List NK) (vs : List Value) (n : Nat) (s : Shared), NestedAll s.heap ks vs → NestedKey.depthAll ks ≤ n → ∀ v ∈ vs, ClsAt P w n s v
  | [], _, n, s, x, _, v, hv => by cases x; cases hv
  | k :: ks, _, n, s, x, hn, v, hv => by
    cases x with
    | cons x1 x2 =>
      simp only [NestedKey.depthAll] at hn
      rcases List.mem_cons.mp hv with e | hv
      · rw [e]; exact cls_key k _ n s x1 (by omega)
      · exact cls_keys ks _ n s x2 (by omega) v hv
end
mutual
theorem byv_key : ∀ (k : NK) (v : Value) (n : Nat) (s : Shared), NestedIs s.heap k v → k.depth ≤ n → numO k = true → ByvAt P w n s v
  | .none, _, n, s, x, _, z => by simp [numO] at z
  | .num i, _, n, s, x, _, _ => by cases x <;> exact fun A E Q h => by cases n <;> exact wpAny_pure h
  | .text y, _, n, s, x, _, z => by simp [numO] at z
  | .tup ks, _, n, s, x, hn, z => by
    rw [numO] at z
    cases x with
    | tup hg hc hd hk =>
      simp only [NestedKey.depth] at hn
      cases n with
      | zero => omega
      | succ n => exact .tup hg hc hd (byv_keys ks _ n s hk (by omega) z)
theorem byv_keys : ∀ (ks : List NK) (vs : List Value) (n : Nat) (s : Shared), NestedAll s.heap ks vs → NestedKey.depthAll ks ≤ n → numOs ks = true → ∀ v ∈ vs, ByvAt P w n s v
  | [], _, n, s, x, _, _, v, hv => by cases x; cases hv
  | k :: ks, _, n, s, x, hn, z, v, hv => by
    rw [numOs, Bool.and_eq_true] at z
    cases x with
    | cons x1 x2 =>
      simp only [NestedKey.depthAll] at hn
      rcases List.mem_cons.mp hv with e | hv
      · rw [e]; exact byv_key k _ n s x1 (by omega) z.1
      · exact byv_keys ks _ n s x2 (by omega) z.2 v hv
end
/-- the tuple at a is such a key -/
abbrev IsN (P : Program) (w : World) (h : Heap) (k : NK) (a : Addr) : Prop := (nestedKind P w).is h k a ∧ numO k = true
theorem IsN.keep {h h' : Heap} {k : NK} {a : Addr} (x : IsN P w h k a) (hk : ∀ b o vs n, h.get? b = some o → o.data = .seq vs n → h'.get? b = some o) : IsN P w h' k a := ⟨nestedKind_stays.stays hk x.1, x.2⟩
theorem IsN.but {h h' : Heap} {k : NK} {a b : Addr} {o : Obj} {es : Array (Int × Value)} {ep : Nat} {t : SetTable} (x : IsN P w h k a) (ho : h.get? b = some o) (hd : o.data = .set es ep t) (sb : Heap.SameBut b h h') : IsN P w h' k a :=
  x.keep fun c u vs n hc hs => (sb.2 c fun e => by
    subst e
    rw [ho] at hc
    cases hc
    rw [hd] at hs
    cases hs).trans hc
variable {A : Around} {E : Value → Shared → Prop} {s : Shared}
theorem seen_n {k : NK} {b : Addr} {Q : Bool → Shared → Prop} (hk : IsN P w s.heap k b) {ys : List Value} (hy : ∀ y ∈ ys, ∃ k' c, y = Value.ref c ∧ IsN P w s.heap k' c) (h : Q false s) : wpAny (model P w) A (searchCouldBeSeen (.ref b) ys) Q E s := by
  unfold searchCouldBeSeen
  refine wpAny_bind (wpAny_forIn_list _ (fun rest r t => r.1 = none ∧ t = s ∧ ∀ y ∈ rest, ∃ k' c, y = Value.ref c ∧ IsN P w s.heap k' c) _ ?_ ?_ _ _ ⟨rfl, rfl, hy⟩)
  · rintro v rest r t ⟨hr, rfl, hall⟩
    obtain ⟨k', c, rfl, hc⟩ := hall v List.mem_cons_self
    have tl : ∀ y ∈ rest, ∃ k' c, y = Value.ref c ∧ IsN P w t.heap k' c := fun u hu => hall u (List.mem_cons_of_mem _ hu)
    dsimp only
    by_cases hv : (b == c || (carriedByValue (.ref b) && carriedByValue (.ref c))) = true
    · exact wp_if_pos hv (wpAny_pure ⟨rfl, rfl, tl⟩)
    · refine wp_if_neg hv (wpAny_bind ((nestedKind P w).quiet hk.1 ?_))
      simp only [Bool.not_true, Bool.false_eq_true, if_false]
      refine wpAny_bind ((nestedKind P w).quiet hc.1 ?_)
      simp only [Bool.not_true, Bool.false_eq_true, if_false]
      refine wpAny_bind (cls_key _ _ 8 _ hk.1.1 hk.1.2 _ _ _ ?_)
      simp only [Bool.false_eq_true, if_false]
      refine wpAny_bind (cls_key _ _ 8 _ hc.1.1 hc.1.2 _ _ _ ?_)
      simp only [Bool.false_eq_true, if_false]
      exact wpAny_pure ⟨rfl, rfl, tl⟩
  · rintro ⟨r1, r2⟩ t ⟨hr, rfl, _⟩
    simp only at hr
    subst hr
    exact wpAny_pure h
/-! ### the set -/
abbrev NL := List (Addr × NK)
def nrows (w : World) (L : NL) : List (Int × Value) := L.map fun p => (p.2.hash w, Value.ref p.1)
structure SetN (P : Program) (w : World) (h : Heap) (a : Addr) (L : NL) (es : Array (Int × Value)) (ep : Nat) (t : SetTable) : Prop where
  ob : ∃ o, h.get? a = some o ∧ o.ExactSet ∧ o.data = .set es ep t
  rows : es.toList = nrows w L
  tab : Tb t (L.map fun p => p.2.hash w)
  nd : (L.map (·.2)).Nodup
  keys : ∀ p ∈ L, IsN P w h p.2 p.1
  plain : t.plain = true
  led : w.params.followText "set-order" = true ∨ t.led = true
  room : L.length * 5 < t.mask * 3
  few : L.length < 300
  msk : t.mask = 7 ∨ t.mask = 31 ∨ t.mask = 127 ∨ t.mask = 511
variable {a : Addr} {L : NL} {es : Array (Int × Value)} {ep : Nat} {t : SetTable}
theorem rows_size (h : es.toList = nrows w L) : es.size = L.length := by
  have := congrArg List.length h
  simpa [nrows] using this
theorem SetN.fits (R : SetN P w s.heap a L es ep t) : t.fits es.size = true := by
  have h1 := R.tab.size
  have h2 := rows_size R.rows
  have h3 := R.room
  simp only [List.length_map] at h1
  unfold SetTable.fits SetTable.fill
  rw [R.tab.none_, Bool.and_eq_true, beq_iff_eq, decide_eq_true_eq]
  show t.place.size = es.size ∧ t.place.size + 0 ≤ t.mask
  omega
theorem SetN.entry (R : SetN P w s.heap a L es ep t) {i : Nat} {p : Addr × NK} (h : L[i]? = some p) : es[i]? = some (p.2.hash w, Value.ref p.1) := by
  rw [← Array.getElem?_toList, R.rows]
  simp [nrows, h]
theorem gave {t : SetTable} {hs : List Int} (T : Tb t hs) : ¬ t.gaveWay = true := by
  unfold SetTable.gaveWay
  rw [T.full.1]
  decide
/-- the c-th state of the way -/
def ws (m : Nat) (h : Int) (c : Nat) : SetTable.Probe := nth m (runAt m (SetTable.bits h % (m + 1)) (SetTable.bits h)) c
theorem ws_add (m : Nat) (h : Int) (c q : Nat) : nth m (ws m h c) q = ws m h (c + q) := (nth_add m c _ q).symm
theorem ws_j (m : Nat) (h : Int) (c : Nat) : (ws m h c).j = way m h c := rfl
theorem ws_dummy (m : Nat) (h : Int) (c : Nat) : (ws m h c).dummy = none := by
  have key : ∀ (n : Nat) (p : SetTable.Probe), p.dummy = none → (nth m p n).dummy = none := fun n => by
    induction n with
    | zero => exact fun p h => h
    | succ n ih => exact fun p h => ih _ (by unfold adv; split <;> exact h)
  exact key c _ rfl
theorem find_n (R : SetN P w s.heap a L es ep t) {x : Addr} {k : NK} (hx : IsN P w s.heap k x) (hu : A.units + 8 < cLine) {K : Nat} (big : K < 10 * SetTable.turns t.mask)
    (gap : way t.mask (k.hash w) K ∉ t.place.toList) (occ : ∀ c, c < K → way t.mask (k.hash w) c ∈ t.place.toList) {Q : SetFound → Shared → Prop}
    (hin : k ∈ L.map (·.2) → Q (.there none) s) (hout : k ∉ L.map (·.2) → Q (.free (way t.mask (k.hash w) K) false) s) :
    ∀ (f c : Nat) (stand : Option SetTable.Probe), stand.getD (t.probeStart (k.hash w)) = ws t.mask (k.hash w) c → c ≤ K → K - c < f →
      (∀ (i : Nat) p, L[i]? = some p → p.2 = k → ∃ c', c ≤ c' ∧ c' < K ∧ t.place.toList[i]? = some (way t.mask (k.hash w) c')) →
      wpAny (model P w) A (setSearchFrom a (.ref x) (k.hash w) true f stand) Q E s
  | 0, c, _, _, _, hf, _ => absurd hf (Nat.not_lt_zero _)
  | f + 1, c, stand, hst, hc, hf, hre => by
    obtain ⟨o, ho, hex, hd⟩ := R.ob
    rw [setSearchFrom_succ]
    refine wpAny_bind (wpAny_setState_of ho hd R.fits ?_)
    dsimp only
    refine wp_if_neg (gave R.tab) ?_
    try refine wpAny_bind (wpAny_pure ?_)
    have spec := go_spec t R.tab.rise R.tab.none_ (fun i => (es[i]?.map (·.1)).getD 0) (k.hash w) (10 * SetTable.turns t.mask) (K - c) (ws t.mask (k.hash w) c) (ws_dummy _ _ _) (by omega)
      (fun q hq => by rw [ws_add]; exact occ (c + q) (by omega)) (by rw [ws_add, show c + (K - c) = K by omega]; exact gap)
    have hashAt : ∀ (i : Nat) p, L[i]? = some p → (fun i => (es[i]?.map (·.1)).getD 0) i = p.2.hash w := fun i p hp => by
      show (es[i]?.map (·.1)).getD 0 = _
      rw [R.entry hp]
      rfl
    -- none of equal key was passed
    have kept : ∀ q, (∀ k' i' : Nat, k' < q → t.place.toList[i']? = some (nth t.mask (ws t.mask (k.hash w) c) k').j → (fun i : Nat => (es[i]?.map (·.1)).getD 0) i' ≠ k.hash w) → ∀ (i : Nat) p, L[i]? = some p → p.2 = k → ∃ c', c + q ≤ c' ∧ c' < K ∧ t.place.toList[i]? = some (way t.mask (k.hash w) c') := fun q hno i p hp hk => by
      obtain ⟨c', a1, a2, a3⟩ := hre i p hp hk
      refine ⟨c', Classical.byContradiction fun z => hno (c' - c) i (by omega) ?_ ((hashAt i p hp).trans (congrArg (fun k => NestedKey.hash w k) hk)), a2, a3⟩
      rw [ws_add, show c + (c' - c) = c' by omega]
      exact a3
    rcases spec with ⟨q, i, hq, hi, hh, hno, hpr⟩ | ⟨hno, hpr⟩
    · rw [ws_add] at hi
      have hpr2 : t.probe (fun i => (es[i]?.map (·.1)).getD 0) (k.hash w) (stand.getD (t.probeStart (k.hash w))) = some (.candidate (way t.mask (k.hash w) (c + q)) i (ws t.mask (k.hash w) (c + (q + 1)))) := by
        rw [hst]
        refine Eq.trans hpr ?_
        rw [ws_add, ws_add]
        rfl
      rw [hpr2]
      dsimp only
      have hil : i < L.length := by
        have h1 : i < t.place.toList.length := (List.getElem?_eq_some_iff.mp hi).1
        have h2 := R.tab.size
        simp only [List.length_map] at h2
        rw [Array.length_toList] at h1
        omega
      obtain ⟨p, hp⟩ : ∃ p, L[i]? = some p := ⟨_, List.getElem?_eq_getElem hil⟩
      have hm : p ∈ L := List.mem_of_getElem? hp
      have tail : wpAny (model P w) A (searchRest a (.ref x) (k.hash w) true f es t (way t.mask (k.hash w) (c + q)) i (ws t.mask (k.hash w) (c + (q + 1)))) Q E s := by
        unfold searchRest
        rw [R.entry hp]
        dsimp only
        refine wpAny_bind (wpAny_holding ((nestedKind P w).eqBool hu (R.keys p hm).1 hx.1 (wpAny_bind (wpAny_setState_of ho hd R.fits ?_))))
        dsimp only
        by_cases e : p.2 = k
        · exact wp_if_pos (by simp [e]) (wpAny_pure (hin (List.mem_map.mpr ⟨p, hm, e⟩)))
        · refine wp_if_neg (by simp [e]) ?_
          try refine wpAny_bind (wpAny_pure ?_)
          rw [sameMem]
          dsimp only
          have hsl : t.slot (way t.mask (k.hash w) (c + q)) = .live i := slot_live R.tab.rise hi
          simp only [if_true, hsl, R.entry hp]
          refine wpAny_bind (wpAny_isSame_ref_self (wpAny_bind (wpAny_pure ?_)))
          simp only [if_true]
          refine wp_if_neg (by simp [e]) (find_n R hx hu big gap occ hin hout f (c + (q + 1)) _ rfl (by omega) (by omega) fun i0 p0 h0 e0 => ?_)
          obtain ⟨c', a1, a2, a3⟩ := kept q hno i0 p0 h0 e0
          refine ⟨c', Classical.byContradiction fun z => ?_, a2, a3⟩
          have : c' = c + q := by omega
          rw [this] at a3
          have s0 := slot_live R.tab.rise a3
          rw [hsl] at s0
          injection s0 with s0
          rw [← s0, hp] at h0
          exact e ((congrArg Prod.snd (Option.some.inj h0)).trans e0)
      by_cases hl : t.led = true
      · refine wp_if_neg (by simp [hl]) ?_
        try refine wpAny_bind (wpAny_pure ?_)
        exact tail
      · refine wp_if_pos (by simp [hl]) (wpAny_bind (seen_n hx (fun y hy => ?_) ?_))
        · obtain ⟨e, he, ee⟩ := List.mem_map.mp hy
          have he1 : e ∈ es.toList := by simpa using (Array.mem_filter.mp (Array.mem_toList_iff.mp he)).1
          rw [R.rows] at he1
          obtain ⟨p2, hp2, e2⟩ := List.mem_map.mp he1
          exact ⟨p2.2, p2.1, by rw [← ee, ← e2], R.keys p2 hp2⟩
        · refine wp_if_neg (by decide) ?_
          try refine wpAny_bind (wpAny_pure ?_)
          exact tail
    · have hpr2 : t.probe (fun i => (es[i]?.map (·.1)).getD 0) (k.hash w) (stand.getD (t.probeStart (k.hash w))) = some (.empty (way t.mask (k.hash w) K) none) := by
        rw [hst]
        refine Eq.trans hpr ?_
        rw [ws_add, show c + (K - c) = K by omega]
        rfl
      rw [hpr2]
      dsimp only
      refine wpAny_pure (hout fun hm => ?_)
      obtain ⟨p0, h0, e0⟩ := List.mem_map.mp hm
      obtain ⟨i0, hi0, ei⟩ := List.getElem_of_mem h0
      have h00 : L[i0]? = some p0 := by rw [List.getElem?_eq_getElem hi0, ei]
      obtain ⟨c', a1, a2, a3⟩ := kept (K - c) hno i0 p0 h00 e0
      omega
theorem search_n (R : SetN P w s.heap a L es ep t) {x : Addr} {k : NK} (hx : IsN P w s.heap k x) (hu : A.units + 8 < cLine) {Q : SetFound → Shared → Prop} (hin : k ∈ L.map (·.2) → Q (.there none) s)
    (hout : ∀ K, k ∉ L.map (·.2) → way t.mask (k.hash w) K ∉ t.place.toList → (∀ c, c < K → way t.mask (k.hash w) c ∈ t.place.toList) → Q (.free (way t.mask (k.hash w) K) false) s) :
    wpAny (model P w) A (setSearch a (.ref x) (k.hash w) true) Q E s := by
  have hroom := R.room
  have hmask : t.mask ≤ 511 := by rcases R.msk with e | e | e | e <;> omega
  obtain ⟨K, big, gap, occ⟩ := R.tab.gap (by rw [List.length_map]; omega) (k.hash w)
  unfold setSearch
  refine find_n R hx hu big gap occ hin (fun hn => hout K hn gap occ) 100000 0 none rfl (Nat.zero_le _) (by unfold SetTable.turns at big; omega) fun i p hp hk => ?_
  have hi : (L.map fun p => p.2.hash w)[i]? = some (k.hash w) := by rw [List.getElem?_map, hp, ← hk]; rfl
  have hil : i < t.place.toList.length := by
    have h1 : i < L.length := (List.getElem?_eq_some_iff.mp hp).1
    have h2 := R.tab.size
    simp only [List.length_map] at h2
    rw [Array.length_toList]
    omega
  obtain ⟨c, hc, e⟩ := R.tab.ahead gap hi (List.getElem?_eq_getElem hil)
  exact ⟨c, Nat.zero_le _, hc, by rw [List.getElem?_eq_getElem hil, e]⟩
end
end Pm

namespace Pm
open PySem PySem.Spec PyProof.Rows L2
/-! sets of nested tuples: adding, set(list) -/
theorem size_32 : SetTable.sizeAbove (SetTable.grown 5) = 32 := by decide +kernel
theorem size_128 : SetTable.sizeAbove (SetTable.grown 19) = 128 := by decide +kernel
theorem size_512 : SetTable.sizeAbove (SetTable.grown 77) = 512 := by decide +kernel
section
variable {P : Program} {w : World}
/-- the rows in another order -/
theorem ordered (L : NL) (es : Array (Int × Value)) (order : Array Nat) (hr : es.toList = nrows w L) (hp : order.toList.Perm (List.range L.length)) :
    ∃ L2 : NL, (order.filterMap (es[·]?)).toList = nrows w L2 ∧ L2.Perm L ∧ (L2.map fun p => p.2.hash w) = order.toList.map fun i => (es.map (·.1)).getD i 0 := by
  have hsz := rows_size hr
  have ent : ∀ (i : Nat) (p : Addr × NK), L[i]? = some p → es[i]? = some (p.2.hash w, Value.ref p.1) := fun i p h => by
    rw [← Array.getElem?_toList, hr]
    simp [nrows, h]
  have go : ∀ l : List Nat, (∀ i ∈ l, i < L.length) → l.filterMap (fun i => es[i]?) = nrows w (l.filterMap fun i => L[i]?) ∧ ((l.filterMap fun i => L[i]?).map fun p => p.2.hash w) = l.map fun i => (es.map (·.1)).getD i 0 := by
    intro l
    induction l with
    | nil => exact fun _ => ⟨rfl, rfl⟩
    | cons i l ih =>
      intro h
      obtain ⟨e1, e2⟩ := ih fun j hj => h j (List.mem_cons_of_mem _ hj)
      have hi : L[i]? = some (L[i]'(h i List.mem_cons_self)) := List.getElem?_eq_getElem (h i List.mem_cons_self)
      have hE := ent i _ hi
      rw [List.filterMap_cons_some hE, List.filterMap_cons_some hi, e1, List.map_cons, List.map_cons, e2]
      refine ⟨rfl, ?_⟩
      congr 1
      rw [Array.getD_eq_getD_getElem?, Array.getElem?_map, hE]
      rfl
  obtain ⟨e1, e2⟩ := go order.toList fun i hi => List.mem_range.mp (hp.mem_iff.mp hi)
  refine ⟨_, by rw [Array.toList_filterMap]; exact e1, ?_, e2⟩
  have h1 := hp.filterMap fun i => L[i]?
  have h2 : (List.range L.length).filterMap (fun i => L[i]?) = L := by
    have h3 : ∀ n, n ≤ L.length → (List.range n).filterMap (fun i => L[i]?) = L.take n := fun n => by
      induction n with
      | zero => exact fun _ => rfl
      | succ n ih =>
        intro hn
        have hl : L[n]? = some L[n] := List.getElem?_eq_getElem hn
        rw [List.range_succ, List.filterMap_append, ih (by omega), List.filterMap_cons_some hl, List.take_succ, hl]
        rfl
    rw [h3 _ (Nat.le_refl _), List.take_length]
  rw [h2] at h1
  exact h1
variable {A : Around} {E : Value → Shared → Prop} {s : Shared} {a : Addr} {L : NL} {es : Array (Int × Value)} {ep : Nat} {t : SetTable}
/-- the table is made larger -/
theorem relay_n {o : Obj} (ho : s.heap.get? a = some o) (hex : o.ExactSet) (hd : o.data = .set es ep t) (hrows : es.toList = nrows w L) (T : Tb t (L.map fun p => p.2.hash w)) (hfl : L.length ≤ t.mask)
    (nd : (L.map (·.2)).Nodup) (keys : ∀ p ∈ L, IsN P w s.heap p.2 p.1) (pl : t.plain = true) (ld : w.params.followText "set-order" = true ∨ t.led = true) (few : L.length < 300) {wanted M : Nat}
    (hw : SetTable.sizeAbove wanted = M + 1) (F : Full M) (hM : M = 7 ∨ M = 31 ∨ M = 127 ∨ M = 511) (hn : L.length * 5 < M * 3) {Q : Unit → Shared → Prop}
    (hQ : ∀ h' L' es' ep' t', Heap.SameBut a s.heap h' → SetN P w h' a L' es' ep' t' → L'.Perm L → Q () { s with heap := h' }) : wpAny (model P w) A (setRelay a wanted) Q E s := by
  have hsl := rows_size hrows
  have htz : t.place.size = L.length := by rw [T.size, List.length_map]
  have fits : t.fits es.size = true := by
    unfold SetTable.fits SetTable.fill
    rw [T.none_, Bool.and_eq_true, beq_iff_eq, decide_eq_true_eq]
    show t.place.size = es.size ∧ t.place.size + 0 ≤ t.mask
    omega
  obtain ⟨t2, order, e, hp, T2, em, el, epl⟩ := relaid_tb t (hs := es.map (·.1)) (wanted := wanted) (M := M) (by omega) F (by rw [Array.size_map, hsl]; omega)
  rw [Array.size_map, hsl] at hp
  obtain ⟨L2, r1, r2, r3⟩ := ordered L es order hrows hp
  rw [← r3] at T2
  have hs2 : (order.filterMap (es[·]?)).size = es.size := by rw [rows_size r1, r2.length_eq, hsl]
  rw [setRelay_eq]
  refine wpAny_bind (wpAny_setState_of ho hd fits ?_)
  dsimp only
  refine wp_if_neg (by rw [sizeLine_eq]; rcases hM with z | z | z | z <;> omega) ?_
  try refine wpAny_bind (wpAny_pure ?_)
  rw [e]
  dsimp only
  refine wpAny_bind (wp_if_neg (by rw [hs2]; simp) ?_)
  try refine wpAny_bind (wpAny_pure ?_)
  refine wpAny_pure ?_
  dsimp only
  refine wpAny_storeSet_of ho hd ?_ (by rw [hs2, hsl, sizeLine_eq]; omega)
  have sb : Heap.SameBut a s.heap (s.heap.update a (Obj.putSet (order.filterMap (es[·]?)) t2)) := Heap.SameBut.update ..
  refine hQ _ L2 (order.filterMap (es[·]?)) (ep + 1) t2 sb ⟨⟨_, store_at ho hd, ⟨hex.1, hex.2.1, hex.2.2⟩, rfl⟩, r1, T2, (r2.map (·.2)).nodup_iff.mpr nd, fun p hpm => (keys p (r2.mem_iff.mp hpm)).but ho hd sb, by rw [epl]; exact pl, by rw [el]; exact ld, by rw [r2.length_eq, em]; exact hn, by rw [r2.length_eq]; exact few, by rw [em]; exact hM⟩ r2
/-- a key is added -/
theorem add_n (R : SetN P w s.heap a L es ep t) {x : Addr} {k : NK} (hx : IsN P w s.heap k x) (hu : A.units + 8 < cLine) (hfew : L.length + 1 < 300) {Q : Bool → Shared → Prop}
    (hQ : ∀ b h' L' es' ep' t', Heap.SameBut a s.heap h' → SetN P w h' a L' es' ep' t' → (k ∈ L.map (·.2) → L' = L) → (k ∉ L.map (·.2) → L'.Perm ((x, k) :: L)) → Q b { s with heap := h' }) :
    wpAny (model P w) A (setAddHashed a (.ref x) (k.hash w)) Q E s := by
  obtain ⟨o, ho, hex, hd⟩ := R.ob
  have hsl := rows_size R.rows
  have hroom := R.room
  unfold setAddHashed
  refine wpAny_holding ?_
  rw [show (100000 : Nat) = 99999 + 1 from rfl, setAddHashedIn_succ]
  refine wpAny_bind (wpAny_setState_of ho hd R.fits ?_)
  dsimp only
  refine wp_if_neg (by simp [byScan, Value.scannable]) ?_
  try refine wpAny_bind (wpAny_pure ?_)
  refine wpAny_bind (search_n R hx hu (fun hm => ?_) fun K hm gap occ => ?_)
  · dsimp only
    exact wpAny_pure (hQ false s.heap L es ep t (Heap.SameBut.refl a s.heap) R (fun _ => rfl) fun z => absurd hm z)
  dsimp only
  refine wpAny_bind (wpAny_setState_of ho hd R.fits ?_)
  dsimp only
  obtain ⟨p, hpe⟩ : ∃ p, p = SetTable.below t.place (way t.mask (k.hash w) K) := ⟨_, rfl⟩
  obtain ⟨q1, q2, q3, q4, q5, q6, q9⟩ := R.tab.more gap occ hpe
  have hp1 : (t.put (way t.mask (k.hash w) K)).1.plain = true := by rw [q6]; exact R.plain
  generalize hpt : t.put (way t.mask (k.hash w) K) = pt at q1 q3 q4 q5 q6 q9 hp1 ⊢
  obtain ⟨t1, p'⟩ := pt
  dsimp only at q1 q3 q4 q5 q6 q9 hp1 ⊢
  subst q1
  first
    | (refine wpAny_bind ?_; refine wp_if_pos hp1 (byv_key _ _ 8 _ hx.1.1 hx.1.2 hx.2 _ _ _ ?_))
    | refine wp_if_pos hp1 (wpAny_bind (byv_key _ _ 8 _ hx.1.1 hx.1.2 hx.2 _ _ _ ?_))
  simp only [if_true]
  have hin : (SetTable.insertAt es p' (k.hash w, Value.ref x)).toList = nrows w (L.take p' ++ (x, k) :: L.drop p') := by
    rw [SetTable.toList_insertAt, R.rows]
    simp [nrows]
  have pm := put_perm L p' (x, k)
  have hlen : (L.take p' ++ (x, k) :: L.drop p').length = L.length + 1 := pm.length_eq
  have hhs : (L.take p' ++ (x, k) :: L.drop p').map (fun p => p.2.hash w) = (L.map fun p => p.2.hash w).take p' ++ k.hash w :: (L.map fun p => p.2.hash w).drop p' := by simp
  rw [← hhs] at q3
  have nd1 : ((L.take p' ++ (x, k) :: L.drop p').map (·.2)).Nodup := (pm.map (·.2)).nodup_iff.mpr (by rw [List.map_cons]; exact List.nodup_cons.mpr ⟨hm, R.nd⟩)
  have hes := rows_size hin
  rw [hlen] at hes
  generalize SetTable.insertAt es p' (k.hash w, Value.ref x) = es1 at hin hes ⊢
  generalize L.take p' ++ (x, k) :: L.drop p' = L1 at pm hlen q3 nd1 hin
  refine wpAny_bind (wpAny_storeSet_of ho hd ?_ (by rw [hes, sizeLine_eq]; omega))
  have sb : Heap.SameBut a s.heap (s.heap.update a (Obj.putSet es1 t1)) := Heap.SameBut.update ..
  have ho1 := store_at (es' := es1) (t' := t1) ho hd
  generalize s.heap.update a (Obj.putSet es1 t1) = h1 at sb ho1 ⊢
  have keys1 : ∀ p ∈ L1, IsN P w h1 p.2 p.1 := fun p hp => by
    rcases List.mem_cons.mp (pm.mem_iff.mp hp) with e | hp
    · rw [e]; exact hx.but ho hd sb
    · exact (R.keys p hp).but ho hd sb
  have ld1 : w.params.followText "set-order" = true ∨ t1.led = true := by rw [q5]; exact R.led
  simp only [List.length_map] at q9
  by_cases hf : t1.tooFull = true
  · first
      | (refine wpAny_bind ?_; refine wp_if_pos (by simp [hf]) ?_)
      | (refine wp_if_pos (by simp [hf]) ?_; refine wpAny_bind ?_)
    have hfull : (L.length + 1) * 5 ≥ t1.mask * 3 := by
      have h := hf
      unfold SetTable.tooFull at h
      rw [decide_eq_true_eq, q9] at h
      exact h
    rw [hsl]
    have go : ∀ M, SetTable.sizeAbove (SetTable.grown (L.length + 1)) = M + 1 → Full M → (M = 7 ∨ M = 31 ∨ M = 127 ∨ M = 511) → (L.length + 1) * 5 < M * 3 →
        wpAny (model P w) A (setRelay a (SetTable.grown (L.length + 1))) (fun _ s' => wpAny (model P w) A (pure true) Q E s') E { s with heap := h1 } := fun M g1 g2 g3 g4 =>
      relay_n (s := { s with heap := h1 }) ho1 ⟨hex.1, hex.2.1, hex.2.2⟩ rfl hin q3 (by rw [hlen, q4]; have := R.room; rcases R.msk with e | e | e | e <;> omega) nd1 keys1 hp1 ld1 (by rw [hlen]; exact hfew) g1 g2 g3 (by rw [hlen]; exact g4)
        fun h2 L2 es2 ep2 t2 sb2 R2 pm2 => wpAny_pure (hQ true h2 L2 es2 ep2 t2 (sb.trans sb2) R2 (fun z => absurd z hm) fun _ => pm2.trans pm)
    rw [q4] at hfull
    rcases R.msk with e | e | e | e
    · have z : L.length = 4 := by omega
      exact go 31 (by rw [z]; exact size_32) full31 (by simp) (by omega)
    · have z : L.length = 18 := by omega
      exact go 127 (by rw [z]; exact size_128) full127 (by simp) (by omega)
    · have z : L.length = 76 := by omega
      exact go 511 (by rw [z]; exact size_512) full511 (by simp) (by omega)
    · omega
  · first
      | refine wp_if_neg (by simp [hf]) ?_
      | (refine wpAny_bind ?_; refine wp_if_neg (by simp [hf]) ?_; refine wpAny_pure ?_)
    refine wpAny_pure (hQ true h1 L1 es1 (ep + 1) t1 sb ⟨⟨_, ho1, ⟨hex.1, hex.2.1, hex.2.2⟩, rfl⟩, hin, q3, nd1, keys1, hp1, ld1, ?_, by rw [hlen]; exact hfew, by rw [q4]; exact R.msk⟩ (fun z => absurd z hm) fun _ => pm)
    have h := hf
    unfold SetTable.tooFull at h
    rw [decide_eq_true_eq, q9] at h
    rw [hlen]
    omega
end
end Pm

namespace Pm
open PySem PySem.Spec PyProof.Rows L2
open PySem.W (keyToks keyToksAll alike alikeAll dataLt dataLe AllAlike)
/-! data that are ints and nested tuples of ints; set(list) of tuples of them -/
mutual
def nkB : D → Bool
  | .int _ => true
  | .tuple ds => nkBs ds
  | _ => false
def nkBs : List D → Bool
  | [] => true
  | d :: ds => nkB d && nkBs ds
end
mutual
def nk : D → NK
  | .int n => .num n
  | .tuple ds => .tup (nks ds)
  | _ => .none
def nks : List D → List NK
  | [] => []
  | d :: ds => nk d :: nks ds
end
mutual
theorem nk_num : ∀ d, nkB d = true → numO (nk d) = true
  | .int n, _ => by rw [nk, numO]
  | .tuple ds, h => by rw [nk, numO]; rw [nkB] at h; exact nks_num ds h
  | .none, h | .bool _, h | .str _, h | .list _, h | .dict _, h => by simp [nkB] at h
theorem nks_num : ∀ ds, nkBs ds = true → numOs (nks ds) = true
  | [], _ => by rw [nks, numOs]
  | d :: ds, h => by
    rw [nkBs, Bool.and_eq_true] at h
    rw [nks, numOs, nk_num d h.1, nks_num ds h.2]
    rfl
end
mutual
theorem nk_inj : ∀ d e, nkB d = true → nkB e = true → nk d = nk e → d = e
  | .int a, .int b, _, _, z => by rw [nk, nk] at z; injection z with z; rw [z]
  | .int a, .tuple es, _, _, z => by rw [nk, nk] at z; cases z
  | .tuple ds, .int b, _, _, z => by rw [nk, nk] at z; cases z
  | .tuple ds, .tuple es, h, h2, z => by
    rw [nkB] at h h2
    rw [nk, nk] at z
    injection z with z
    rw [nks_inj ds es h h2 z]
  | .int _, .none, _, h, _ | .int _, .bool _, _, h, _ | .int _, .str _, _, h, _ | .int _, .list _, _, h, _ | .int _, .dict _, _, h, _ => by simp [nkB] at h
  | .tuple _, .none, _, h, _ | .tuple _, .bool _, _, h, _ | .tuple _, .str _, _, h, _ | .tuple _, .list _, _, h, _ | .tuple _, .dict _, _, h, _ => by simp [nkB] at h
  | .none, _, h, _, _ | .bool _, _, h, _, _ | .str _, _, h, _, _ | .list _, _, h, _, _ | .dict _, _, h, _, _ => by simp [nkB] at h
theorem nks_inj : ∀ ds es, nkBs ds = true → nkBs es = true → nks ds = nks es → ds = es
  | [], [], _, _, _ => rfl
  | [], e :: es, _, _, z => by rw [nks, nks] at z; cases z
  | d :: ds, [], _, _, z => by rw [nks, nks] at z; cases z
  | d :: ds, e :: es, h, h2, z => by
    rw [nkBs, Bool.and_eq_true] at h h2
    rw [nks, nks] at z
    injection z with z1 z2
    rw [nk_inj d e h.1 h2.1 z1, nks_inj ds es h.2 h2.2 z2]
end
mutual
theorem nk_depth : ∀ d, (nk d).depth ≤ d.depth
  | .int n => by rw [nk]; simp [NestedKey.depth]
  | .tuple ds => by
    rw [nk, NestedKey.depth, PyData.depth]
    have := nks_depth ds
    omega
  | .none | .bool _ | .str _ | .list _ | .dict _ => by rw [nk] <;> simp [NestedKey.depth]
theorem nks_depth : ∀ ds, NestedKey.depthAll (nks ds) ≤ PyData.depthAll ds
  | [] => by rw [nks]; simp [NestedKey.depthAll]
  | d :: ds => by
    rw [nks, NestedKey.depthAll, PyData.depthAll]
    have := nk_depth d
    have := nks_depth ds
    omega
end
mutual
theorem nk_is {h : Heap} : ∀ (d : D) (v : Value) (as : List Addr), Reads h v d as → nkB d = true → NestedIs h (nk d) v
  | .int n, _, _, r, _ => by
    cases r
    rw [nk]
    exact .int _ _
  | .tuple ds, _, _, r, z => by
    cases r with
    | tuple h1 h2 h3 h4 =>
      rw [nk]
      exact .tup h1 h2 h3 (nks_is ds _ _ h4 (by rw [nkB] at z; exact z))
  | .none, _, _, _, h | .bool _, _, _, _, h | .str _, _, _, _, h | .list _, _, _, _, h | .dict _, _, _, _, h => by simp [nkB] at h
theorem nks_is {h : Heap} : ∀ (ds : List D) (vs : List Value) (as : List Addr), ReadsAll h vs ds as → nkBs ds = true → NestedAll h (nks ds) vs
  | [], _, _, r, _ => by cases r; rw [nks]; exact .nil
  | d :: ds, _, _, r, z => by
    rw [nkBs, Bool.and_eq_true] at z
    cases r with
    | cons r1 r2 => rw [nks]; exact .cons (nk_is d _ _ r1 z.1) (nks_is ds _ _ r2 z.2)
end
mutual
theorem toks_inj : ∀ (x y : D), nkB x = true → nkB y = true → alike x y = true → ∀ r r', keyToks x ++ r = keyToks y ++ r' → x = y ∧ r = r'
  | .int a, .int b, _, _, _, r, r', e => by
    rw [keyToks, keyToks] at e
    simp only [List.cons_append, List.nil_append] at e
    obtain ⟨e1, e2⟩ := List.cons.inj e
    injection e1 with e1
    exact ⟨by rw [e1], e2⟩
  | .tuple xs, .tuple ys, hx, hy, ha, r, r', e => by
    rw [nkB] at hx hy
    rw [alike] at ha
    rw [keyToks, keyToks] at e
    obtain ⟨e1, e2⟩ := toksA_inj xs ys hx hy ha r r' e
    exact ⟨by rw [e1], e2⟩
  | .int _, .tuple _, _, _, h, _, _, _ => by simp [alike] at h
  | .tuple _, .int _, _, _, h, _, _, _ => by simp [alike] at h
  | .int _, .none, _, h, _, _, _, _ | .int _, .bool _, _, h, _, _, _, _ | .int _, .str _, _, h, _, _, _, _ | .int _, .list _, _, h, _, _, _, _ | .int _, .dict _, _, h, _, _, _, _ => by simp [nkB] at h
  | .tuple _, .none, _, h, _, _, _, _ | .tuple _, .bool _, _, h, _, _, _, _ | .tuple _, .str _, _, h, _, _, _, _ | .tuple _, .list _, _, h, _, _, _, _ | .tuple _, .dict _, _, h, _, _, _, _ => by simp [nkB] at h
  | .none, _, h, _, _, _, _, _ | .bool _, _, h, _, _, _, _, _ | .str _, _, h, _, _, _, _, _ | .list _, _, h, _, _, _, _, _ | .dict _, _, h, _, _, _, _, _ => by simp [nkB] at h
theorem toksA_inj : ∀ (xs ys : List D), nkBs xs = true → nkBs ys = true → alikeAll xs ys = true → ∀ r r', keyToksAll xs ++ r = keyToksAll ys ++ r' → xs = ys ∧ r = r'
  | [], [], _, _, _, r, r', e => ⟨rfl, by rw [keyToksAll] at e; exact (List.cons.inj e).2⟩
  | [], y :: ys, _, _, _, r, r', e => by
    rw [keyToksAll, keyToksAll] at e
    have := (List.cons.inj e).1
    injection this with this
    exact absurd this (by decide)
  | x :: xs, [], _, _, _, r, r', e => by
    rw [keyToksAll, keyToksAll] at e
    have := (List.cons.inj e).1
    injection this with this
    exact absurd this (by decide)
  | x :: xs, y :: ys, hx, hy, ha, r, r', e => by
    rw [nkBs, Bool.and_eq_true] at hx hy
    rw [alikeAll, Bool.and_eq_true] at ha
    rw [keyToksAll, keyToksAll] at e
    have e : keyToks x ++ keyToksAll xs ++ r = keyToks y ++ keyToksAll ys ++ r' := (List.cons.inj e).2
    rw [List.append_assoc, List.append_assoc] at e
    obtain ⟨e1, e2⟩ := toks_inj x y hx.1 hy.1 ha.1 _ _ e
    obtain ⟨e3, e4⟩ := toksA_inj xs ys hx.2 hy.2 ha.2 _ _ e2
    exact ⟨by rw [e1, e3], e4⟩
end
theorem lt_tri {x y : D} (hx : nkB x = true) (hy : nkB y = true) (ha : alike x y = true) (h1 : dataLt x y = false) (h2 : dataLt y x = false) : x = y := by
  have e : keyToks x = keyToks y := lex_total (O := itemOrd) _ _ h1 h2
  exact (toks_inj x y hx hy ha [] [] (by rw [e])).1
/-- one order, whatever order the items came in -/
theorem srt_perm {l m : List D} (h : l.Perm m) (hb : ∀ d ∈ l, nkB d = true) (ha : AllAlike l) : srt l = srt m := by
  have le_tr : ∀ a b c : D, dataLe false (fun d : D => d) a b = true → dataLe false (fun d : D => d) b c = true → dataLe false (fun d : D => d) a c = true := fun a b c h1 h2 => by
    rw [PySem.W.dataLe_eq] at h1 h2 ⊢
    simp only [cond_false, Bool.not_eq_true'] at h1 h2 ⊢
    cases q : dataLt c a with
    | false => rfl
    | true =>
      rcases lex_negTrans (O := itemOrd) (keyToks c) (keyToks b) (keyToks a) q with z | z
      · exact absurd (h2.symm.trans z) (by decide)
      · exact absurd (h1.symm.trans z) (by decide)
  have le_to : ∀ a b : D, (dataLe false (fun d : D => d) a b || dataLe false (fun d : D => d) b a) = true := fun a b => by
    rw [PySem.W.dataLe_eq]
    simp only [cond_false]
    cases q : dataLt b a with
    | false => rfl
    | true =>
      cases q2 : dataLt a b with
      | false => rfl
      | true =>
        have z := lex_trans (O := itemOrd) _ _ _ q q2
        rw [show lexLt itemOrd (keyToks b) (keyToks b) = false from lex_irrefl _] at z
        exact absurd z (by decide)
  refine List.Perm.eq_of_pairwise (le := fun a b => dataLe false (fun d : D => d) a b = true) (fun a b ma mb h1 h2 => ?_) (List.pairwise_mergeSort le_tr le_to l) (List.pairwise_mergeSort le_tr le_to m) (((List.mergeSort_perm l _).trans h).trans (List.mergeSort_perm m _).symm)
  have ma' : a ∈ l := List.mem_mergeSort.mp ma
  have mb' : b ∈ l := h.mem_iff.mpr (List.mem_mergeSort.mp mb)
  rw [PySem.W.dataLe_eq] at h1 h2
  simp only [cond_false, Bool.not_eq_true'] at h1 h2
  exact lt_tri (hb a ma') (hb b mb') (ha a ma' b mb') h2 h1
/-! each once -/
mutual
theorem eqv_nk : ∀ d e, nkB d = true → nkB e = true → (PyData.eqv d e = true ↔ d = e)
  | .int a, .int b, _, _ => by simp [PyData.eqv]
  | .int a, .tuple es, _, _ => by simp [PyData.eqv]
  | .tuple ds, .int b, _, _ => by simp [PyData.eqv]
  | .tuple ds, .tuple es, h, h2 => by
    rw [nkB] at h h2
    rw [PyData.eqv, eqv_nks ds es h h2]
    simp
  | .int _, .none, _, h | .int _, .bool _, _, h | .int _, .str _, _, h | .int _, .list _, _, h | .int _, .dict _, _, h => by simp [nkB] at h
  | .tuple _, .none, _, h | .tuple _, .bool _, _, h | .tuple _, .str _, _, h | .tuple _, .list _, _, h | .tuple _, .dict _, _, h => by simp [nkB] at h
  | .none, _, h, _ | .bool _, _, h, _ | .str _, _, h, _ | .list _, _, h, _ | .dict _, _, h, _ => by simp [nkB] at h
theorem eqv_nks : ∀ ds es, nkBs ds = true → nkBs es = true → (PyData.eqvAll ds es = true ↔ ds = es)
  | [], [], _, _ => by simp [PyData.eqvAll]
  | [], e :: es, _, _ => by simp [PyData.eqvAll]
  | d :: ds, [], _, _ => by simp [PyData.eqvAll]
  | d :: ds, e :: es, h, h2 => by
    rw [nkBs, Bool.and_eq_true] at h h2
    rw [PyData.eqvAll, Bool.and_eq_true, eqv_nk d e h.1 h2.1, eqv_nks ds es h.2 h2.2]
    simp
end
def stepK (acc : List D) (d : D) : List D := if acc.any (fun e => PyData.eqv e d) then acc else acc ++ [d]
/-- each item once, as met first -/
def distK (ds : List D) : List D := ds.foldl stepK []
theorem distK_go (ds acc : List D) (h : acc.Nodup) (hd : ∀ d ∈ ds, nkB d = true) (ha : ∀ d ∈ acc, nkB d = true) : (ds.foldl stepK acc).Nodup ∧ ∀ k, k ∈ ds.foldl stepK acc ↔ k ∈ acc ∨ k ∈ ds := by
  induction ds generalizing acc with
  | nil => exact ⟨h, fun k => by simp⟩
  | cons n ns ih =>
    rw [List.foldl_cons]
    have hn := hd n List.mem_cons_self
    have hns : ∀ d ∈ ns, nkB d = true := fun d hm => hd d (List.mem_cons_of_mem _ hm)
    by_cases c : n ∈ acc
    · have e : stepK acc n = acc := by
        unfold stepK
        exact if_pos ((List.any_eq_true (p := fun e => PyData.eqv e n)).mpr ⟨n, c, (eqv_nk n n hn hn).mpr rfl⟩)
      rw [e]
      obtain ⟨h1, h2⟩ := ih acc h hns ha
      refine ⟨h1, fun k => ?_⟩
      rw [h2, List.mem_cons]
      constructor
      · rintro (z | z)
        · exact .inl z
        · exact .inr (.inr z)
      · rintro (z | z | z)
        · exact .inl z
        · exact .inl (by rw [z]; exact c)
        · exact .inr z
    · have e : stepK acc n = acc ++ [n] := by
        unfold stepK
        refine if_neg fun z => ?_
        obtain ⟨x, hx, e2⟩ := List.any_eq_true.mp z
        exact c (by rw [← (eqv_nk x n (ha x hx) hn).mp e2]; exact hx)
      rw [e]
      obtain ⟨h1, h2⟩ := ih (acc ++ [n]) (by
        rw [List.nodup_append]
        exact ⟨h, by simp, fun a ha b hb z => c (by rw [List.mem_singleton] at hb; rw [← hb, ← z]; exact ha)⟩) hns (fun d hm => by
          rcases List.mem_append.mp hm with z | z
          · exact ha d z
          · rw [List.mem_singleton.mp z]; exact hn)
      refine ⟨h1, fun k => ?_⟩
      rw [h2, List.mem_append, List.mem_singleton, List.mem_cons]
      exact or_assoc
theorem distK_nodup {ds : List D} (h : ∀ d ∈ ds, nkB d = true) : (distK ds).Nodup := (distK_go ds [] List.nodup_nil h fun _ z => nomatch z).1
theorem distK_mem {ds : List D} (h : ∀ d ∈ ds, nkB d = true) (k : D) : k ∈ distK ds ↔ k ∈ ds := by
  unfold distK
  rw [(distK_go ds [] List.nodup_nil h fun _ z => nomatch z).2]
  simp
end Pm

namespace Pm
open PySem PySem.Spec PyProof.Rows L2
/-! set(list of nested tuples of ints) -/
/-- what stands in the set after the first i of the keys -/
structure GotN (ks : NL) (i : Nat) (L : NL) : Prop where
  inn : ∀ p, p ∈ L → p ∈ ks.take i
  cov : ∀ p, p ∈ ks.take i → p.2 ∈ L.map Prod.snd
  few : L.length ≤ i
theorem GotN.nil (ks : NL) : GotN ks 0 [] := ⟨(fun p h => nomatch h), (fun p h => by simp at h), Nat.le_refl _⟩
theorem GotN.old {ks L : NL} {i : Nat} {x : Addr × NK} (g : GotN ks i L) (h : ks[i]? = some x) (hm : x.2 ∈ L.map Prod.snd) : GotN ks (i + 1) L := by
  refine ⟨fun p hp => ?_, fun p hp => ?_, Nat.le_succ_of_le g.few⟩
  · rw [take_next h, List.mem_append]
    exact .inl (g.inn p hp)
  · rw [take_next h, List.mem_append, List.mem_singleton] at hp
    rcases hp with z | z
    · exact g.cov p z
    · rw [z]; exact hm
theorem GotN.new {ks L L' : NL} {i : Nat} {x : Addr × NK} (g : GotN ks i L) (h : ks[i]? = some x) (pm : L'.Perm (x :: L)) : GotN ks (i + 1) L' := by
  refine ⟨fun p hp => ?_, fun p hp => ?_, by rw [pm.length_eq, List.length_cons]; have := g.few; omega⟩
  · rw [take_next h, List.mem_append, List.mem_singleton]
    rcases List.mem_cons.mp (pm.mem_iff.mp hp) with e | z
    · exact .inr e
    · exact .inl (g.inn p z)
  · rw [(pm.map Prod.snd).mem_iff, List.map_cons, List.mem_cons]
    rw [take_next h, List.mem_append, List.mem_singleton] at hp
    rcases hp with z | z
    · exact .inr (g.cov p z)
    · exact .inl (by rw [z])
section
variable {P : Program} {w : World} {A : Around} {E : Value → Shared → Prop} {s : Shared}
theorem SetN.stay {h h' : Heap} {a : Addr} {L : NL} {es : Array (Int × Value)} {ep : Nat} {t : SetTable} (R : SetN P w h a L es ep t) (ha : ∀ o, h.get? a = some o → h'.get? a = some o) (ht : ∀ p ∈ L, IsN P w h' p.2 p.1) : SetN P w h' a L es ep t := by
  obtain ⟨o, ho, r⟩ := R.ob
  exact { R with ob := ⟨o, ha o ho, r⟩, keys := ht }
def blank (w : World) : Obj := { cls := .type "set", dict := none, data := .set #[] 0 (.fresh 0 0 (!w.params.followText "set-order")) }
theorem setN_blank {h : Heap} {a : Addr} (ho : h.get? a = some (blank w)) : SetN P w h a [] #[] 0 (.fresh 0 0 (!w.params.followText "set-order")) where
  ob := ⟨_, ho, ⟨rfl, rfl, rfl⟩, rfl⟩
  rows := rfl
  tab := ⟨List.Pairwise.nil, rfl, rfl, full7, fun i h j hi => by simp at hi⟩
  nd := List.nodup_nil
  keys := fun _ z => nomatch z
  plain := rfl
  led := by
    show _ ∨ (!w.params.followText "set-order") = true
    cases w.params.followText "set-order" <;> simp
  room := (by decide : 0 * 5 < 7 * 3)
  few := by simp
  msk := .inl rfl
theorem loop_n {I : Addr} {fp wr : List Addr} {G : Array GenState → Array GenState → Prop} {n : Nat} {Pv : Nat → Value → Prop} {St : Nat → Shared → Prop} {R : Result → Shared → Prop}
    (W : WalksS P w A.in1 I fp wr G n Pv St) (S : Addr) (off : S ∉ fp) (ks : NL) (hn : n = ks.length) (low : ks.length < 299) (hval : ∀ i v, Pv i v → ∃ p, ks[i]? = some p ∧ v = .ref p.1)
    (h0 : Heap) (hk : ∀ p ∈ ks, IsN P w h0 p.2 p.1) (hS0 : h0.get? S = none) (hw0 : ∀ b ∈ wr, h0.get? b = none) (hu : A.in1.units + 8 < cLine) :
    ∀ (k i : Nat) (s : Shared), n - i = k → i ≤ n → St i s → (∀ b o, h0.get? b = some o → s.heap.get? b = some o) → (∃ L es ep t, SetN P w s.heap S L es ep t ∧ GotN ks i L) →
      (∀ s' L es ep t, Moved (S :: wr) G s s' → SetN P w s'.heap S L es ep t → GotN ks n L → (∀ b o, h0.get? b = some o → s'.heap.get? b = some o) → R (.ok (.ret .none)) s') →
      codeAny (model P w) A (.builtin "set.update.loop" ⟨[.ref S, .ref I], []⟩) R s := by
  have offW : S ∉ wr := fun h => off (W.sub _ h)
  have wider : ∀ b ∈ wr, b ∈ S :: wr := fun b hb => List.mem_cons_of_mem _ hb
  have still : ∀ {s s' : Shared}, Moved wr G s s' → (∀ b o, h0.get? b = some o → s.heap.get? b = some o) → ∀ b o, h0.get? b = some o → s'.heap.get? b = some o := fun hm q b o e =>
    hm.heap b o (fun hb => by have z := hw0 b hb; rw [z] at e; exact nomatch e) (q b o e)
  intro k
  induction k with
  | zero =>
    intro i s hk' hi hst hkp ⟨L, es, ep, t, hS, g⟩ hR
    obtain rfl : i = n := by omega
    refine codeAny_builtin F.entry_set_update_loop (Eq.mpr (congrArg (fun B => wpAny _ B _ _ _ _) (Around.under_plainId F.plain_set_update_loop _)) ?_)
    show wpAny _ A.in1 (pyNext (.ref I) >>= _) _ _ s
    refine wpAny_bind (W.done s _ _ hst fun s' hm => ?_)
    have q := still hm hkp
    exact wpAny_pure (hR s' L es ep t (hm.mono wider) (hS.stay (fun o e => hm.heap S o offW e) fun p hp => (hk p (List.mem_of_mem_take (g.inn p hp))).keep fun b o _ _ e _ => q b o e) g q)
  | succ k ih =>
    intro i s hk' hi hst hkp ⟨L, es, ep, t, hS, g⟩ hR
    have hlt : i < n := by omega
    refine codeAny_builtin F.entry_set_update_loop (Eq.mpr (congrArg (fun B => wpAny _ B _ _ _ _) (Around.under_plainId F.plain_set_update_loop _)) ?_)
    show wpAny _ A.in1 (pyNext (.ref I) >>= _) _ _ s
    refine wpAny_bind (W.item i s _ _ hlt hst fun v s' hP hst' hm => ?_)
    obtain ⟨p, hp, rfl⟩ := hval i v hP
    have q := still hm hkp
    have R1 : SetN P w s'.heap S L es ep t := hS.stay (fun o e => hm.heap S o offW e) fun p hp => (hk p (List.mem_of_mem_take (g.inn p hp))).keep fun b o _ _ e _ => q b o e
    have hx : IsN P w s'.heap p.2 p.1 := (hk p (List.mem_of_getElem? hp)).keep fun b o _ _ e _ => q b o e
    show wpAny _ A.in1 (holding [Value.ref p.1] (setAdd S (.ref p.1)) >>= _) _ _ s'
    refine wpAny_bind (wpAny_holding ?_)
    unfold setAdd
    refine wpAny_holding (wpAny_bind ((nestedKind P w).pyHash (by exact hu) hx.1 ?_))
    refine add_n (s := { s' with toks := s'.toks + p.2.draws }) R1 hx hu (by have := g.few; omega) fun b h' L' es' ep' t' sb R2 c1 c2 => ?_
    have g' : GotN ks (i + 1) L' := by
      by_cases c : p.2 ∈ L.map Prod.snd
      · rw [c1 c]; exact g.old hp c
      · exact g.new hp (c2 c)
    have q2 : ∀ b o, h0.get? b = some o → h'.get? b = some o := fun b o e => (sb.2 b (fun z => by rw [z, hS0] at e; exact nomatch e)).trans (q b o e)
    refine wpAny_pure ⟨plainId_quiet F.plain_set_update_loop _, ih (i + 1) _ (by omega) hlt (W.frame _ s' _ _ hst' (Nat.le_add_right _ _) fun b hb o e => (sb.2 b fun z => off (z ▸ hb)).trans e) q2 ⟨L', es', ep', t', R2, g'⟩ fun s3 L3 es3 ep3 t3 m3 R3 g3 q3 => ?_⟩
    exact hR s3 L3 es3 ep3 t3 (Moved.trans W.gtrans ((hm.mono wider).then_heap (Nat.le_add_right _ _) fun b o hb e => (sb.2 b fun z => hb (z ▸ List.mem_cons_self)).trans e) m3) R3 g3 q3
/-- set(l): what stands afterwards -/
theorem call_set_n {l : Addr} {items : Array Value} (ks : NL) {Q : Value → Shared → Prop} (hh : A.handled = none) (hl : s.heap.IsList l items) (hit : items.toList = ks.map fun p => Value.ref p.1)
    (hk : ∀ p ∈ ks, IsN P w s.heap p.2 p.1) (low : ks.length < 299) (hu : A.units + 20 < cLine)
    (h : ∀ (h' : Heap) (tk : Nat) L es ep t, SetN P w h' s.heap.objs.size L es ep t → GotN ks ks.length L → (∀ b o, s.heap.get? b = some o → h'.get? b = some o) → Q (.ref s.heap.objs.size) { s with heap := h', toks := tk }) :
    wpAny (model P w) A (call (.type "set") [.ref l]) Q E s := by
  have isz : items.size = ks.length := by rw [← Array.length_toList, hit, List.length_map]
  have ⟨c, tl, hmro⟩ := F.called_set.mro
  have hmade := F.called_set.made
  have hsub := F.called_set.sub
  have h1 := F.called_set.notType
  have h2 := F.called_set.canCreate
  have hct := F.typeCall_set_1 (.ref l)
  have hbl : (s.heap.push (blank w)).get? s.heap.objs.size = some (blank w) := Heap.get?_push_size _ rfl
  have hT : Shared.TypeIs { s with heap := s.heap.push (blank w) } (.ref s.heap.objs.size) "set" := ⟨_, hbl, rfl⟩
  have hli := F.called_set.init.lookup
  have hbi := F.called_set.init.bind (.ref s.heap.objs.size)
  refine wpAny_call (codeAny_of_tree (Eq.mpr (congrArg (fun z => z) rfl) (show wpAny _ _ (callAny (.type "set") _) _ _ _ from wpAny_pure ⟨Code.quiet_builtin _ (by decide +kernel), codeAny_builtin F.entry_type_call ?_⟩)))
  rw [Around.under_plain (weight_type_call_type "set" [.ref l] []) rfl]
  repeat (any_goals (first | assumption | wp_step))
  refine codeAny_mono (code_set_led1 (.ref l) (E := E) (Q₁ := fun obj s₁ => obj = .ref s.heap.objs.size ∧ s₁ = { s with heap := s.heap.push (blank w) }) ⟨rfl, rfl⟩) fun r s₁ hr => ?_
  rcases r with e | fl
  · exact hr
  cases fl with
  | ret obj =>
    obtain ⟨rfl, rfl⟩ := hr
    repeat (any_goals (first | assumption | wp_step))
    refine codeAny_mono (codeAny_call_builtin (R := wants (fun r s₂ => r = .none ∧ ∃ h' tk L es ep t, s₂ = { s with heap := h', toks := tk } ∧ SetN P w h' s.heap.objs.size L es ep t ∧ GotN ks ks.length L ∧ (∀ b o, s.heap.get? b = some o → h'.get? b = some o)) E) F.called_set.init.plain F.entry_set_init (check_set_init_1 hT ?_)) fun r₂ s₂ hr₂ => ?_
    · obtain ⟨⟨ocls, odict, odata, oslots⟩, hol, hcl, nl, hdl⟩ := hl
      simp only at hcl hdl
      subst hcl hdl
      have hol' : (s.heap.push (blank w)).get? l = some { cls := .type "list", dict := odict, data := .seq items nl, slots := oslots } := Heap.get?_push_of_some _ hol
      have lst : (s.heap.push (blank w)).IsList l items := ⟨_, hol', rfl, nl, rfl⟩
      have hsls := F.sub_list_set
      have hslf := F.sub_list_frozenset
      have hne : (Value.type "list" == Value.type "dict") = false := by decide
      unfold Builtin.«set.__init__» noKeywords Builtin.Frozenset.updateFrom
      generalize hPI : pyIter = PI
      wp_walk
      subst hPI
      refine wpAny_pyIter_list lst (wpAny_bind (wpAny_runValue ?_))
      have hlS : l < s.heap.objs.size := Heap.lt_size hol
      have hsz : (s.heap.push (blank w)).objs.size = s.heap.objs.size + 1 := Heap.size_push ..
      have hh3 : A.in1.in1.in1.handled = none := by simp [hh]
      have vacant : ∀ b, s.heap.objs.size ≤ b → s.heap.get? b = none := fun b hb => by
        cases q : s.heap.get? b with
        | none => rfl
        | some o => exact absurd (Nat.lt_of_lt_of_le (Heap.lt_size q) hb) (Nat.lt_irrefl _)
      refine loop_n ((Walks.list hh3 _ l (by rw [hsz]; exact Nat.ne_of_lt (Nat.lt_succ_of_lt hlS)) items).toS) s.heap.objs.size (by rw [hsz]; simp only [List.mem_cons, List.not_mem_nil, or_false, not_or]; exact ⟨Nat.ne_of_lt (Nat.lt_succ_self _), Nat.ne_of_gt hlS⟩) ks isz low (fun i v hv => ?_) s.heap hk (vacant _ (Nat.le_refl _))
        (fun b hb => vacant b (by rw [List.mem_singleton.mp hb, hsz]; omega)) (by show A.units + 1 + 1 + 1 + 8 < cLine; omega) (items.size - 0) 0 _ (by omega) (Nat.zero_le _) ⟨⟨_, Heap.get?_push_size _ rfl, rfl, rfl⟩, lst.push _⟩
        (fun b o e => Heap.get?_push_of_some _ (Heap.get?_push_of_some _ e)) ⟨[], #[], 0, _, setN_blank (Heap.get?_push_of_some _ hbl), GotN.nil ks⟩ fun s' L es ep t hm R' g' hkp => ?_
      · have q : items.toList[i]? = some v := by rw [Array.getElem?_toList]; exact hv
        rw [hit, List.getElem?_map] at q
        obtain ⟨p, e1, e2⟩ := Option.map_eq_some_iff.mp q
        exact ⟨p, e1, e2.symm⟩
      · obtain ⟨h', g2, d', tk', os'⟩ := s'
        obtain rfl : g2 = s.gens := hm.gens
        obtain rfl : d' = s.drawn := hm.drawn
        obtain rfl : os' = s.os := hm.os
        rw [isz] at g'
        show wpAny _ _ _ _ _ _
        refine wpAny_pure ?_
        show wpAny _ _ (ret Value.none) _ _ _
        exact wpAny_pure ⟨rfl, h', tk', L, es, ep, t, rfl, R', g', hkp⟩
    · rcases r₂ with e | fl₂
      · exact hr₂
      cases fl₂ with
      | ret r =>
        obtain ⟨rfl, h', tk, L, es, ep, t, rfl, R', g', kept⟩ := hr₂
        repeat (any_goals (first | assumption | wp_step))
        exact h _ _ _ _ _ _ R' g' kept
      | _ => exact hr₂.elim
  | _ => exact hr.elim
end
end Pm

namespace Pm
open PySem PySem.Spec PyProof.Rows L2
open PySem.W (EachIs AllAlike Sortable dataLe SortsAt dataKind sortVals sortVals_data sortVals_length sortingHeap sortingHeap_old list_sort_vals)
/-! len(set(list)), sorted(set(list)): lists of nested tuples of ints -/
abbrev QL := List (Addr × V × D)
def qk (q : Addr × V × D) : Addr × NK := (q.1, nk q.2.2)
def qv (q : Addr × V × D) : Value := .ref q.1
theorem pull {α β : Type} {f : α → β} {qs : List α} : ∀ {L : List β}, (∀ p ∈ L, p ∈ qs.map f) → ∃ M : List α, L = M.map f ∧ ∀ q ∈ M, q ∈ qs
  | [], _ => ⟨[], rfl, fun _ z => nomatch z⟩
  | p :: L, h => by
    obtain ⟨q, hq, e⟩ := List.mem_map.mp (h p List.mem_cons_self)
    obtain ⟨M, e2, hM⟩ := pull (L := L) fun r hr => h r (List.mem_cons_of_mem _ hr)
    refine ⟨q :: M, by rw [List.map_cons, e, e2], fun r hr => ?_⟩
    rcases List.mem_cons.mp hr with z | z
    · rw [z]; exact hq
    · exact hM r z
theorem perm_pull {β γ : Type} {f : β → γ} : ∀ {l k : List γ}, l.Perm k → ∀ r : List β, k = r.map f → ∃ r' : List β, r'.Perm r ∧ l = r'.map f := by
  intro l k h
  induction h with
  | nil => intro r e; exact ⟨[], by rw [List.map_eq_nil_iff.mp e.symm], rfl⟩
  | cons x _ ih =>
    intro r e
    cases r with
    | nil => cases e
    | cons b r =>
      rw [List.map_cons] at e
      obtain ⟨e1, e2⟩ := List.cons.inj e
      obtain ⟨r', h1, h2⟩ := ih r e2
      exact ⟨b :: r', h1.cons b, by rw [List.map_cons, ← h2, e1]⟩
  | swap x y l =>
    intro r e
    match r, e with
    | b :: c :: r, e =>
      rw [List.map_cons, List.map_cons] at e
      obtain ⟨e1, e2⟩ := List.cons.inj e
      obtain ⟨e3, e4⟩ := List.cons.inj e2
      exact ⟨c :: b :: r, .swap _ _ _, by rw [List.map_cons, List.map_cons, e1, e3, e4]⟩
  | trans _ _ ih1 ih2 =>
    intro r e
    obtain ⟨r2, h1, h2⟩ := ih2 r e
    obtain ⟨r1, h3, h4⟩ := ih1 r2 h2
    exact ⟨r1, h3.trans h1, h4⟩
theorem each_ref : ∀ M : QL, EachIs (fun v (q : Addr × V × D) => v = Value.ref q.1) (M.map qv) M
  | [] => .nil
  | q :: M => .cons rfl (each_ref M)
theorem ref_each : ∀ {vs : List Value} {M : QL}, EachIs (fun v (q : Addr × V × D) => v = Value.ref q.1) vs M → vs = M.map qv
  | _, _, .nil => rfl
  | _, _, .cons e h => by rw [List.map_cons, ← ref_each h, e]; rfl
/-- what is known of the items -/
structure Qs (h : Heap) (qs : QL) : Prop where
  rel : ∀ q ∈ qs, RelV q.2.1 (.ref q.1)
  rd : ∀ q ∈ qs, ∃ as, Reads h (.ref q.1) q.2.2 as
theorem qs_of {h : Heap} : ∀ {vs : List Value} {bs : List (V × D)}, EachIs (fun v (b : V × D) => RelV b.1 v) vs bs → EachIs (fun v (b : V × D) => ∃ as, Reads h v b.2 as) vs bs → (∀ b ∈ bs, ∃ r, b.2 = PyData.tuple r) →
    ∃ qs : QL, vs = qs.map qv ∧ bs = qs.map (·.2) ∧ Qs h qs
  | _, _, .nil, .nil, _ => ⟨[], rfl, rfl, (fun _ z => nomatch z), (fun _ z => nomatch z)⟩
  | _, _, .cons (b := b) (bs := bs) r1 e1, .cons r2 e2, ht => by
    obtain ⟨qs, i1, i2, i3, i4⟩ := qs_of e1 e2 fun b hb => ht b (List.mem_cons_of_mem _ hb)
    obtain ⟨r, er⟩ := ht b List.mem_cons_self
    obtain ⟨as, rd⟩ := r2
    rw [er] at rd
    cases rd with
    | @tuple a o xs n _ _ g1 g2 g3 g4 =>
      refine ⟨(a, b) :: qs, by rw [List.map_cons, i1]; rfl, by rw [List.map_cons, ← i2], fun q hq => ?_, fun q hq => ?_⟩
      · rcases List.mem_cons.mp hq with z | z
        · rw [z]; exact r1
        · exact i3 q z
      · rcases List.mem_cons.mp hq with z | z
        · rw [z]
          have y : Reads h (.ref a) (.tuple r) _ := .tuple g1 g2 g3 g4
          rw [← er] at y
          exact ⟨_, y⟩
        · exact i4 q z
/-- tuples that can stand in a set here -/
def nkT (ds : List D) : Bool := ds.all (fun d => tupB d && nkB d && d.plain && decide (d.depth ≤ 8)) && decide (ds.length < 299)
theorem nkT_ok {ds : List D} (h : nkT ds = true) : (∀ d ∈ ds, (∃ r, d = PyData.tuple r) ∧ nkB d = true ∧ d.plain = true ∧ d.depth ≤ 8) ∧ ds.length < 299 := by
  unfold nkT at h
  rw [Bool.and_eq_true, decide_eq_true_eq] at h
  refine ⟨fun d hd => ?_, h.2⟩
  have z := List.all_eq_true.mp h.1 d hd
  simp only [Bool.and_eq_true, decide_eq_true_eq] at z
  refine ⟨?_, z.1.1.2, z.1.2, z.2⟩
  cases d with
  | tuple r => exact ⟨r, rfl⟩
  | _ => exact absurd z.1.1.1 (by simp [tupB])
/-- the members as data -/
theorem set_data {qs M : QL} {L : NL} (hb : ∀ q ∈ qs, nkB q.2.2 = true) (g : GotN (qs.map qk) (qs.map qk).length L) (nd : (L.map Prod.snd).Nodup) (e : L = M.map qk) (hM : ∀ q ∈ M, q ∈ qs) : (M.map fun q => q.2.2).Perm (distK (qs.map fun q => q.2.2)) := by
  have hds : ∀ d ∈ qs.map (fun q => q.2.2), nkB d = true := fun d hd => by
    obtain ⟨q, hq, rfl⟩ := List.mem_map.mp hd
    exact hb q hq
  refine (List.perm_ext_iff_of_nodup ?_ (distK_nodup hds)).mpr fun d => ?_
  · rw [e, List.map_map] at nd
    have z : (M.map fun q => nk q.2.2).Nodup := nd
    refine List.Pairwise.of_map (S := fun x y : NK => x ≠ y) (f := nk) (fun a b h => (fun z => h (congrArg nk z) : a ≠ b)) (l := M.map fun q => q.2.2) ?_
    rw [List.map_map]
    exact z
  · rw [distK_mem hds]
    constructor
    · intro h
      obtain ⟨q, hq, rfl⟩ := List.mem_map.mp h
      exact List.mem_map.mpr ⟨q, hM q hq, rfl⟩
    · intro h
      obtain ⟨q, hq, rfl⟩ := List.mem_map.mp h
      have z := g.cov (qk q) (by rw [List.take_length]; exact List.mem_map_of_mem hq)
      rw [e, List.map_map] at z
      obtain ⟨m, hm, e2⟩ := List.mem_map.mp z
      have e3 : nk m.2.2 = nk q.2.2 := e2
      rw [← nk_inj _ _ (hb m (hM m hm)) (hb q hq) e3]
      exact List.mem_map.mpr ⟨m, hm, rfl⟩
section
variable {P : Program} {w : World} {A : Around} {E : Value → Shared → Prop} {s : Shared}
theorem sorted_n {a : Addr} {M : QL} {es : Array (Int × Value)} {ep : Nat} {t : SetTable} {Q : Value → Shared → Prop} (R : SetN P w s.heap a (M.map qk) es ep t) (hh : A.handled = none) (rd : ∀ q ∈ M, ∃ as, Reads s.heap (.ref q.1) q.2.2 as)
    (hal : AllAlike (M.map fun q => q.2.2)) (hk : SrtOk (M.map fun q => q.2.2)) (hd : ∀ q ∈ M, q.2.2.depth ≤ 8) (hb : ∀ q ∈ M, nkB q.2.2 = true) (hu : A.units + 16 < cLine)
    (hQ : ∀ s' p c (M' : QL), (∀ b o, s.heap.get? b = some o → s'.heap.get? b = some o) → s'.gens = s.gens → s'.os = s.os → s.heap.objs.size ≤ p → s'.heap.get? p = some (seqObj "list" (M'.map qv).toArray c) → (∀ q ∈ M', q ∈ M) → M'.length = M.length →
      (M'.map fun q => q.2.2) = srt (M.map fun q => q.2.2) → Q (.ref p) s') : wpAny (model P w) A (call (.builtin "sorted") [.ref a]) Q E s := by
  have ⟨o, ho, hex, hdt⟩ := R.ob
  have hfew := R.few
  rw [List.length_map] at hfew
  have hsz := rows_size R.rows
  rw [List.length_map] at hsz
  refine Calls.call_function_entry kind_sorted plain_sorted entry_sorted (args_sorted1 _) (by
    unfold Builtin.«sorted»
    refine wpAny_bind (m := checkCount "sorted" 1 1 _) (wpAny_pure (wpAny_bind ?_))
    refine collect_set (A := A.in1) hh ⟨o, ho, hex.1, hdt⟩ R.fits (by unfold scanBound; omega) R.tab.rise R.led fun s1 vs k1 hz g1 o1 pm => ?_
    have pm2 : vs.Perm (M.map qv) := by
      have e : es.toList.map (·.2) = M.map qv := by
        rw [R.rows]
        unfold nrows
        rw [List.map_map, List.map_map]
        rfl
      rw [e] at pm
      exact pm
    obtain ⟨M1, p1, rfl⟩ := perm_pull pm2 M rfl
    have len1 := p1.length_eq
    refine wpAny_bind (wpAny_newList ?_ (by rw [List.length_map, sizeLine_eq]; omega))
    generalize hH : s1.heap.push { cls := .type "list", data := .seq (M1.map qv).toArray } = h1
    have hoL : h1.get? s1.heap.objs.size = some (seqObj "list" (M1.map qv).toArray 0) := by rw [← hH]; exact Heap.get?_push_size _ rfl
    have old : ∀ b u, s.heap.get? b = some u → b ≠ s1.heap.objs.size ∧ h1.get? b = some u := fun b u e => ⟨Nat.ne_of_lt (Heap.lt_size (k1 b u e)), by rw [← hH]; exact Heap.get?_push_of_some _ (k1 b u e)⟩
    have mm : ∀ q, q ∈ M1 ↔ q ∈ M := fun q => p1.mem_iff
    have pd := p1.map fun q => q.2.2
    have er : EachIs (fun v (q : Addr × V × D) => ∃ as, Reads (sortingHeap h1 s1.heap.objs.size (M1.map qv)) v q.2.2 as) (M1.map qv) M1 := (PySem.W.each_mem (each_ref M1)).mono fun v q ⟨e, hq⟩ => by
      obtain ⟨as, r⟩ := rd q ((mm q).mp hq)
      rw [e]
      exact ⟨as, PyProof.Rows.Reads.keeps (fun b u z => sortingHeap_old (old b u z).1 (old b u z).2) r⟩
    have hal1 : AllAlike (M1.map fun q => q.2.2) := fun d hd d' hd' => hal d (pd.mem_iff.mp hd) d' (pd.mem_iff.mp hd')
    have hb1 : ∀ d ∈ M1.map (fun q => q.2.2), nkB d = true := fun d hd => by
      obtain ⟨q, hq, rfl⟩ := List.mem_map.mp hd
      exact hb q ((mm q).mp hq)
    have hu1 : ∀ d, d ∈ M1.map (fun q => q.2.2) → A.in1.in1.units + d.depth < cLine := fun d hm => by
      obtain ⟨q, hq, rfl⟩ := List.mem_map.mp hm
      have := hd q ((mm q).mp hq)
      show A.units + 1 + 1 + _ < _
      omega
    have e3 : EachIs (fun v d => ∃ as, Reads (sortingHeap h1 s1.heap.objs.size (M1.map qv)) v d as) (M1.map qv) (M1.map fun q => q.2.2) := PySem.W.each_map (R := fun v d => ∃ as, Reads (sortingHeap h1 s1.heap.objs.size (M1.map qv)) v d as) (fun q : Addr × V × D => q.2.2) er
    have S : SortsAt P w A.in1.in1 { s1 with heap := sortingHeap h1 s1.heap.objs.size (M1.map qv) } (dataKind (sortingHeap h1 s1.heap.objs.size (M1.map qv)) (M1.map fun q => q.2.2)) (M1.map qv) := by
      rcases hk with hk | ⟨ht, he⟩
      · refine SortsAt.data (s := { s1 with heap := sortingHeap h1 s1.heap.objs.size (M1.map qv) }) e3 hal1 ?_ hu1
        rcases hk with hk | hk
        · exact .inl fun d hm => hk d (pd.mem_iff.mp hm)
        · exact .inr fun d hm => hk d (pd.mem_iff.mp hm)
      · exact sorts_some (s := { s1 with heap := sortingHeap h1 s1.heap.objs.size (M1.map qv) }) e3 hal1 (fun d hm => ht d (pd.mem_iff.mp hm)) (pd.mem_iff.mpr he) hu1
    refine wpAny_bind (wpAny_holding (wpAny_call_entry slot_list_sort ⟨_, hoL, rfl⟩ entry_list_sort (list_sort_vals (s := { s1 with heap := h1 }) hoL S (by rw [List.length_map, sizeLine_eq]; omega) ⟨.none, rfl, ?_⟩) (args_list_sort _)))
    have srtd := ref_each (sortVals_data (h' := sortingHeap h1 s1.heap.objs.size (M1.map qv)) (enc := fun q : Addr × V × D => q.2.2) false (each_ref M1) er hal1)
    rw [srtd]
    obtain ⟨c, hc⟩ := sortedHeap_at (vs := M1.map qv) (out := ((M1.mergeSort (dataLe false fun q : Addr × V × D => q.2.2)).map qv).toArray) hoL
    refine wpAny_pure ⟨_, rfl, hQ _ s1.heap.objs.size c (M1.mergeSort (dataLe false fun q : Addr × V × D => q.2.2)) (fun b u e => ?_) g1 o1 hz hc (fun q hq => (mm q).mp (List.mem_mergeSort.mp hq)) (by rw [List.length_mergeSort, len1]) ?_⟩
    · show (sortedHeap h1 s1.heap.objs.size (M1.map qv) _).get? b = some u
      rw [sortedHeap_old (old b u e).1 (Heap.lt_size (old b u e).2)]
      exact (old b u e).2
    · refine Eq.trans ?_ (srt_perm pd hb1 hal1)
      unfold srt
      exact List.map_mergeSort (r := dataLe false fun q : Addr × V × D => q.2.2) (s := dataLe false fun d : D => d) (f := fun q : Addr × V × D => q.2.2) (l := M1) fun a _ b _ => rfl)
end
end Pm

namespace Pm
open PySem PySem.Spec PyProof.Rows L2
open PySem.W (EachIs AllAlike dataLe)
def tLenN (K : PySem.W.Frag) (ta : TE) : TE := fun σ H Q => ta σ H fun x H1 => ∃ (l : Addr) (xs : List V) (ds : List D), x = V.ref l ∧ SqL K H1 l xs ∧ DpAll K H1 xs ds ∧ nkT ds = true ∧ Q (.int (distK ds).length) H1
def tSortN (K : PySem.W.Frag) (ta : TE) : TE := fun σ H Q => ta σ H fun x H1 => ∃ (l : Addr) (xs : List V) (ds : List D), x = V.ref l ∧ SqL K H1 l xs ∧ DpAll K H1 xs ds ∧ nkT ds = true ∧ srtB (distK ds) = true ∧
  ∀ (p : Addr) (M : List (V × D)), (∀ b ∈ M, b ∈ xs.zip ds) → M.map (·.2) = srt (distK ds) → M.length ≤ sizeLine → H1 p = none → Q (.ref p) (upd H1 p (.lst (M.map (·.1))))
/-- the set laid, and what stands in it -/
theorem laid_n {X : Cx} {pins : List (Addr × Obj)} {σ : L2.St} {H : Hp} {s : Shared} {A' : Around} {l : Addr} {xs : List V} {ds : List D} {E : Value → Shared → Prop} {Q : Value → Shared → Prop} (I : Inv X pins σ H s) (hh : A'.handled = none) (hu : A'.units + 20 < cLine)
    (hs : SqL X.K H l xs) (hd : DpAll X.K H xs ds) (hk : nkT ds = true)
    (h : ∀ (t : Shared) (a : Addr) (qs M : QL) es ep tb, Inv X pins σ H t → (xs.zip ds) = qs.map (·.2) → Qs t.heap qs → (∀ q ∈ M, q ∈ qs) → SetN X.prog X.w t.heap a (M.map qk) es ep tb → (M.map fun q => q.2.2).Perm (distK ds) → (∀ d ∈ ds, nkB d = true ∧ d.depth ≤ 8) → Q (.ref a) t) :
    wpAny (model X.prog X.w) A' (call (.type "set") [.ref l]) Q E s := by
  obtain ⟨its, rv, pl, hz⟩ := I.list hs
  obtain ⟨ok, low⟩ := nkT_ok hk
  obtain ⟨e1, e2⟩ := each_of I hd (fun d hm => (ok d hm).2.2.1) rv
  have le := dpall_len hd
  have zz : (xs.zip ds).map (·.2) = ds := List.map_snd_zip (by omega)
  obtain ⟨qs, i1, i2, i3⟩ := qs_of e1 e2 fun b hb => (ok b.2 (List.of_mem_zip (a := b.1) (b := b.2) hb).2).1
  have dq : qs.map (fun q => q.2.2) = ds := by
    rw [← zz, i2, List.map_map]
    rfl
  have lq : (qs.map qk).length < 299 := by
    rw [List.length_map, ← List.length_map (f := fun q : Addr × V × D => q.2.2), dq]
    exact low
  have okq : ∀ q ∈ qs, nkB q.2.2 = true ∧ q.2.2.depth ≤ 8 := fun q hq => by
    have z := ok q.2.2 (by rw [← dq]; exact List.mem_map.mpr ⟨q, hq, rfl⟩)
    exact ⟨z.2.1, z.2.2.2⟩
  refine call_set_n (P := X.prog) (w := X.w) (qs.map qk) hh pl.isList (by show its = _; rw [i1, List.map_map]; rfl) (fun p hp => ?_) lq hu fun h' tk L es ep t R g kp => ?_
  · obtain ⟨q, hq, rfl⟩ := List.mem_map.mp hp
    obtain ⟨as, r⟩ := i3.rd q hq
    exact ⟨⟨nk_is _ _ _ r (okq q hq).1, Nat.le_trans (nk_depth _) (okq q hq).2⟩, nk_num _ (okq q hq).1⟩
  · obtain ⟨M, rfl, hM⟩ := pull (f := qk) (qs := qs) (L := L) fun p hp => List.mem_of_mem_take (g.inn p hp)
    refine h _ _ qs M es ep t (I.kept kp) i2 ⟨i3.rel, fun q hq => ?_⟩ hM R ?_ fun d hd => ⟨(ok d hd).2.1, (ok d hd).2.2.2⟩
    · obtain ⟨as, r⟩ := i3.rd q hq
      exact ⟨as, PyProof.Rows.Reads.keeps (fun b u z => kp b u z) r⟩
    · rw [← dq]
      exact set_data (fun q hq => (okq q hq).1) g R.nd rfl hM
theorem pe_lenN {X : Cx} {a : Expr} {ta : TE} {p p2 q pos : Pos} (hc : X.calm = true) (hu : X.A.units + 64 < cLine) (hg : Gl X "len") (hm : X.mg "len" = none) (hg2 : Gl X "set") (hm2 : X.mg "set" = none) (ha : PE X a ta)
    (na : starEach [a] X.env = (false, eval a X.env) :: starEach [] X.env := by rfl) : PE X (.Call (.Name "len" p) [.Call (.Name "set" p2) [a] [] q] [] pos) (tLenN X.K ta) := by
  refine ⟨fun pins s σ H Q I h => Call_ (ld_blt I hg hm boot_len (callWith_builtin1 (args_cons ?_ rfl) rfl rfl))⟩
  refine Call_ (ld_blt I hg2 hm2 boot_set (callWith_type1 (args_cons (thn (ha.run pins s σ H _ I h) fun v t1 ⟨x, H1, J1, r1, q1⟩ => args_nil ?_) na) na rfl))
  obtain ⟨l, xs, ds, rfl, hs, hd, hk, q1⟩ := q1
  cases r1
  refine laid_n J1 (J1.ok.hd hc) (by omega) hs hd hk fun t a qs M es ep tb J2 z Z hM R pm ok => args_nil ?_
  obtain ⟨o, ho, hex, hdt⟩ := R.ob
  have n1 := rows_size R.rows
  rw [List.length_map, ← List.length_map (f := fun q : Addr × V × D => q.2.2), pm.length_eq] at n1
  have n2 := (nkT_ok hk).2
  have n3 : es.size < 300 := by
    have := R.few
    rw [List.length_map] at this
    have := rows_size R.rows
    rw [List.length_map] at this
    omega
  exact call_len_set ho hex hdt R.fits (by omega) ⟨.int (distK ds).length, H1, J2.tok _, ⟨_, by rw [n1]⟩, q1⟩
theorem pe_sortN {X : Cx} {a : Expr} {ta : TE} {p p2 q pos : Pos} (hc : X.calm = true) (hu : X.A.units + 64 < cLine) (hg : Gl X "sorted") (hm : X.mg "sorted" = none) (hg2 : Gl X "set") (hm2 : X.mg "set" = none) (ha : PE X a ta)
    (na : starEach [a] X.env = (false, eval a X.env) :: starEach [] X.env := by rfl)
    (nb : starEach [.Call (.Name "set" p2) [a] [] q] X.env = (false, eval (.Call (.Name "set" p2) [a] [] q) X.env) :: starEach [] X.env := by rfl) : PE X (.Call (.Name "sorted" p) [.Call (.Name "set" p2) [a] [] q] [] pos) (tSortN X.K ta) := by
  refine ⟨fun pins s σ H Q I h => Call_ (ld_blt I hg hm (show bootBuiltins "sorted" = some (.builtin "sorted") by decide +kernel) (callWith_builtin1 (args_cons ?_ nb) nb rfl))⟩
  refine Call_ (ld_blt I hg2 hm2 boot_set (callWith_type1 (args_cons (thn (ha.run pins s σ H _ I h) fun v t1 ⟨x, H1, J1, r1, q1⟩ => args_nil ?_) na) na rfl))
  obtain ⟨l, xs, ds, rfl, hs, hd, hk, hb, q1⟩ := q1
  cases r1
  refine laid_n J1 (J1.ok.hd hc) (by omega) hs hd hk fun t a qs M es ep tb J2 z Z hM R pm ok => args_nil ?_
  obtain ⟨b1, b2, b3⟩ := srtB_ok hb
  have hds : ∀ d ∈ ds, nkB d = true := fun d hd => (ok d hd).1
  have mq : ∀ q ∈ M, q.2.2 ∈ ds := fun q hq => (distK_mem hds _).mp (pm.mem_iff.mp (List.mem_map.mpr ⟨q, hq, rfl⟩))
  refine sorted_n R (J2.ok.hd hc) (fun q hq => Z.rd q (hM q hq)) (fun d hd e he => b2 d (pm.mem_iff.mp hd) e (pm.mem_iff.mp he)) ?_ (fun q hq => (ok _ (mq q hq)).2) (fun q hq => (ok _ (mq q hq)).1) (by omega) fun s' r c M' k g o hp hl hM' len e => ?_
  · rcases b3 with (b3 | b3) | ⟨b3, b4⟩
    · exact .inl (.inl fun d hd => b3 d (pm.mem_iff.mp hd))
    · exact .inl (.inr fun d hd => b3 d (pm.mem_iff.mp hd))
    · exact .inr ⟨fun d hd => b3 d (pm.mem_iff.mp hd), pm.mem_iff.mpr b4⟩
  · have few : M'.length ≤ sizeLine := by
      have := R.few
      rw [List.length_map] at this
      rw [len, sizeLine_eq]
      omega
    have hn : H1 r = none := J2.hok.fresh hp
    have rel : ∀ N : QL, (∀ q ∈ N, q ∈ qs) → Vals ((N.map (·.2)).map (·.1)) (N.map qv) := fun N => by
      induction N with
      | nil => exact fun _ => .nil
      | cons q N ih => exact fun h => .cons (Z.rel q (h q List.mem_cons_self)) (ih fun x hx => h x (List.mem_cons_of_mem _ hx))
    have rv := rel M' fun q hq => hM q (hM' q hq)
    have J : Inv X pins σ (upd H1 r (.lst ((M'.map (·.2)).map (·.1)))) { t with heap := s'.heap, gens := s'.gens, drawn := s'.drawn, toks := s'.toks } :=
      J2.call (ch := []) (Un.laid k hp hn) (J2.hok.laid k hp ⟨by rw [List.length_map, List.length_map]; exact few, M'.map qv, c, rv, hl⟩) (by rw [g]; exact J2.bare) (fun _ z => nomatch z)
    have e2 : s' = { t with heap := s'.heap, gens := s'.gens, drawn := s'.drawn, toks := s'.toks } := by
      cases s'
      cases t
      cases o
      rfl
    rw [e2]
    refine ⟨.ref r, _, J, rfl, q1 r (M'.map (·.2)) (fun b hb => ?_) ?_ (by rw [List.length_map]; exact few) hn⟩
    · obtain ⟨q, hq, rfl⟩ := List.mem_map.mp hb
      rw [z]
      exact List.mem_map_of_mem (hM q (hM' q hq))
    · rw [List.map_map]
      refine e.trans (srt_perm pm (fun d hd => (ok d ((distK_mem hds _).mp (pm.mem_iff.mp hd))).1) fun d hd e he => b2 d (pm.mem_iff.mp hd) e (pm.mem_iff.mp he))
def lenSetN : List D → Option D
  | [.list ds] => if nkT ds then some (.int (distK ds).length) else none
  | _ => none
def sortSetN : List D → Option Ow
  | [.list ds] => if nkT ds && srtB (distK ds) then some (.l (srt (distK ds))) else none
  | _ => none
section
variable {ι : Type} {𝒳 : ι → Cx} {G : Gx} {k : Nat}
theorem cLenSetN {a : Expr} {m : ME} {p p2 q pos : Pos} (fm : Fm G k 𝒳) (hm : G.mg "len" = none) (hm2 : G.mg "set" = none) (h : CE 𝒳 G a m) (hg : ∀ i, Gl (𝒳 i) "len" := by intro _; rfl) (hg2 : ∀ i, Gl (𝒳 i) "set" := by intro _; rfl)
    (na : ∀ i, starEach [a] (𝒳 i).env = (false, eval a (𝒳 i).env) :: starEach [] (𝒳 i).env := by intro _; rfl) : CE 𝒳 G (.Call (.Name "len" p) [.Call (.Name "set" p2) [a] [] q] [] pos) (mCallB lenSetN (mCons m mNil)) := by
  obtain ⟨t, hp, hi⟩ := h
  refine ⟨tLenN G.K t, fun i => by have z := pe_lenN (p := p) (p2 := p2) (q := q) (pos := pos) (fm.calm i) (room64 fm i) (hg i) (by rw [fm.mg i]; exact hm) (hg2 i) (by rw [fm.mg i]; exact hm2) (hp i) (na i); rw [fm.K i] at z; exact z, fun Φ R ρ σ H d ρ' S e Q q => ?_⟩
  obtain ⟨ds, ρ1, e1, e⟩ := Re.of_bind e
  obtain ⟨d0, ρ2, e3, e1⟩ := Re.of_bind e1
  cases e1
  obtain ⟨e2, rfl⟩ := Re.of_opt e
  refine hi Φ R ρ σ H d0 _ S e3 _ fun v R1 H1 S1 x1 qv => ?_
  unfold lenSetN at e2
  split at e2
  · rename_i us heq
    cases heq
    obtain ⟨hk, f6⟩ := Option.ite_none_right_eq_some.mp e2
    cases f6
    obtain ⟨l, xs, rfl, h1, h2⟩ := dq_list.mp qv
    have hp : PyData.plainAll us = true := (sh_all (n := 60) fun d hd => by
      have z := (nkT_ok hk).1 d hd
      exact ⟨z.2.2.1, by omega⟩).1
    exact ⟨l, xs, us, rfl, .inl (.inl (S1.sub _ _ h1)), DqA.dp S1.sub _ _ hp h2, hk, q _ R1 H1 S1 x1 (dq_int.mpr rfl)⟩
  · cases e2
theorem oSortSetN {a : Expr} {m : ME} {p p2 q pos : Pos} (fm : Fm G k 𝒳) (hm : G.mg "sorted" = none) (hm2 : G.mg "set" = none) (h : CE 𝒳 G a m) (hg : ∀ i, Gl (𝒳 i) "sorted" := by intro _; rfl) (hg2 : ∀ i, Gl (𝒳 i) "set" := by intro _; rfl)
    (na : ∀ i, starEach [a] (𝒳 i).env = (false, eval a (𝒳 i).env) :: starEach [] (𝒳 i).env := by intro _; rfl)
    (nb : ∀ i, starEach [.Call (.Name "set" p2) [a] [] q] (𝒳 i).env = (false, eval (.Call (.Name "set" p2) [a] [] q) (𝒳 i).env) :: starEach [] (𝒳 i).env := by intro _; rfl) : CO 𝒳 G (.Call (.Name "sorted" p) [.Call (.Name "set" p2) [a] [] q] [] pos) (mCallO sortSetN (mCons m mNil)) := by
  obtain ⟨t, hp, hi⟩ := h
  refine ⟨tSortN G.K t, fun i => by have z := pe_sortN (p := p) (p2 := p2) (q := q) (pos := pos) (fm.calm i) (room64 fm i) (hg i) (by rw [fm.mg i]; exact hm) (hg2 i) (by rw [fm.mg i]; exact hm2) (hp i) (na i) (nb i); rw [fm.K i] at z; exact z, fun Φ R ρ σ H w ρ' S e Q q => ?_⟩
  obtain ⟨ds, ρ1, e1, e⟩ := Re.of_bind e
  obtain ⟨d0, ρ2, e3, e1⟩ := Re.of_bind e1
  cases e1
  obtain ⟨e2, rfl⟩ := Re.of_opt e
  refine hi Φ R ρ σ H d0 _ S e3 _ fun v R1 H1 S1 x1 qv => ?_
  unfold sortSetN at e2
  split at e2
  · rename_i us heq
    cases heq
    obtain ⟨hk, f6⟩ := Option.ite_none_right_eq_some.mp e2
    cases f6
    rw [Bool.and_eq_true] at hk
    obtain ⟨l, xs, rfl, h1, h2⟩ := dq_list.mp qv
    have hp : PyData.plainAll us = true := (sh_all (n := 60) fun d hd => by
      have z := (nkT_ok hk.1).1 d hd
      exact ⟨z.2.2.1, by omega⟩).1
    refine ⟨l, xs, us, rfl, .inl (.inl (S1.sub _ _ h1)), DqA.dp S1.sub _ _ hp h2, hk.1, hk.2, fun p M hM e lm nl => q p R1 _ (S1.made nl) x1 (S1.mine nl) ⟨_, upd_same, ?_, by rw [List.length_map]; exact lm⟩⟩
    rw [← e]
    exact dqa_of fun b hb => dqa_zip h2 b (hM b hb)
  · cases e2
end
end Pm

namespace Pm
open PySem PySem.Spec PyProof.Rows L2
/-! own dicts: d[k], d[k] = v, k in d, len(d), sorted(d) -/
def keyOf : D → Option Key
  | .int i => some (.inl i)
  | .str x => some (.inr x)
  | _ => none
def keyL : List D → Option (List Key)
  | [] => some []
  | d :: ds => (keyOf d).bind fun k => (keyL ds).map fun r => k :: r
def keysOf : D → Option (List Key)
  | .tuple ds => keyL ds
  | _ => none
theorem keyOf_eq {d : D} {k : Key} (h : keyOf d = some k) : d = keyD k := by
  cases d <;> simp [keyOf] at h <;> rw [← h] <;> rfl
theorem keyL_eq : ∀ {ds : List D} {ks : List Key}, keyL ds = some ks → ds = ks.map keyD
  | [], _, h => by cases h; rfl
  | d :: ds, _, h => by
    obtain ⟨k, e1, h⟩ := Option.bind_eq_some_iff.mp h
    obtain ⟨r, e2, rfl⟩ := Option.map_eq_some_iff.mp h
    rw [List.map_cons, ← keyOf_eq e1, ← keyL_eq e2]
theorem keysOf_eq {d : D} {ks : List Key} (h : keysOf d = some ks) : d = keysD ks := by
  cases d with
  | tuple ds => exact congrArg PyData.tuple (keyL_eq h)
  | _ => simp [keysOf] at h
section
variable {K : PySem.W.Frag} {R : Hp}
theorem dq_key {k : Key} {v : V} : Dq K R (keyD k) v ↔ v = kV k := by
  cases k with
  | inl i => exact dq_int
  | inr x => exact dq_str
theorem dqa_keys : ∀ {ks : List Key} {xs : List V}, DqA K R (ks.map keyD) xs ↔ xs = ks.map kV
  | [], xs => by rw [List.map_nil, dqa_nil, List.map_nil]
  | k :: ks, xs => by
    rw [List.map_cons, dqa_cons, List.map_cons]
    constructor
    · rintro ⟨x, r, rfl, h1, h2⟩
      rw [dq_key.mp h1, dqa_keys.mp h2]
    · rintro rfl
      exact ⟨_, _, rfl, dq_key.mpr rfl, dqa_keys.mpr rfl⟩
end
section
variable {κ : Type} [DecidableEq κ]
def dval (kvs : List (κ × D)) (k : κ) : Option D := (kvs.find? fun p => decide (p.1 = k)).map (·.2)
def dput (kvs : List (κ × D)) (k : κ) (d : D) : List (κ × D) := if (kvs.any fun p => decide (p.1 = k)) = true then kvs.map (fun p => if p.1 = k then (p.1, d) else p) else kvs ++ [(k, d)]
theorem dval_zip {K : PySem.W.Frag} {R : Hp} : ∀ {kvs : List (κ × D)} {xs : List V} (k : κ), DqA K R (kvs.map (·.2)) xs →
    (∃ d v, dval kvs k = some d ∧ valV ((kvs.map (·.1)).zip xs) k = some v ∧ Dq K R d v) ∨ (dval kvs k = none ∧ valV ((kvs.map (·.1)).zip xs) k = none)
  | [], xs, k, h => by
    rw [List.map_nil, dqa_nil] at h
    subst h
    exact .inr ⟨rfl, rfl⟩
  | p :: kvs, xs, k, h => by
    rw [List.map_cons, dqa_cons] at h
    obtain ⟨x, r, rfl, h1, h2⟩ := h
    by_cases e : p.1 = k
    · exact .inl ⟨p.2, x, by simp [dval, List.find?_cons, e], by simp [valV, List.find?_cons, e], h1⟩
    · have a1 : dval (p :: kvs) k = dval kvs k := by simp [dval, List.find?_cons, e]
      have a2 : valV (((p :: kvs).map (·.1)).zip (x :: r)) k = valV ((kvs.map (·.1)).zip r) k := by simp [valV, List.find?_cons, e]
      rw [a1, a2]
      exact dval_zip k h2
theorem dput_zip {K : PySem.W.Frag} {R : Hp} {kvs : List (κ × D)} {xs : List V} {d : D} {v : V} (k : κ) (h : DqA K R (kvs.map (·.2)) xs) (hv : Dq K R d v) :
    ∃ ys, putK ((kvs.map (·.1)).zip xs) k v = ((dput kvs k d).map (·.1)).zip ys ∧ DqA K R ((dput kvs k d).map (·.2)) ys := by
  have hl : kvs.length = xs.length := by have := h.length; rw [List.length_map] at this; exact this
  have any : (((kvs.map (·.1)).zip xs).any fun p => decide (p.1 = k)) = kvs.any fun p => decide (p.1 = k) := by
    have go : ∀ (kvs : List (κ × D)) (xs : List V), kvs.length = xs.length → (((kvs.map (·.1)).zip xs).any fun p => decide (p.1 = k)) = kvs.any fun p => decide (p.1 = k) := fun kvs => by
      induction kvs with
      | nil => intro xs _; rfl
      | cons p kvs ih =>
        intro xs hl
        cases xs with
        | nil => cases hl
        | cons x xs =>
          rw [List.map_cons, List.zip_cons_cons, List.any_cons, List.any_cons, ih xs (by simpa using hl)]
    exact go kvs xs hl
  unfold putK dput
  rw [any]
  by_cases c : (kvs.any fun p => decide (p.1 = k)) = true
  · rw [if_pos c, if_pos c]
    have go : ∀ (kvs : List (κ × D)) (xs : List V), DqA K R (kvs.map (·.2)) xs → ∃ ys, ((kvs.map (·.1)).zip xs).map (fun kv => if kv.1 = k then (kv.1, v) else kv) = ((kvs.map fun p => if p.1 = k then (p.1, d) else p).map (·.1)).zip ys ∧ DqA K R ((kvs.map fun p => if p.1 = k then (p.1, d) else p).map (·.2)) ys := fun kvs => by
      induction kvs with
      | nil => intro xs h; exact ⟨[], rfl, dqa_nil.mpr rfl⟩
      | cons p kvs ih =>
        intro xs h
        rw [List.map_cons, dqa_cons] at h
        obtain ⟨x, r, rfl, h1, h2⟩ := h
        obtain ⟨ys, e1, e2⟩ := ih r h2
        by_cases e : p.1 = k
        · refine ⟨v :: ys, by simp [e] at e1 ⊢; simp [e1], ?_⟩
          rw [List.map_cons, List.map_cons, if_pos e]
          exact dqa_cons.mpr ⟨_, _, rfl, hv, e2⟩
        · refine ⟨x :: ys, by simp [e] at e1 ⊢; simp [e1], ?_⟩
          rw [List.map_cons, List.map_cons, if_neg e]
          exact dqa_cons.mpr ⟨_, _, rfl, h1, e2⟩
    exact go kvs xs h
  · rw [if_neg c, if_neg c]
    refine ⟨xs ++ [v], ?_, ?_⟩
    · rw [List.map_append, List.zip_append (by rw [List.length_map]; exact hl)]
      rfl
    · rw [List.map_append]
      exact h.append (dqa_one hv)
end
/-- the own dict in a slot -/
def dicOw (i : Nat) (ρ : PE0) : Option Ow := match ρ[i]? with
  | some (.own (.dk kvs)) => some (.dk kvs)
  | some (.own (.dt kvs)) => some (.dt kvs)
  | _ => none
def dgetO : Ow → D → Option (Option D)
  | .dk kvs, d => (keyOf d).map (dval kvs)
  | .dt kvs, d => (keysOf d).map (dval kvs)
  | .l _, _ => none
def dputO : Ow → D → D → Option Ow
  | .dk kvs, k, d => (keyOf k).bind fun k => if kvs.length < 100000 then some (.dk (dput kvs k d)) else none
  | .dt kvs, k, d => (keysOf k).bind fun k => if kvs.length < 100000 then some (.dt (dput kvs k d)) else none
  | .l _, _, _ => none
@[simp] theorem dicOw_eq (i : Nat) (ρ : PE0) : dicOw i ρ = (match ρ[i]? with | some (.own (.dk kvs)) => some (.dk kvs) | some (.own (.dt kvs)) => some (.dt kvs) | _ => none) := rfl
section
variable {ι : Type} {𝒳 : ι → Cx} {G : Gx} {k : Nat} {W : WX} {Φ : Fx} {R H : Hp} {ρ : PE0} {σ : L2.St} {i : Nat} {w : Ow}
theorem dic_s (h : dicOw i ρ = some w) : ρ[i]? = some (.own w) := by
  unfold dicOw at h
  split at h
  · rename_i e; cases h; exact e
  · rename_i e; cases h; exact e
  · cases h
theorem own_get {a : Addr} {d : D} {y : V} {r : Option D} (h : OwnAt G.K R H a w) (sub : Ext R H) (q : Dq G.K R d y) (e : dgetO w d = some r) :
    ∃ o, DGet H a y o ∧ ((∃ d' v, r = some d' ∧ o = some v ∧ Dq G.K R d' v) ∨ (r = none ∧ o = none)) := by
  cases w with
  | l ds => cases e
  | dk kvs =>
    obtain ⟨xs, h1, h2⟩ := h
    obtain ⟨k, e1, rfl⟩ := Option.map_eq_some_iff.mp e
    rw [keyOf_eq e1] at q
    cases dq_key.mp q
    refine ⟨_, DGet.k h1, ?_⟩
    rcases dval_zip k h2 with ⟨d', v, a1, a2, a3⟩ | ⟨a1, a2⟩
    · exact .inl ⟨d', v, a1, a2, a3⟩
    · exact .inr ⟨a1, a2⟩
  | dt kvs =>
    obtain ⟨xs, h1, h2⟩ := h
    obtain ⟨k, e1, rfl⟩ := Option.map_eq_some_iff.mp e
    rw [keysOf_eq e1] at q
    obtain ⟨b, us, rfl, g1, g2⟩ := dq_tuple.mp q
    rw [dqa_keys] at g2
    subst g2
    refine ⟨_, DGet.t h1 (sub _ _ g1), ?_⟩
    rcases dval_zip k h2 with ⟨d', v, a1, a2, a3⟩ | ⟨a1, a2⟩
    · exact .inl ⟨d', v, a1, a2, a3⟩
    · exact .inr ⟨a1, a2⟩
theorem nosl_of {b : Expr} (h : PlainIx b) : NoSl b := h
/-! ### d[k] -/
def mOdget (i : Nat) (m : ME) : ME := fun ρ => match dicOw i ρ with
  | some _ => (m ρ).bind fun d ρ1 => match dicOw i ρ1 with
    | some w => Re.opt ((dgetO w d).bind id) ρ1
    | none => .bad
  | none => .bad
@[simp] theorem mOdget_eq (i : Nat) (m : ME) (ρ : PE0) : mOdget i m ρ = (match dicOw i ρ with | some _ => (m ρ).bind fun d ρ1 => (match dicOw i ρ1 with | some w => Re.opt ((dgetO w d).bind id) ρ1 | none => .bad) | none => .bad) := rfl
theorem cOdget (i : Nat) {y : Str} {b : Expr} {m : ME} {py pos : Pos} (fm : Fm G k 𝒳) (h : CE 𝒳 G b m) (hN : ∀ j, (𝒳 j).N[i]? = some y := by intro _; rfl) (hv : ∀ j, Vis (𝒳 j).env.scope y := by first | exact fun _ => Or.inl rfl | exact fun _ => Or.inr (Or.inl rfl) | exact fun _ => Or.inr (Or.inr rfl)) (hd : (y == ("__debug__" : Str)) = false := by decide) (hcd : (y == ("__classdict__" : Str)) = false := by decide)
    (hs : PlainIx b := by exact fun _ _ => rfl) : CE 𝒳 G (.Subscript (.Name y py) b pos) (mOdget i m) := by
  obtain ⟨t, hp, hi⟩ := h
  refine ⟨tDGet (tVar i) t, fun j => pe_dget (by have := room64 fm j; omega) (pe_var (hN j) (hv j) hd hcd) (hp j) (nosl_of hs), fun Φ R ρ σ H d ρ' S e Q q => ?_⟩
  unfold mOdget at e
  split at e
  · rename_i w0 hw0
    obtain ⟨d1, ρ1, e1, e⟩ := Re.of_bind e
    split at e
    · rename_i w hw
      obtain ⟨e2, rfl⟩ := Re.of_opt e
      obtain ⟨a, z1, _⟩ := S.sl i _ (dic_s hw0)
      refine ⟨.ref a, z1, hi Φ R ρ σ H d1 ρ' S e1 _ fun v R1 H1 S1 x1 qv => ?_⟩
      obtain ⟨b2, y1, _, _, y4⟩ := S1.sl i _ (dic_s hw)
      rw [z1] at y1
      cases y1
      obtain ⟨r, e3, e4⟩ := Option.bind_eq_some_iff.mp e2
      have e4 : r = some d := e4
      obtain ⟨o, g1, g2⟩ := own_get y4 S1.sub qv e3
      rcases g2 with ⟨d', u, a1, a2, a3⟩ | ⟨a1, _⟩
      · subst a2
        rw [e4] at a1
        cases a1
        exact ⟨a, u, rfl, g1, q u R1 H1 S1 x1 a3⟩
      · rw [e4] at a1; cases a1
    · cases e
  · cases e
/-! ### k in d -/
def mOdin (neg : Bool) (i : Nat) (m : ME) : MT := fun ρ => (m ρ).bind fun d ρ1 => match dicOw i ρ1 with
  | some w => Re.opt ((dgetO w d).map fun o => if neg then !o.isSome else o.isSome) ρ1
  | none => .bad
@[simp] theorem mOdin_eq (neg : Bool) (i : Nat) (m : ME) (ρ : PE0) : mOdin neg i m ρ = (m ρ).bind fun d ρ1 => (match dicOw i ρ1 with | some w => Re.opt ((dgetO w d).map fun o => if neg then !o.isSome else o.isSome) ρ1 | none => .bad) := rfl
theorem iOdin {t : TE} {m : ME} {neg : Bool} {i : Nat} (hi : ∀ Φ, IE G Φ t m) : ∀ Φ, IT G Φ (tB (if neg then tDNotIn t (tVar i) else tDIn t (tVar i))) (mOdin neg i m) := fun Φ R ρ σ H b ρ' S e Q q => by
  obtain ⟨d, ρ1, e1, e⟩ := Re.of_bind e
  have key : ∀ v R1 H1, SR G Φ R1 ρ1 σ H1 → Ext R R1 → Dq G.K R1 d v → ∃ x, σ[i]? = some (some x) ∧ ∃ a o, x = .ref a ∧ DGet H1 a v o ∧ Q (if neg then !o.isSome else o.isSome) H1 := fun v R1 H1 S1 x1 qv => by
    split at e
    · rename_i w hw
      obtain ⟨e2, rfl⟩ := Re.of_opt e
      obtain ⟨r, e3, rfl⟩ := Option.map_eq_some_iff.mp e2
      obtain ⟨a, y1, _, _, y4⟩ := S1.sl i _ (dic_s hw)
      obtain ⟨o, g1, g2⟩ := own_get y4 S1.sub qv e3
      refine ⟨.ref a, y1, a, o, rfl, g1, ?_⟩
      have er : r.isSome = o.isSome := by
        rcases g2 with ⟨d', u, rfl, rfl, _⟩ | ⟨rfl, rfl⟩ <;> rfl
      rw [← er]
      exact q R1 H1 S1 x1
    · cases e
  cases neg with
  | false =>
    refine hi Φ R ρ σ H d ρ1 S e1 _ fun v R1 H1 S1 x1 qv => ?_
    obtain ⟨x, hx, a, o, rfl, g, h⟩ := key v R1 H1 S1 x1 qv
    exact ⟨.ref a, hx, a, o, rfl, g, _, rfl, h⟩
  | true =>
    refine hi Φ R ρ σ H d ρ1 S e1 _ fun v R1 H1 S1 x1 qv => ?_
    obtain ⟨x, hx, a, o, rfl, g, h⟩ := key v R1 H1 S1 x1 qv
    exact ⟨.ref a, hx, a, o, rfl, g, _, rfl, h⟩
theorem tOdIn (i : Nat) {y : Str} {a : Expr} {m : ME} {py pos : Pos} (fm : Fm G k 𝒳) (h : CE 𝒳 G a m) (hN : ∀ j, (𝒳 j).N[i]? = some y := by intro _; rfl) (hv : ∀ j, Vis (𝒳 j).env.scope y := by first | exact fun _ => Or.inl rfl | exact fun _ => Or.inr (Or.inl rfl) | exact fun _ => Or.inr (Or.inr rfl)) (hd : (y == ("__debug__" : Str)) = false := by decide) (hcd : (y == ("__classdict__" : Str)) = false := by decide)
    (hm : behindInMarks .In (.Name y py) = false := by first | exact nomark _ | rfl) : CT 𝒳 G (.Compare a [.In] [.Name y py] pos) (mOdin false i m) := by
  obtain ⟨t, hp, hi⟩ := h
  exact ⟨_, fun j => pt_cmp (pc_din (by have := room64 fm j; omega) (hp j) (pe_var (hN j) (hv j) hd hcd)) hm, iOdin (neg := false) hi⟩
theorem tOdNot (i : Nat) {y : Str} {a : Expr} {m : ME} {py pos : Pos} (fm : Fm G k 𝒳) (h : CE 𝒳 G a m) (hN : ∀ j, (𝒳 j).N[i]? = some y := by intro _; rfl) (hv : ∀ j, Vis (𝒳 j).env.scope y := by first | exact fun _ => Or.inl rfl | exact fun _ => Or.inr (Or.inl rfl) | exact fun _ => Or.inr (Or.inr rfl)) (hd : (y == ("__debug__" : Str)) = false := by decide) (hcd : (y == ("__classdict__" : Str)) = false := by decide)
    (hm : behindInMarks .NotIn (.Name y py) = false := by first | exact nomark _ | rfl) : CT 𝒳 G (.Compare a [.NotIn] [.Name y py] pos) (mOdin true i m) := by
  obtain ⟨t, hp, hi⟩ := h
  exact ⟨_, fun j => pt_cmp (pc_dnotin (by have := room64 fm j; omega) (hp j) (pe_var (hN j) (hv j) hd hcd)) hm, iOdin (neg := true) hi⟩
/-! ### d[k] = v -/
def mOdset (i : Nat) (me m : ME) : MS := fun ρ => Fl.of (m ρ) fun d ρ1 => match dicOw i ρ1 with
  | some _ => Fl.of (me ρ1) fun e ρ2 => match dicOw i ρ2 with
    | some w => match dputO w e d with
      | some w' => .nx (ρ2.set i (.own w'))
      | none => .bad
    | none => .bad
  | none => .bad
@[simp] theorem mOdset_eq (i : Nat) (me m : ME) (ρ : PE0) : mOdset i me m ρ = Fl.of (m ρ) fun d ρ1 => (match dicOw i ρ1 with | some _ => Fl.of (me ρ1) fun e ρ2 => (match dicOw i ρ2 with | some w => (match dputO w e d with | some w' => .nx (ρ2.set i (.own w')) | none => .bad) | none => .bad) | none => .bad) := rfl
theorem own_put {a : Addr} {d e : D} {y v : V} {w' : Ow} (h : OwnAt G.K R H a w) (sub : Ext R H) (nr : R a = none) (q : Dq G.K R e y) (qv : Dq G.K R d v) (ep : dputO w e d = some w') :
    ∃ o u, H a = some o ∧ Plain o ∧ DPut H a y v (upd H a u) ∧ OwnAt G.K R (upd H a u) a w' := by
  cases w with
  | l ds => cases ep
  | dk kvs =>
    obtain ⟨xs, h1, h2⟩ := h
    obtain ⟨k, e1, ep⟩ := Option.bind_eq_some_iff.mp ep
    obtain ⟨hl, ep⟩ := Option.ite_none_right_eq_some.mp ep
    cases ep
    rw [keyOf_eq e1] at q
    cases dq_key.mp q
    obtain ⟨ys, p1, p2⟩ := dput_zip k h2 qv
    refine ⟨_, _, h1, plain_dk _, DPut.k h1 (by rw [List.length_zip, List.length_map, sizeLine_eq]; omega), ?_⟩
    rw [p1]
    exact ⟨ys, upd_same, p2⟩
  | dt kvs =>
    obtain ⟨xs, h1, h2⟩ := h
    obtain ⟨k, e1, ep⟩ := Option.bind_eq_some_iff.mp ep
    obtain ⟨hl, ep⟩ := Option.ite_none_right_eq_some.mp ep
    cases ep
    rw [keysOf_eq e1] at q
    obtain ⟨b, us, rfl, g1, g2⟩ := dq_tuple.mp q
    rw [dqa_keys] at g2
    subst g2
    obtain ⟨ys, p1, p2⟩ := dput_zip k h2 qv
    refine ⟨_, _, h1, plain_dt _, DPut.t h1 (sub _ _ g1) (by rw [List.length_zip, List.length_map, sizeLine_eq]; omega), ?_⟩
    rw [p1]
    exact ⟨ys, upd_same, p2⟩
theorem sOdset (i : Nat) {y : Str} {ix e : Expr} {me m : ME} {py tpos pos : Pos} (fm : Fm G k 𝒳) (hx : CE 𝒳 G ix me) (h : CE 𝒳 G e m) (hN : ∀ j, (𝒳 j).N[i]? = some y := by intro _; rfl) (hv : ∀ j, Vis (𝒳 j).env.scope y := by first | exact fun _ => Or.inl rfl | exact fun _ => Or.inr (Or.inl rfl) | exact fun _ => Or.inr (Or.inr rfl)) (hd : (y == ("__debug__" : Str)) = false := by decide) (hcd : (y == ("__classdict__" : Str)) = false := by decide)
    (hs : ∀ j, swapsWith e (some (.Subscript (.Name y py) ix tpos)) pos.line (𝒳 j).env = pure false := by intro _; rfl) : CS 𝒳 G W (.Assign [.Subscript (.Name y py) ix tpos] e pos) (mOdset i me m) := by
  obtain ⟨t, hp, hi⟩ := h
  obtain ⟨tx, px, ixI⟩ := hx
  refine ⟨sDPut (tVar i) tx t, fun j => ps_dput (by have := room64 fm j; omega) (pe_var (hN j) (hv j) hd hcd) (px j) (hp j) (hs j), fun Φ R ρ σ H S D h => ?_⟩
  obtain ⟨d, ρ1, e1, h⟩ := EndOk.of h
  refine hi Φ R ρ σ H d ρ1 S e1 _ fun v R1 H1 S1 x1 qv => ?_
  split at h
  · rename_i c0 hc0
    obtain ⟨a, z1, _⟩ := S1.sl i _ (dic_s hc0)
    refine ⟨.ref a, z1, ?_⟩
    obtain ⟨d2, ρ2, e2, h⟩ := EndOk.of h
    refine ixI Φ R1 ρ1 σ H1 d2 ρ2 S1 e2 _ fun v2 R2 H2 S2 x2 qv2 => ?_
    split at h
    · rename_i w hw
      obtain ⟨b, y1, y2, _, y4⟩ := S2.sl i _ (dic_s hw)
      rw [z1] at y1
      cases y1
      split at h
      · rename_i w' hw'
        obtain ⟨o, u, g1, g2, g3, g4⟩ := own_put y4 S2.sub y2 qv2 (qv.mono x2) hw'
        exact ⟨a, _, rfl, g3, h σ R2 _ (S2.write (dic_s hw) z1 g1 g2 g4) (x1.trans x2)⟩
      · exact False.elim h
    · exact False.elim h
  · exact False.elim h
/-! ### len(d), sorted(d) -/
def mOdlen (i : Nat) : ME := fun ρ => match dicOw i ρ with
  | some (.dk kvs) => .ok (.int kvs.length) ρ
  | _ => .bad
@[simp] theorem mOdlen_eq (i : Nat) (ρ : PE0) : mOdlen i ρ = (match dicOw i ρ with | some (.dk kvs) => .ok (.int kvs.length) ρ | _ => .bad) := rfl
def rLenDK : List V → Hp → VK → Prop := fun xs H Q => ∃ a kvs, xs = [V.ref a] ∧ H a = some (.dK kvs) ∧ Q (.int kvs.length) H
theorem cr_lenDK {X : Cx} : CallR X (.builtin "len") rLenDK := by
  intro pins s σ H xs us Q I r h
  obtain ⟨a, kvs, rfl, ha, q⟩ := h
  rw [Vals.ref1 r]
  exact d_len I (.inl ha) fun t s' I' => ⟨.int kvs.length, H, I', ⟨_, rfl⟩, q⟩
theorem cOdlen (i : Nat) {y : Str} {py p pos : Pos} (fm : Fm G k 𝒳) (hm : G.mg "len" = none) (hN : ∀ j, (𝒳 j).N[i]? = some y := by intro _; rfl) (hv : ∀ j, Vis (𝒳 j).env.scope y := by first | exact fun _ => Or.inl rfl | exact fun _ => Or.inr (Or.inl rfl) | exact fun _ => Or.inr (Or.inr rfl)) (hd : (y == ("__debug__" : Str)) = false := by decide) (hcd : (y == ("__classdict__" : Str)) = false := by decide)
    (hg : ∀ i, Gl (𝒳 i) "len" := by intro _; rfl) (he : ∀ i, starEach [.Name y py] (𝒳 i).env = (false, eval (.Name y py) (𝒳 i).env) :: starEach [] (𝒳 i).env := by intro _; rfl) : CE 𝒳 G (.Call (.Name "len" p) [.Name y py] [] pos) (mOdlen i) := by
  refine ⟨tCB rLenDK (tCons (tVar i) tNil), fun j => pe_callB cr_lenDK (hg j) (by rw [fm.mg j]; exact hm) boot_len (pa_cons (pe_var (hN j) (hv j) hd hcd) pa_nil (he j)) (by decide) (by decide) (he j) rfl, fun Φ R ρ σ H d ρ' S e Q q => ?_⟩
  unfold mOdlen at e
  split at e
  · rename_i kvs hw
    cases e
    obtain ⟨a, y1, _, _, xs, h1, h2⟩ := S.sl i _ (dic_s hw)
    have hl : ((kvs.map (·.1)).zip xs).length = kvs.length := by rw [List.length_zip, ← h2.length, List.length_map, List.length_map]; omega
    exact ⟨.ref a, y1, a, _, rfl, h1, q _ R H S (Ext.refl R) (dq_int.mpr (by rw [hl]))⟩
  · cases e
/-- the keys, all ints -/
def intKeys : List (Key × D) → Option (List Int)
  | [] => some []
  | (.inl i, _) :: r => (intKeys r).map fun t => i :: t
  | _ :: _ => none
theorem intKeys_eq : ∀ {kvs : List (Key × D)} {ns : List Int}, intKeys kvs = some ns → kvs.map (·.1) = ns.map Sum.inl
  | [], _, h => by cases h; rfl
  | (.inl i, _) :: r, _, h => by
    obtain ⟨t, e, rfl⟩ := Option.map_eq_some_iff.mp h
    rw [List.map_cons, List.map_cons, intKeys_eq e]
  | (.inr x, _) :: r, _, h => by cases h
def isrt (ns : List Int) : List Int := ns.mergeSort fun a b => decide (a ≤ b)
theorem isrt_of {ns ys : List Int} (h1 : ys.Perm ns) (h2 : ys.Pairwise (· ≤ ·)) : ys = isrt ns := by
  have h3 : (isrt ns).Pairwise (· ≤ ·) := (List.pairwise_mergeSort (le := fun a b : Int => decide (a ≤ b)) (fun a b c h1 h2 => by simp at h1 h2 ⊢; omega) (fun a b => by simp; omega) ns).imp fun h => by simpa using h
  exact List.Perm.eq_of_pairwise (le := fun a b : Int => a ≤ b) (fun a b _ _ h1 h2 => by omega) h2 h3 (h1.trans (List.mergeSort_perm ns _).symm)
def mOdsort (i : Nat) : MO := fun ρ => match dicOw i ρ with
  | some (.dk kvs) => Re.opt ((intKeys kvs).bind fun ns => if ns.length < 64 then some (.l ((isrt ns).map .int)) else none) ρ
  | _ => .bad
@[simp] theorem mOdsort_eq (i : Nat) (ρ : PE0) : mOdsort i ρ = (match dicOw i ρ with | some (.dk kvs) => Re.opt ((intKeys kvs).bind fun ns => if ns.length < 64 then some (.l ((isrt ns).map .int)) else none) ρ | _ => .bad) := rfl
theorem oOdsort (i : Nat) {y : Str} {py p pos : Pos} (fm : Fm G k 𝒳) (hm : G.mg "sorted" = none) (hN : ∀ j, (𝒳 j).N[i]? = some y := by intro _; rfl) (hv : ∀ j, Vis (𝒳 j).env.scope y := by first | exact fun _ => Or.inl rfl | exact fun _ => Or.inr (Or.inl rfl) | exact fun _ => Or.inr (Or.inr rfl)) (hd : (y == ("__debug__" : Str)) = false := by decide) (hcd : (y == ("__classdict__" : Str)) = false := by decide)
    (hg : ∀ i, Gl (𝒳 i) "sorted" := by intro _; rfl) (he : ∀ i, starEach [.Name y py] (𝒳 i).env = (false, eval (.Name y py) (𝒳 i).env) :: starEach [] (𝒳 i).env := by intro _; rfl) : CO 𝒳 G (.Call (.Name "sorted" p) [.Name y py] [] pos) (mOdsort i) := by
  refine ⟨tCB (fun xs H Q => ∃ (a : Addr) (kvs : List (Key × V)) (ks : List Int), xs = [.ref a] ∧ Rd H a (.dK kvs) ∧ kvs.map (·.1) = ks.map Sum.inl ∧ ks.length < 64 ∧ ∀ (ys : List Int) (p : Addr), ys.Perm ks → ys.Pairwise (· ≤ ·) → H p = none → Q (.ref p) (upd H p (.lst (ys.map V.int)))) (tCons (tVar i) tNil),
    fun j => pe_callB (call_sortedDI (fm.calm j)) (hg j) (by rw [fm.mg j]; exact hm) (by decide +kernel) (pa_cons (pe_var (hN j) (hv j) hd hcd) pa_nil (he j)) (by decide) (by decide) (he j) rfl, fun Φ R ρ σ H w ρ' S e Q q => ?_⟩
  unfold mOdsort at e
  split at e
  · rename_i kvs hw
    obtain ⟨e2, rfl⟩ := Re.of_opt e
    obtain ⟨ns, e3, e4⟩ := Option.bind_eq_some_iff.mp e2
    obtain ⟨h64, e4⟩ := Option.ite_none_right_eq_some.mp e4
    cases e4
    obtain ⟨a, y1, _, _, xs, h1, h2⟩ := S.sl i _ (dic_s hw)
    have hl : kvs.length = xs.length := by have := h2.length; rw [List.length_map] at this; exact this
    refine ⟨.ref a, y1, a, _, ns, rfl, .inl h1, ?_, h64, fun ys p pm pw np => ?_⟩
    · rw [List.map_fst_zip (by rw [List.length_map]; omega)]
      exact intKeys_eq e3
    · cases isrt_of pm pw
      refine q p R _ (S.made np) (Ext.refl R) (S.mine np) ⟨_, upd_same, dqa_ints _, ?_⟩
      rw [List.length_map, pm.length_eq, sizeLine_eq]
      omega
  · cases e
end
end Pm

namespace Pm
open PySem PySem.Spec PyProof.Rows L2
/-! dicts made: {}, {k: v} with a tuple as key -/
def tDisp1 (tk tv : TE) : TE := fun σ H Q => ∀ p, H p = none → tPairs [(tk, tv)] σ (upd H p (.dT [])) fun ps H2 => H2 p = some (.dT []) ∧ ∃ b ks y, ps = [(V.ref b, y)] ∧ H2 b = some (.tup (List.map kV ks)) ∧ Q (.ref p) (upd H2 p (.dT [(ks, y)]))
theorem pe_disp1 {X : Cx} {pos : Pos} {k v : Expr} {tk tv : TE} (hu : X.A.units + 64 < cLine) (hk : PE X k tk) (hv : PE X v tv) : PE X (.Dict [some k] [v] pos) (tDisp1 tk tv) := by
  refine ⟨fun pins s σ H Q I q => ?_⟩
  have hn := I.hok.fresh (Nat.le_refl s.heap.objs.size)
  have I1 := I.laid (a := s.heap.objs.size) (o := .dT []) (h' := s.heap.push { cls := .type "dict", data := .dict #[] }) (t' := s.toks) (fun _ _ q => Heap.get?_push_of_some _ q) (Nat.le_refl _) (dt_empty s.heap I.big)
  have P : PPs X pos [some k] [v] [(tk, tv)] := pps_cons hk hv pps_nil
  have hl := pairTrees_length [some k] [v] X.env pos rfl rfl
  have hl1 : (pairTrees [some k] [v] X.env pos).length = 1 := hl
  rw [arm_eval_Dict, zip_pairTrees [some k] [v] X.env pos rfl rfl, dictDisplay_pairs (pairTrees [some k] [v] X.env pos) (fun z => by rw [z] at hl1; cases hl1) (by omega)]
  refine wpAny_bind (wpAny_standAt (wpAny_bind (wpAny_subDictH (knd := tupleKind (mixKind X.prog X.w)) (by show X.A.units < cLine; omega) (by omega) ?_)))
  refine thn (P.run pins _ σ _ _ I1 (q _ hn)) fun ws s2 ⟨ps, H2, I2, rel, e, b, ks, y, ep, eb, q2⟩ => ?_
  subst ep
  cases rel with
  | @cons _ bq _ bqs h t =>
    obtain ⟨b1, b2⟩ := bq
    cases t
    obtain ⟨r1, r2⟩ := h
    have r1 : b1 = Value.ref b := r1
    subst r1
    obtain ⟨z, hd, xs, rx, dd⟩ := dt_of I2.hok e
    cases rx
    refine ⟨[(ks, b, b2)], ⟨rfl, rfl, key_of I2.hok eb, trivial⟩, dd, fun h' tk' hm hs => ?_⟩
    obtain ⟨o, es, ep, ho, g2, g3, g4, _, g5⟩ := hm
    have eb2 : (upd H2 s.heap.objs.size (.dT [(ks, y)])) b = some (.tup (ks.map kV)) := by
      rw [upd_ne (ne_of eb e (fun z => nomatch z))]
      exact eb
    have new : ObjOk X.prog X.w (upd H2 s.heap.objs.size (.dT [(ks, y)])) h' s.heap.objs.size (.dT [(ks, y)]) := ⟨(by decide : 1 ≤ sizeLine), hd, [(ks, b, b2)], .cons ⟨rfl, eb2, r2⟩ .nil, o, es, ep, ho, g2, g3, g4, g5⟩
    exact wpAny_pure ⟨.ref s.heap.objs.size, _, d_write I2 (by rw [e]; exact True.intro) hs ⟨o, ho⟩ new, rfl, q2⟩
def mDict1 (mk mv : ME) : MO := fun ρ => (mk ρ).bind fun dk ρ1 => (mv ρ1).bind fun dv ρ2 => Re.opt ((keysOf dk).map fun k => .dt [(k, dv)]) ρ2
@[simp] theorem mDict1_eq (mk mv : ME) (ρ : PE0) : mDict1 mk mv ρ = (mk ρ).bind fun dk ρ1 => (mv ρ1).bind fun dv ρ2 => Re.opt ((keysOf dk).map fun k => .dt [(k, dv)]) ρ2 := rfl
section
variable {ι : Type} {𝒳 : ι → Cx} {G : Gx} {k : Nat}
theorem oDict1 {a b : Expr} {ma mb : ME} {pos : Pos} (fm : Fm G k 𝒳) (ha : CE 𝒳 G a ma) (hb : CE 𝒳 G b mb) : CO 𝒳 G (.Dict [some a] [b] pos) (mDict1 ma mb) := by
  obtain ⟨ta, pa, ia⟩ := ha
  obtain ⟨tb, pb, ib⟩ := hb
  refine ⟨tDisp1 ta tb, fun i => pe_disp1 (room64 fm i) (pa i) (pb i), fun Φ R ρ σ H w ρ' S e Q q p hp => ?_⟩
  obtain ⟨dk, ρ1, e1, e⟩ := Re.of_bind e
  obtain ⟨dv, ρ2, e2, e⟩ := Re.of_bind e
  obtain ⟨e3, rfl⟩ := Re.of_opt e
  obtain ⟨ks, e4, rfl⟩ := Option.map_eq_some_iff.mp e3
  have S0 := S.made (o := .dT []) hp
  have M0 := S.mine hp
  have M0' : Mine Φ R ρ σ p := M0
  have hn : ∀ ps, HO.dT [] ≠ .tbl ps := fun _ z => nomatch z
  have Sg := S0.guard M0 upd_same hn
  refine ia (Φ.put p (.dT [])) R ρ σ _ dk ρ1 Sg e1 _ fun x R1 H1 S1 x1 qx => ?_
  refine ib (Φ.put p (.dT [])) R1 ρ1 σ H1 dv _ S1 e2 _ fun y R2 H2 S2 x2 qy => ?_
  obtain ⟨S3, M3, h3⟩ := S2.unguard' S0 M0 hn
  rw [keysOf_eq e4] at qx
  obtain ⟨b, us, rfl, g1, g2⟩ := dq_tuple.mp qx
  rw [dqa_keys] at g2
  subst g2
  have gb : H2 b = some (.tup (ks.map kV)) := S3.sub _ _ (x2 _ _ g1)
  refine ⟨h3, b, ks, y, rfl, gb, ?_⟩
  refine q p R2 _ (SR.mineSet S3 M3 h3 (plain_dt _) (plain_dt _)) (x1.trans x2) M3 ⟨[y], upd_same, dqa_one qy⟩
def mDictE : MO := fun ρ => .ok (.dt []) ρ
@[simp] theorem mDictE_eq (ρ : PE0) : mDictE ρ = .ok (.dt []) ρ := rfl
theorem oDictE {pos : Pos} : CO 𝒳 G (.Dict [] [] pos) mDictE := by
  refine ⟨tDNewT, fun i => pe_dnewT, fun Φ R ρ σ H w ρ' S e Q q p hp => ?_⟩
  cases e
  exact q p R _ (S.made hp) (Ext.refl R) (S.mine hp) ⟨[], upd_same, dqa_nil.mpr rfl⟩
end
end Pm

namespace Pm
open PySem PySem.Spec PyProof.Rows L2
open PySem.W (alike dataLt lt_data)
/-! a < b of data that can be compared -/
def someB : D → Bool
  | .none => false
  | _ => true
def ltA (a b : D) : Option Bool := if (shp a && shp b) && (alike a b && someB a) then some (dataLt a b) else none
def rLtP (K : PySem.W.Frag) : R2 := fun x y H Q => ∃ d e, Dp K H x d ∧ Dp K H y e ∧ shp d = true ∧ shp e = true ∧ alike d e = true ∧ someB d = true ∧ Q (.bl (dataLt d e)) H
theorem op_ltP {X : Cx} (hu : X.A.units + 65 < cLine) : OpR X (compareOp .Lt) (rLtP X.K) := by
  intro pins s σ H x y v u Q I rx ry h
  obtain ⟨d, e, hd, he, sd, se, ha, hn, q⟩ := h
  obtain ⟨as, r1⟩ := Dp.reads I d x v hd rx
  obtain ⟨bs, r2⟩ := Dp.reads I e y u he ry
  have := shp_dep sd
  exact lt_data r1 r2 ha (fun z => by rw [z] at hn; cases hn) (by omega) ⟨.bl _, H, I, rfl, q⟩
section
variable {ι : Type} {𝒳 : ι → Cx} {G : Gx} {k : Nat}
theorem mLtA (fm : Fm G k 𝒳) : Cm 𝒳 G .Lt ltA := ⟨rLtP G.K, fun i => fm.op (p := fun K => rLtP K) i (op_ltP (room65 fm i)), fun Φ R H ρ σ a b c x y S e qa qb Q q => by
  unfold ltA at e
  split at e <;> cases e
  rename_i h
  obtain ⟨h1, h2⟩ := Bool.and_eq_true_iff.mp h
  obtain ⟨h3, h4⟩ := Bool.and_eq_true_iff.mp h1
  obtain ⟨h5, h6⟩ := Bool.and_eq_true_iff.mp h2
  exact ⟨a, b, qa.dp S.sub _ _ (shp_lay h3), qb.dp S.sub _ _ (shp_lay h4), h3, h4, h5, h6, q⟩⟩
end
end Pm

namespace Pm
open PySem PySem.Spec PyProof.Rows L2
/-! enumerate(tuple) -/
def enumO (a : Addr) : Obj := { cls := .type "enumerate", data := .fields #[.none, .bool false, .ref a, rawInt 0, .none, .none] }
theorem meets_enum1 {v : Value} {o : Obj} {H : Heap → Prop} (B : Begins v o H) : Meets (Builtin.«enumerate.__new__» ⟨[.type "enumerate", v], []⟩) (fun _ R s => H s.heap ∧ R (.ok (.ret (.ref (s.heap.push o).objs.size))) { s with heap := (s.heap.push o).push (enumO s.heap.objs.size) }) :=
  .of_wp fun prog w A R s h => by
    obtain ⟨hp, gg, dd, tk, os⟩ := s
    obtain ⟨h1, h⟩ := h
    have hsub := sub_enumerate
    have it1 : ∀ {A' : Around} {E : Value → Shared → Prop} {Q : Value → Shared → Prop}, Q (.ref hp.objs.size) ⟨hp.push o, gg, dd, tk, os⟩ → wpAny (model prog w) A' (pyIter v) Q E ⟨hp, gg, dd, tk, os⟩ := fun q => B.iter prog w _ _ ⟨hp, gg, dd, tk, os⟩ _ h1 q
    wp_walk using it1
    refine wpAny_stack_any fun st => wpAny_pure ?_
    split
    · rename_i c _ _ _ _ _
      cases (c == Value.type "enumerate")
      · wp_walk using it1
        exact ⟨_, rfl, h⟩
      · wp_walk using it1
        exact ⟨_, rfl, h⟩
    · wp_walk using it1
      exact ⟨_, rfl, h⟩
section
variable {prog : Program} {w : World} {A : Around} {E : Value → Shared → Prop} {s : Shared}
theorem call_enum1 {v : Value} {o : Obj} {H : Heap → Prop} {Q : Value → Shared → Prop} (B : Begins v o H) (h1 : H s.heap)
    (h : ∀ h', IsEnum h' (s.heap.objs.size + 1) s.heap.objs.size 0 .none → h'.get? s.heap.objs.size = some o → (∀ b o, s.heap.get? b = some o → h'.get? b = some o) → Q (.ref (s.heap.objs.size + 1)) { s with heap := h' }) :
    wpAny (model prog w) A (call (.type "enumerate") [v]) Q E s := by
  refine callType_new F.called_enumerate (by decide) (F.typeCall_enumerate_1 _) (F.newCall_enumerate_1 _) (fun obj => F.args_object_init_2 obj _) F.entry_enumerate_new (meets_enum1 B) ⟨h1, ?_⟩
  have hz : (s.heap.push o).objs.size = s.heap.objs.size + 1 := Heap.size_push ..
  show _ ∧ _
  rw [hz]
  have he : IsEnum ((s.heap.push o).push (enumO s.heap.objs.size)) (s.heap.objs.size + 1) s.heap.objs.size 0 .none := by
    have q := Heap.get?_push_size (s.heap.push o) (o := enumO s.heap.objs.size) rfl
    rw [hz] at q
    exact q
  exact ⟨⟨_, he, rfl⟩, h _ he (Heap.get?_push_of_some _ (Heap.get?_push_size _ B.free)) fun b o x => Heap.get?_push_of_some _ (Heap.get?_push_of_some _ x)⟩
end
def IteT (K : PySem.W.Frag) (a : Addr) : It :=
  ⟨fun i H => ∃ (xs : List V) (x : V), SqT K H a xs ∧ xs[i]? = some x, fun i H v H' => ∃ T x, v = .ref T ∧ H T = none ∧ H' = upd H T (.tup [.int (i : Nat), x]) ∧ ∀ xs, SqT K H a xs → xs[i]? = some x, fun i H => ∃ xs : List V, SqT K H a xs ∧ xs.length ≤ i⟩
theorem turn_enumT {P : Program} {w : World} {K : PySem.W.Frag} {elts : List Expr} {kk : Nat} {tpos : Pos} (a e it : Addr) :
    Turn P w K (.Tuple elts kk tpos) (IteT K a) [e, it] e (fun i h => (∃ old, IsEnum h e it ((i : Nat) : Int) old) ∧ h.IsTupleIter it a i ∧ e ≠ it ∧ e ≠ a ∧ it ≠ a) where
  mem := by simp
  obj := fun i h st b hb => by
    obtain ⟨⟨old, he⟩, ⟨o, ho, hc, hd⟩, _⟩ := st
    rcases List.mem_cons.mp hb with rfl | hb
    · exact ⟨_, he, fun v q => nomatch q⟩
    · rw [List.mem_singleton.mp hb]
      exact ⟨o, ho, fun v q => by rw [hd] at q; cases q⟩
  keep := fun i h h' st k => let ⟨⟨old, he⟩, hi, hne⟩ := st; ⟨⟨old, k e (by simp) _ he⟩, hi.at fun o q => k it (by simp) o q, hne⟩
  item := by
    intro X hP hw hK hc i pins s σ H E I hf st hg
    subst hP hw hK
    obtain ⟨⟨old, he⟩, hit, hne, nea, nia⟩ := st
    obtain ⟨xs, x, hq, hx⟩ := hg
    obtain ⟨its, rv, p, hz⟩ := I.tuple hq
    obtain ⟨u, hu, ru⟩ := rv.get hx
    have hel : e < s.heap.objs.size := Heap.lt_size he
    have hil : it < s.heap.objs.size := by obtain ⟨_, q, _⟩ := hit; exact Heap.lt_size q
    have hi : i < its.toArray.size := by
      have := (List.getElem?_eq_some_iff.mp hu).1
      simpa using this
    refine wpAny_pyNext_enum_itemC (Draws.tuple (A := X.A.in1) (I.ok.hd hc) it a (Ne.symm nia) its.toArray) he ⟨hit, p⟩ hi hne (by simp [hne, nea]) fun y h' tk' hP ho st' hT hsz hk => ?_
    have ey : y = u := by
      have hP : its.toArray[i]? = some y := hP
      rw [List.getElem?_toArray, hu] at hP
      exact (Option.some.inj hP).symm
    subst ey
    refine ⟨_, rfl, wpAny_letOwnedTupleGo_enum (s := { s with heap := h', toks := tk' + 1 }) ho fun h'' he' sb => ?_⟩
    have hT2 : h''.get? s.heap.objs.size = some { cls := .type "tuple", data := .seq #[.int i tk', y] } := (sb.2 _ (Nat.ne_of_gt hel)).trans hT
    have new : ObjOk X.prog X.w (upd H s.heap.objs.size (.tup [.int (i : Nat), x])) h'' s.heap.objs.size (.tup [.int (i : Nat), x]) := ⟨(by decide : 2 ≤ sizeLine), [.int i tk', y], .cons ⟨_, rfl⟩ (.cons ru .nil), ⟨_, hT2, rfl, _, rfl⟩⟩
    have I1 : Inv X pins σ (upd H s.heap.objs.size (.tup [.int (i : Nat), x])) { s with heap := h'', toks := tk' + 1 } :=
      I.turnedNew (ch := [e, it]) (fun b ob hb q => (sb.2 b (fun z => hb (by simp [z]))).trans (hk b ob (fun z => hb (by simp [z])) (fun z => hb (by simp [z])) q)) hf (Nat.le_refl _) new
    refine ⟨.ref s.heap.objs.size, _, I1, rfl, ⟨_, x, rfl, I.hok.fresh (Nat.le_refl _), rfl, fun ys hy => ?_⟩, ⟨⟨y, ?_⟩, st'.1.at fun o q => (sb.2 it (Ne.symm hne)).trans q, hne, nea, nia⟩, fun b hb => ?_⟩
    · rw [I.tuple_inj hy hq]; exact hx
    · have e1 : ((i + 1 : Nat) : Int) = (i : Int) + 1 := by omega
      rw [e1]
      exact he'
    · have hb' : b < s.heap.objs.size := by
        rcases List.mem_cons.mp hb with rfl | hb
        · exact hel
        · rw [List.mem_singleton.mp hb]; exact hil
      rw [upd_ne (Nat.ne_of_lt hb')]
      exact (hf b hb).1
  done := by
    intro X hP hw hK hc i pins s σ H E I hf st hg
    subst hP hw hK
    obtain ⟨⟨old, he⟩, hit, hne, nea, nia⟩ := st
    obtain ⟨xs, hq, hx⟩ := hg
    obtain ⟨its, rv, p, hz⟩ := I.tuple hq
    obtain ⟨f0, f1, f2, f3, f4, f5⟩ := hf it (by simp)
    have hl := rv.length
    have hend : its.toArray[i]? = none := by rw [List.getElem?_toArray]; exact List.getElem?_eq_none (by omega)
    have D : Draws X.prog X.w X.A.in1 it [it, a] i (fun _ _ => True) (fun j h => j = i ∧ h.IsTupleIter it a i ∧ h.IsTuple a its.toArray) := {
      live := fun _ _ st => let ⟨_, ⟨o, ho, _⟩, _⟩ := st; ⟨o, ho⟩
      frame := fun _ _ _ st hk => ⟨st.1, st.2.1.at fun o e => hk it (by simp) o e, st.2.2.at fun o e => hk a (by simp) o e⟩
      item := fun j s Q E hj st hQ => absurd st.1 (Nat.ne_of_lt hj)
      done := fun s Q E st hE => wpAny_nextOf_tuple_end (I.ok.hd hc) st.2.1 st.2.2 hend hE }
    exact wpAny_pyNext_enum_endD D he ⟨rfl, hit, p⟩ fun h' eb => ⟨rfl, I.turned (t' := s.toks) (fun b o hb q => eb b o hb q) f0 f1 f3 f4 f5⟩
  self := fun A i s Q E st h => let ⟨⟨_, he⟩, _⟩ := st; wpAny_pyIter_enum he h
def iEnumT (K : PySem.W.Frag) (ta : TA) : TI := fun σ H R => ta σ H fun vs H1 => ∃ a xs, vs = [.ref a] ∧ SqT K H1 a xs ∧ R (IteT K a) H1
theorem pi_enumT {X : Cx} {e : Expr} {ta : TA} {p pos tpos : Pos} {elts : List Expr} {kk : Nat} (hg : Gl X "enumerate") (hm : X.mg "enumerate" = none) (ha : PA X [e] ta) (hs : starEach [e] X.env = [(false, eval e X.env)] := by rfl) : PI X (.Tuple elts kk tpos) (.Call (.Name "enumerate" p) [e] [] pos) (iEnumT X.K ta) := by
  refine ⟨fun pins s σ H R I h => Call_ (ld_blt I hg hm boot_enumerate (PyProof.Rows.callWith_type1 (thn (ha.run pos pins s σ H _ I h) fun us s1 ⟨vs, H1, I1, r1, q1⟩ => ?_) hs rfl))⟩
  obtain ⟨a, xs, ex, hq, q⟩ := q1
  subst ex
  cases r1 with
  | cons r rr =>
    cases rr
    cases r
    obtain ⟨its, rv, pt, hz⟩ := I1.tuple hq
    have hal : a < s1.heap.objs.size := by obtain ⟨o, ho, _⟩ := pt; exact Heap.lt_size ho
    refine call_enum1 (begins_tuple a its.toArray) pt fun h' he hit hk => wpAny_pyIter_enum he ?_
    have I2 : Inv X pins σ H1 { s1 with heap := h' } := I1.kept (t' := s1.toks) hk
    refine ⟨s1.heap.objs.size + 1, [s1.heap.objs.size + 1, s1.heap.objs.size], _, _, H1, rfl, I2, turn_enumT a (s1.heap.objs.size + 1) s1.heap.objs.size, ⟨⟨.none, he⟩, ⟨_, hit, rfl, rfl⟩, Nat.succ_ne_self _, Nat.ne_of_gt (Nat.lt_succ_of_lt hal), Nat.ne_of_gt hal⟩, fun b hb => ?_, q⟩
    have hle : s1.heap.objs.size ≤ b := by
      rcases List.mem_cons.mp hb with rfl | hb
      · exact Nat.le_succ _
      · rw [List.mem_singleton.mp hb]; exact Nat.le_refl _
    exact I1.fpOk hle (I1.hok.fresh hle)
def enumT : List D → Option (List D)
  | [.tuple xs] => some (numd 0 xs)
  | _ => none
theorem iEnumCT {ι : Type} {G : Gx} {k : Nat} {𝒳 : ι → Cx} {e : Expr} {m : ME} {p pos tpos : Pos} {elts : List Expr} {kk : Nat} (fm : Fm G k 𝒳) (hm : G.mg "enumerate" = none) (ha : CE 𝒳 G e m) (hg : ∀ i, Gl (𝒳 i) "enumerate" := by intro _; rfl)
    (hs : ∀ i, starEach [e] (𝒳 i).env = [(false, eval e (𝒳 i).env)] := by intro _; rfl) : CI 𝒳 G (.Tuple elts kk tpos) (.Call (.Name "enumerate" p) [e] [] pos) (mRng enumT (mCons m mNil)) := by
  obtain ⟨t, hp, hi, _⟩ := aCons ha aNil hs
  refine ⟨iEnumT G.K t, fun i => Eq.mp (congrArg (fun K => PI (𝒳 i) (.Tuple elts kk tpos) (.Call (.Name "enumerate" p) [e] [] pos) (iEnumT K t)) (fm.K i)) (pi_enumT (hg i) (by rw [fm.mg i]; exact hm) (hp i) (hs i)), fun Φ R ρ σ H ds ρ' S e Q q => ?_⟩
  obtain ⟨as, ρ1, e1, e⟩ := Re.of_bind e
  obtain ⟨e2, rfl⟩ := Re.of_opt e
  refine hi Φ R ρ σ H as _ S e1 _ fun vs R1 H1 S1 x1 qx => ?_
  unfold enumT at e2
  split at e2
  · rename_i us
    cases e2
    obtain ⟨x, rfl, w1⟩ := dqa1 qx
    obtain ⟨a, xs, rfl, h1, h2⟩ := dq_tuple.mp w1
    have z1 : ∀ {R' H'}, Ext R1 R' → Start G R' H' → SqT G.K H' a xs := fun e s => .inl (.inl (s.sub _ _ (e _ _ h1)))
    have lx : xs.length ≤ sizeLine := S1.lens _ _ h1
    refine ⟨a, xs, rfl, z1 (Ext.refl _) S1.start, q _ R1 H1 S1 x1 ⟨?_, fun R2 H2 i d e s hd => ?_, fun R2 H2 i e s hd => ⟨xs, z1 e s, ?_⟩⟩⟩
    · rw [numd_len, h2.length]
      omega
    · obtain ⟨du, hu, rfl⟩ := numd_at hd
      obtain ⟨u, hu, qu⟩ := h2.get hu
      refine ⟨⟨xs, u, z1 e s, hu⟩, fun v H' hy => ?_⟩
      obtain ⟨T, u', rfl, hT, rfl, f1⟩ := hy
      have f1 := f1 xs (z1 e s)
      rw [hu] at f1
      cases f1
      refine ⟨_, s.laid hT (plain_tup _).1 (show 2 ≤ sizeLine by decide), dq_tuple.mpr ⟨T, _, rfl, upd_same, ?_⟩⟩
      have x2 : Ext R1 (upd R2 T (.tup [.int (i : Nat), u])) := e.trans (ext_upd (s.sub.none hT))
      rw [Nat.zero_add]
      exact dqa_cons.mpr ⟨_, _, rfl, dq_int.mpr rfl, dqa_one (qu.mono x2)⟩
    · rw [numd_len, h2.length] at hd
      omega
  · cases e2
end Pm

namespace Pm
open PySem PySem.Spec PyProof.Rows L2
/-! xs.extend(t), t a list or a tuple -/
theorem meets_ext (l : Addr) (xs : Array Value) (n : Nat) (b : Addr) (o : Obj) (ys : Array Value) (n2 : Nat) (c1 : o.cls = .type "tuple") (c2 : o.data = .seq ys n2)
    (z1 : ¬(!xs.isEmpty && Builtin.List.listTooLong (xs.size + ys.size)) = true) (z2 : xs.size ≤ sizeLine) (z3 : xs.size + ys.size ≤ sizeLine + 1) :
    Meets (Builtin.«list.extend» ⟨[.ref l, .ref b], []⟩) (fun _ R s => s.heap.get? l = some { cls := .type "list", data := .seq xs n } ∧ s.heap.get? b = some o ∧
      R (.ok (.ret Value.none)) { s with heap := s.heap.update l (Obj.mapSeq fun x => x ++ ys) }) :=
  .of_wp fun prog w A R s h => by
    obtain ⟨hp, gg, dd, tk, os⟩ := s
    obtain ⟨cc, o2, od, os2⟩ := o
    cases c1
    cases c2
    obtain ⟨h1, h2, h⟩ := h
    have f1 := AutoSeq1.idx_int
    have f2 := AutoSeq1.sub_tuple_tuple
    have f3 := AutoSeq1.sub_list_list
    have f4 := AutoSeq1.sub_tuple_list
    have f5 := AutoSeq1.sub_list_tuple
    have z4 : (xs ++ ys).size ≤ sizeLine + 1 := by rw [Array.size_append]; exact z3
    wp_walk using (wpAny_updateSeq h1 rfl (hz := z2) (_hz' := z4)), AutoSeq1.wpAny_loadPart' h1, AutoSeq1.wpAny_loadPart' h2
    exact ⟨_, rfl, h⟩
def rExtA : V → List V → Hp → VK → Prop := fun x vs H Q => ∃ l b xs zs, x = .ref l ∧ vs = [.ref b] ∧ H l = some (.lst xs) ∧ (H b = some (.lst zs) ∨ H b = some (.tup zs)) ∧ xs.length + zs.length ≤ sizeLine ∧ Q .non (upd H l (.lst (xs ++ zs)))
theorem mt_extA {X : Cx} : MtM X "list.extend" rExtA := by
  intro pins s σ H x vs v us Q I rx rv h
  obtain ⟨l, b, xs, zs, rfl, rfl, hH, hB, hz, q⟩ := h
  rcases hB with hB | hB
  · exact mt_extend pins s σ H _ _ v us Q I rx rv ⟨l, b, xs, zs, rfl, rfl, hH, hB, hz, q⟩
  cases rx
  obtain ⟨u, rfl, ru⟩ := rv.one
  cases ru
  obtain ⟨z, its, n, r, hl, e⟩ := I.lstM hH
  obtain ⟨its2, r2, ⟨o, ho, hc, n2, hd⟩, hl2⟩ := I.tuple (.inl (.inl hB))
  have l2 := r2.length
  have hsz : its.toArray.size + its2.toArray.size ≤ sizeLine := by rw [List.size_toArray, List.size_toArray]; omega
  have hlong : ¬ (!its.toArray.isEmpty && Builtin.List.listTooLong (its.toArray.size + its2.toArray.size)) = true := by
    unfold Builtin.List.listTooLong
    rw [decide_eq_false (by omega), Bool.and_false]
    exact Bool.false_ne_true
  refine call_meets F.slot_list_extend ⟨_, e, rfl⟩ F.entry_list_extend (F.args_list_extend_2 _ _) (meets_ext l its.toArray n b o its2.toArray n2 hc hd hlong (by rw [List.size_toArray]; omega) (by omega)) ⟨e, ho, ?_⟩
  refine ⟨.non, _, I.lset (its' := its ++ its2) hH e (by simp) (r.append r2) ?_, rfl, q⟩
  rw [List.length_append]
  exact hz
def extA : List D → List D → Option (List D)
  | xs, [.list ds] => if xs.length + ds.length ≤ sizeLine then some (xs ++ ds) else none
  | xs, [.tuple ds] => if xs.length + ds.length ≤ sizeLine then some (xs ++ ds) else none
  | _, _ => none
section
variable {ι : Type} {𝒳 : ι → Cx} {G : Gx} {k : Nat} {W : WX} (i : Nat) {x : Str} {e : Expr} {m : ME} {px apos cpos pos : Pos}
theorem sExtendA (fm : Fm G k 𝒳) (h : CE 𝒳 G e m) (hN : ∀ j, (𝒳 j).N[i]? = some x := by intro _; rfl) (hv : ∀ j, Vis (𝒳 j).env.scope x := by first | exact fun _ => Or.inl rfl | exact fun _ => Or.inr (Or.inl rfl) | exact fun _ => Or.inr (Or.inr rfl)) (hd : (x == ("__debug__" : Str)) = false := by decide) (hcd : (x == ("__classdict__" : Str)) = false := by decide)
    (hbase : ∀ j, attributeBase (.Name x px) "extend" (𝒳 j).env (eval (.Name x px) (𝒳 j).env) = eval (.Name x px) (𝒳 j).env := by intro _; rfl)
    (hfew : ∀ j, ((backTo cpos (starEach [e] (𝒳 j).env)).all (fun x => !x.1) && (backToKw cpos (keywordEach [] (𝒳 j).env)).all (fun x => x.1.isSome) && decide (([e] : List Expr).length + ([] : List Keyword).length + (if ([] : List Keyword).isEmpty then 0 else 1) < 30)) = true := by intro _; rfl)
    (hline : (apos.endLine == cpos.line) = true := by rfl) (hs : ∀ j, starEach [e] (𝒳 j).env = (false, eval e (𝒳 j).env) :: starEach [] (𝒳 j).env := by intro _; rfl)
    (hsw : ∀ j, swapsWith (.Call (.Attribute (.Name x px) "extend" apos) [e] [] cpos) none pos.line (𝒳 j).env = pure false := by intro _; rfl) :
    CS 𝒳 G W (.Expr (.Call (.Attribute (.Name x px) "extend" apos) [e] [] cpos) pos) (mMeth i extA (mCons m mNil)) := by
  obtain ⟨t, hp, hi, _⟩ := aCons h aNil hs
  refine ⟨tDrop (tBM G.K "list" rExtA (tVar i) t), fun j => ps_expr (Eq.mp (congrArg (fun K => PE (𝒳 j) _ (tBM K "list" rExtA (tVar i) t)) (fm.K j)) (pe_bm PySem.F.plainAttrs_list PySem.F.slot_list_extend PySem.F.type_list_extend mt_extA (pe_var (hN j) (hv j) hd hcd) (hp j) (hbase j) (hfew j) hline (hs j) rfl)) (hsw j), fun Φ => iMeth (hi Φ) fun R H ρ σ p xs vs cs ds ys S hH hz qc qv ef Q q => ?_⟩
  unfold extA at ef
  split at ef
  · rename_i es
    split at ef <;> cases ef
    have hlt : cs.length + es.length ≤ sizeLine := by assumption
    obtain ⟨y, rfl, qy⟩ := dqa1 qv
    obtain ⟨b, zs, rfl, h1, h2⟩ := dq_list.mp qy
    rw [qc.length, h2.length] at hlt
    exact ⟨p, b, xs, zs, rfl, rfl, hH, .inl (S.sub _ _ h1), hlt, q _ _ (qc.append h2) (by rw [List.length_append]; exact hlt)⟩
  · rename_i es
    split at ef <;> cases ef
    have hlt : cs.length + es.length ≤ sizeLine := by assumption
    obtain ⟨y, rfl, qy⟩ := dqa1 qv
    obtain ⟨b, zs, rfl, h1, h2⟩ := dq_tuple.mp qy
    rw [qc.length, h2.length] at hlt
    exact ⟨p, b, xs, zs, rfl, rfl, hH, .inr (S.sub _ _ h1), hlt, q _ _ (qc.append h2) (by rw [List.length_append]; exact hlt)⟩
  · cases ef
end
end Pm

namespace Pm
open PySem PySem.Spec PyProof.Rows L2
open PySem.W (EachIs AllAlike Sortable dataLe SortsAt dataKind list_sort_vals list_sort_rev_vals sortVals_data sortVals_length sortingHeap sortingHeap_old)
/-! sorted(t), sorted(t, reverse=True): t a list or a tuple -/
section
variable {P : Program} {w : World} {A : Around} {E : Value → Shared → Prop} {s : Shared} {β : Type} {vs : List Value} {bs : List β} {enc : β → PyData} {R : Value → β → Prop}
def revKw (b : Bool) : List (Str × Value) := if b then [(Str.ofString "reverse", .bool true)] else []
theorem colA {a : Addr} {T : String} {o : Obj} {n : Nat} {Q : List Value → Shared → Prop} (hT : T = "list" ∨ T = "tuple") (ho : s.heap.get? a = some o) (hc : o.cls = .type T) (hd : o.data = .seq vs.toArray n) (hz : vs.length ≤ sizeLine)
    (q : ∀ h', (∀ b u, s.heap.get? b = some u → h'.get? b = some u) → s.heap.objs.size ≤ h'.objs.size → Q vs { s with heap := h' }) : wpAny (model P w) A (collect (.ref a)) Q E s := by
  generalize hh1 : s.heap.push { cls := .type "list", data := .seq ([] : List Value).toArray } = h1
  have g1 : h1.get? s.heap.objs.size = some { cls := .type "list", data := .seq #[] 0 } := by rw [← hh1]; exact Heap.get?_push_size _ rfl
  have k1 : ∀ b u, s.heap.get? b = some u → h1.get? b = some u := fun b u e => by rw [← hh1]; exact Heap.get?_push_of_some _ e
  have z1 : s.heap.objs.size ≤ h1.objs.size := by rw [← hh1, Heap.size_push]; exact Nat.le_succ _
  generalize hh2 : h1.update s.heap.objs.size (Obj.mapSeq (· ++ vs.toArray)) = h2
  have g2 := Heap.get?_update_self (Obj.mapSeq (· ++ vs.toArray)) g1 rfl
  rw [hh2] at g2
  have k2 : ∀ b u, s.heap.get? b = some u → h2.get? b = some u := fun b u e => by
    rw [← hh2]
    exact (Heap.get?_update_other _ _ (Nat.ne_of_gt (Heap.lt_size e))).trans (k1 b u e)
  have z2 : s.heap.objs.size ≤ h2.objs.size := by rw [← hh2, Heap.size_update]; exact z1
  have fin : wpAny (model P w) A (match Value.ref s.heap.objs.size with
      | .ref a => do match (← load a).data with
          | .seq xs _ => pure xs.toList
          | _ => unsupported "internal:collect"
      | _ => unsupported "internal:collect") Q E { s with heap := h2 } := by
    show wpAny _ A (load s.heap.objs.size >>= _) _ _ _
    refine wpAny_bind (wpAny_load g2 (wpAny_pure ?_))
    have e : ((#[] : Array Value) ++ vs.toArray).toList = vs := by simp
    show Q ((#[] : Array Value) ++ vs.toArray).toList _
    rw [e]
    exact q h2 k2 z2
  have ext : wpAny (model P w) A.in1 (Builtin.List.listExtendWith (.ref s.heap.objs.size) (.ref a) (.ref s.heap.objs.size))
      (fun f s' => match f with | .done f => (.ok f : Result) = .ok (.ret (.ref s.heap.objs.size)) ∧ s' = { s with heap := h2 } | .again c' => c'.quiet = true ∧ codeAny (model P w) A c' (fun r s' => r = .ok (.ret (.ref s.heap.objs.size)) ∧ s' = { s with heap := h2 }) s') (fun e s' => (.error e : Result) = .ok (.ret (.ref s.heap.objs.size)) ∧ s' = { s with heap := h2 }) { s with heap := h1 } :=
    wpAny_extend_seq (s := { s with heap := h1 }) (R := fun r s' => r = .ok (.ret (.ref s.heap.objs.size)) ∧ s' = { s with heap := h2 }) _ a _ 0 hT g1 (k1 a o ho) hc hd ⟨rfl, by rw [← hh2]⟩ (by simp; exact hz)
  unfold collect
  refine wpAny_bind (wpAny_runValue (codeAny_builtin F.entry_proto_collect ?_))
  rw [Around.under_plainId F.plain_proto_collect _]
  show wpAny _ A.in1 (newList [] >>= fun l => again (.builtin "list.__iadd__" ⟨[l, .ref a], []⟩)) _ _ s
  refine wpAny_bind (wpAny_newObj_type ?_)
  refine wpAny_pure ⟨plainId_quiet F.plain_list_iadd _, codeAny_builtin F.entry_list_iadd ?_⟩
  rw [Around.under_plainId F.plain_list_iadd _, hh1]
  refine wpAny_mono ext (fun f s' h => ?_) fun e s' h => absurd h.1 (by simp)
  cases f with
  | done f =>
    obtain ⟨e, rfl⟩ := h
    cases e
    exact fin
  | again c' =>
    refine ⟨h.1, codeAny_mono h.2 fun r s'' hr => ?_⟩
    obtain ⟨rfl, rfl⟩ := hr
    exact fin
theorem sorted_seqA (b : Bool) {a : Addr} {T : String} {o : Obj} {n : Nat} {Q : Value → Shared → Prop} (hT : T = "list" ∨ T = "tuple") (ho : s.heap.get? a = some o) (hc : o.cls = .type T) (hd : o.data = .seq vs.toArray n) (e : EachIs R vs bs) (er : EachIs (fun v b => ∃ as, Reads s.heap v (enc b) as) vs bs)
    (hal : AllAlike (bs.map enc)) (hk : SrtOk (bs.map enc)) (hL : bs.length ≤ sizeLine) (hu : ∀ b, b ∈ bs → A.units + 2 + (enc b).depth < cLine)
    (hQ : ∀ h' p c out, (∀ b o, s.heap.get? b = some o → h'.get? b = some o) → s.heap.objs.size ≤ p → h'.get? p = some (seqObj "list" (List.toArray out) c) → out.length = bs.length → EachIs R out (bs.mergeSort (dataLe b enc)) → Q (.ref p) { s with heap := h' }) :
    wpAny (model P w) A (call (.builtin "sorted") [.ref a] (revKw b)) Q E s := by
  have hvl : vs.length = bs.length := e.length
  have body : wpAny (model P w) A.in1 (Builtin.«sorted» ⟨[.ref a], revKw b⟩) (fun f s' => ∃ v, f = .done (.ret v) ∧ Q v s') E s := by
    unfold Builtin.«sorted»
    refine wpAny_bind (m := checkCount "sorted" 1 1 _) (wpAny_pure (wpAny_bind ?_))
    refine colA (A := A.in1) hT ho hc hd (by omega) fun h1 k1 hsz => ?_
    refine wpAny_bind (wpAny_newList ?_ (by omega))
    generalize hH : ({ s with heap := h1 } : Shared).heap.push { cls := .type "list", data := .seq vs.toArray } = h2
    have hoL : h2.get? h1.objs.size = some (seqObj "list" vs.toArray 0) := by rw [← hH]; exact Heap.get?_push_size _ rfl
    have old : ∀ b u, s.heap.get? b = some u → b ≠ h1.objs.size ∧ h2.get? b = some u := fun b u e => ⟨Nat.ne_of_lt (Heap.lt_size (k1 b u e)), by rw [← hH]; exact Heap.get?_push_of_some _ (k1 b u e)⟩
    have er2 : EachIs (fun v b => ∃ as, Reads (sortingHeap h2 h1.objs.size vs) v (enc b) as) vs bs := er.mono fun v q ⟨as, r⟩ => ⟨as, PyProof.Rows.Reads.keeps (fun b u z => sortingHeap_old (old b u z).1 (old b u z).2) r⟩
    have e3 : EachIs (fun v d => ∃ as, Reads (sortingHeap h2 h1.objs.size vs) v d as) vs (bs.map enc) := PySem.W.each_map (R := fun v d => ∃ as, Reads (sortingHeap h2 h1.objs.size vs) v d as) enc er2
    have hu1 : ∀ d, d ∈ bs.map enc → A.in1.in1.units + d.depth < cLine := fun d hm => by
      obtain ⟨q, hq, rfl⟩ := List.mem_map.mp hm
      have := hu q hq
      show A.units + 1 + 1 + _ < _
      omega
    have S : SortsAt P w A.in1.in1 { s with heap := sortingHeap h2 h1.objs.size vs } (dataKind (sortingHeap h2 h1.objs.size vs) (bs.map enc)) vs := by
      rcases hk with hk | ⟨ht, he⟩
      · exact SortsAt.data (s := { s with heap := sortingHeap h2 h1.objs.size vs }) e3 hal hk hu1
      · exact sorts_some (s := { s with heap := sortingHeap h2 h1.objs.size vs }) e3 hal ht he hu1
    have srtd := sortVals_data (h' := sortingHeap h2 h1.objs.size vs) (enc := enc) b e er2 hal
    obtain ⟨c, hcc⟩ := sortedHeap_at (vs := vs) (out := (PySem.W.sortVals (dataKind (sortingHeap h2 h1.objs.size vs) (bs.map enc)) b vs vs).toArray) hoL
    have fin : ∃ v, (PySem.Fin.done (.ret (Value.ref h1.objs.size)) : PySem.Fin) = .done (.ret v) ∧ Q v { s with heap := sortedHeap h2 h1.objs.size vs (PySem.W.sortVals (dataKind (sortingHeap h2 h1.objs.size vs) (bs.map enc)) b vs vs).toArray } := by
      refine ⟨_, rfl, hQ _ h1.objs.size c _ (fun b' u e' => ?_) hsz hcc (by rw [sortVals_length b rfl]; exact hvl) srtd⟩
      rw [sortedHeap_old (old b' u e').1 (Heap.lt_size (old b' u e').2)]
      exact (old b' u e').2
    cases b with
    | false =>
      refine wpAny_bind (wpAny_holding (wpAny_call_entry slot_list_sort ⟨_, hoL, rfl⟩ entry_list_sort (list_sort_vals (s := { s with heap := h2 }) hoL S (by omega) ⟨.none, rfl, ?_⟩) (args_list_sort _)))
      exact wpAny_pure fin
    | true =>
      refine wpAny_bind (wpAny_holding (wpAny_call_entry_kw slot_list_sort ⟨_, hoL, rfl⟩ entry_list_sort (list_sort_rev_vals (s := { s with heap := h2 }) hoL S (by omega) ⟨.none, rfl, ?_⟩) (args_list_sort_rev _ _)))
      exact wpAny_pure fin
  cases b with
  | false => exact Calls.call_function_entry kind_sorted plain_sorted entry_sorted (args_sorted1 _) body
  | true => exact call_function_entry_kw kind_sorted plain_sorted entry_sorted (args_sorted_rev _ _) body
end
def rSortA (K : PySem.W.Frag) : List V → Hp → VK → Prop := fun vs H Q => ∃ (a : Addr) (xs : List V) (ds : List D), vs = [V.ref a] ∧ (SqL K H a xs ∨ SqT K H a xs) ∧ DpAll K H xs ds ∧ (∀ d ∈ ds, d.plain = true ∧ d.depth ≤ 60) ∧ AllAlike ds ∧ SrtOk ds ∧
  ∀ p, H p = none → Q (.ref p) (upd H p (.lst (((xs.zip ds).mergeSort (dataLe false fun b : V × D => b.2)).map (·.1))))
theorem cr_sortA {X : Cx} (hu : X.A.units + 64 < cLine) : CallR X (.builtin "sorted") (rSortA X.K) := by
  intro pins s σ H vs us Q I r h
  obtain ⟨a, xs, ds, rfl, hs, hd, hp, hal, hk, q⟩ := h
  obtain ⟨its, T, o, n, rv, hT, ho, hc, hdt, hz⟩ : ∃ (its : List Value) (T : String) (o : Obj) (n : Nat), Vals xs its ∧ (T = "list" ∨ T = "tuple") ∧ s.heap.get? a = some o ∧ o.cls = .type T ∧ o.data = .seq its.toArray n ∧ xs.length ≤ sizeLine := by
    rcases hs with hs | hs
    · obtain ⟨its, rv, hl, hz⟩ := I.list hs
      obtain ⟨o, ho, hc, n, hd⟩ := hl.isList
      exact ⟨its, _, o, n, rv, .inl rfl, ho, hc, hd, hz⟩
    · obtain ⟨its, rv, ⟨o, ho, hc, n, hd⟩, hz⟩ := I.tuple hs
      exact ⟨its, _, o, n, rv, .inr rfl, ho, hc, hd, hz⟩
  rw [Vals.ref1 r]
  obtain ⟨e1, e2⟩ := each_of I hd (fun d hd => (hp d hd).1) rv
  have le := dpall_len hd
  have zz : (xs.zip ds).map (·.2) = ds := by rw [List.map_snd_zip]; omega
  refine sorted_seqA (enc := fun b : V × D => b.2) false hT ho hc hdt e1 e2 (by rw [zz]; exact hal) (by rw [zz]; exact hk) (by rw [List.length_zip]; omega) (fun b hb => ?_) fun h' p c out k1 hsz hpo hl he => ?_
  · have hb2 : b.2 ∈ ds := (List.of_mem_zip (a := b.1) (b := b.2) hb).2
    have := (hp _ hb2).2
    omega
  · have hlen : (((xs.zip ds).mergeSort (dataLe false fun b : V × D => b.2)).map (·.1)).length ≤ sizeLine := by
      rw [List.length_map, List.length_mergeSort, List.length_zip]; omega
    exact ⟨.ref _, upd H p (.lst _), I.laid (t' := s.toks) k1 hsz ⟨hlen, out, c, vals_each he, hpo⟩, rfl, q _ (I.hok.fresh hsz)⟩
def sortedA : List D → Option Ow
  | [.list ds] => if srtB ds then some (.l (srt ds)) else none
  | [.tuple ds] => if srtB ds then some (.l (srt ds)) else none
  | _ => none
section
variable {ι : Type} {𝒳 : ι → Cx} {G : Gx} {k : Nat}
theorem oSortedA {e : Expr} {m : ME} {p pos : Pos} (fm : Fm G k 𝒳) (hm : G.mg "sorted" = none) (h : CE 𝒳 G e m) (hg : ∀ i, Gl (𝒳 i) "sorted" := by intro _; rfl)
    (he : ∀ i, starEach [e] (𝒳 i).env = (false, eval e (𝒳 i).env) :: starEach [] (𝒳 i).env := by intro _; rfl) : CO 𝒳 G (.Call (.Name "sorted" p) [e] [] pos) (mCallO sortedA (mCons m mNil)) :=
  oCallB (r := rSortA G.K) fm (fun i => fm.call (p := fun K => rSortA K) i (cr_sortA (room64 fm i))) (fun Φ R H ρ σ ds d vs S e qa Q q => by
    have fin : ∀ {us : List D} {p : Addr} {ws : List V}, srtB us = true → DqA G.K R us ws → ws.length ≤ sizeLine → (SqL G.K H p ws ∨ SqT G.K H p ws) → d = .l (srt us) → rSortA G.K [V.ref p] H Q := fun {us p ws} hb h2 hz hs ed => by
      subst ed
      obtain ⟨b1, b2, b3⟩ := srtB_ok hb
      have hp : PyData.plainAll us = true := (sh_all (n := 60) fun d hd => b1 d hd).1
      have lw : ws.length = us.length := h2.length.symm
      refine ⟨p, ws, us, rfl, hs, DqA.dp S.sub _ _ hp h2, b1, b2, b3, fun l nl => q l R _ (S.made nl) (Ext.refl R) (S.mine nl) ⟨_, upd_same, ?_, ?_⟩⟩
      · rw [← srt_zip lw]
        exact dqa_of fun b hb => dqa_zip h2 b (List.mem_mergeSort.mp hb)
      · rw [List.length_map, List.length_mergeSort, List.length_zip]
        omega
    unfold sortedA at e
    split at e
    · rename_i us
      split at e <;> cases e
      rename_i hb
      obtain ⟨x, rfl, h⟩ := dqa1 qa
      obtain ⟨p, ws, rfl, h1, h2⟩ := dq_list.mp h
      exact fin hb h2 (S.lens _ _ h1) (.inl (.inl (.inl (S.sub _ _ h1)))) rfl
    · rename_i us
      split at e <;> cases e
      rename_i hb
      obtain ⟨x, rfl, h⟩ := dqa1 qa
      obtain ⟨p, ws, rfl, h1, h2⟩ := dq_tuple.mp h
      exact fin hb h2 (S.lens _ _ h1) (.inr (.inl (.inl (S.sub _ _ h1)))) rfl
    · cases e) hm (by decide +kernel) (aCons h aNil he) hg (by decide) (by decide) he (fun _ => rfl)
end
end Pm

namespace Pm
open PySem PySem.Spec PyProof.Rows L2
/-! own dicts with tuple keys: d.items() walked (the dict is let go); d.get(k), d.get(k, x) -/
section
variable {X : Cx} {pins : List (Addr × Obj)} {σ : L2.St} {H : Hp} {s : Shared} {d : Addr} {o : Obj}
theorem frzT2 {kvs : List (List L2.Key × V)} (I : Inv X pins σ H s) (h : H d = some (.frz o (.dT kvs))) :
    (d == sysModules) = false ∧ s.heap.get? d = some o ∧ o.ExactDict ∧ ∃ (es : Array DictEntry) (ep : Nat), o.data = .dict es ep ∧ es.size = kvs.length ∧
      ∀ (i : Nat) (k : List L2.Key) (v : V), kvs[i]? = some (k, v) → ∃ (hi : i < es.size) (q : Addr), es[i].key = .ref q ∧ H q = some (.tup (k.map kV)) ∧ RelV v es[i].val := by
  obtain ⟨hd, z, hs, xs, pr, o', es, ep, ho, hx, hdt, he, _⟩ := I.hok d _ h
  rw [hd] at ho
  cases ho
  refine ⟨hs, hd, hx, es, ep, hdt, ?_, fun i k v e => ?_⟩
  · have l1 : es.size = xs.length := size_of_entries he
    have l2 : kvs.length = xs.length := Paired.length pr
    omega
  · obtain ⟨b, hb, e1, e2, e3⟩ := paired_get pr e
    have q := entry_at he i
    rw [hb] at q
    obtain ⟨hi, q⟩ := Array.getElem?_eq_some_iff.mp q
    exact ⟨hi, b.2.1, by rw [q]; rfl, e2, by rw [q]; exact e3⟩
end
/-- the pairs of a locked dict with tuple keys -/
def Itit (d : Addr) (o : Obj) (kvs : List (List L2.Key × V)) : It :=
  ⟨fun i H => H d = some (.frz o (.dT kvs)) ∧ i < kvs.length,
   fun i H x H' => ∃ T k v q, kvs[i]? = some (k, v) ∧ x = .ref T ∧ H T = none ∧ H q = some (.tup (k.map kV)) ∧ H' = upd H T (.tup [.ref q, v]),
   fun i H => H d = some (.frz o (.dT kvs)) ∧ kvs.length ≤ i⟩
section
variable {P : Program} {w : World} {K : PySem.W.Frag} {d : Addr} {o : Obj} {es : Array DictEntry} {ep : Nat}
theorem turn_itemsT {kvs : List (List L2.Key × V)} {elts : List Expr} {kk : Nat} {tpos : Pos} (it : Addr) (hod : o.data = .dict es ep) :
    Turn P w K (.Tuple elts kk tpos) (Itit d o kvs) [it] it (fun i h => ∃ a b, IsItemIter h it d i es.size ep a b) where
  mem := by simp
  obj := fun i h st b hb => by
    obtain ⟨_, _, e⟩ := st
    rw [List.mem_singleton.mp hb]
    exact ⟨_, e, fun v z => nomatch z⟩
  keep := fun i h h' st k => let ⟨a, b, e⟩ := st; ⟨a, b, k it (by simp) _ e⟩
  item := by
    intro X hP hw hK hc i pins s σ H E I hf st hg
    subst hP hw hK
    obtain ⟨hd, hi⟩ := hg
    obtain ⟨hs, hgd, hx, es', ep', hdt, hsz, ent⟩ := frzT2 I hd
    obtain ⟨rfl, rfl⟩ := dict_ep hod hdt
    obtain ⟨⟨k, v⟩, hkv⟩ : ∃ p, kvs[i]? = some p := ⟨kvs[i], List.getElem?_eq_getElem hi⟩
    obtain ⟨hie, q, hkey, hq, hv⟩ := ent i k v hkv
    obtain ⟨a, b, he⟩ := st
    have hlt : it < s.heap.objs.size := Heap.lt_size he
    refine wpAny_pyNext_items_item_raw he ⟨o, hgd, hx, hdt⟩ hie fun h' ho hT hz hk => ?_
    refine ⟨_, rfl, wpAny_letOwnedTupleGo_items (s := { s with heap := h' }) ho fun h2 he2 sb => ?_⟩
    have hT2 : h2.get? s.heap.objs.size = some { cls := .type "tuple", data := .seq #[es'[i].key, es'[i].val] } := (sb.2 _ (Nat.ne_of_gt hlt)).trans hT
    have new : ObjOk X.prog X.w (upd H s.heap.objs.size (.tup [.ref q, v])) h2 s.heap.objs.size (.tup [.ref q, v]) :=
      ⟨by show 2 ≤ sizeLine; decide, [es'[i].key, es'[i].val], .cons hkey (.cons hv .nil), ⟨_, hT2, rfl, _, rfl⟩⟩
    have I1 : Inv X pins σ (upd H s.heap.objs.size (.tup [.ref q, v])) { s with heap := h2 } :=
      I.turnedNew (t' := s.toks) (ch := [it]) (fun b ob hb e => (sb.2 b (by simpa using hb)).trans (hk b ob (by simpa using hb) e)) hf (Nat.le_refl _) new
    refine ⟨.ref s.heap.objs.size, _, I1, rfl, ⟨_, k, v, q, hkv, rfl, I.hok.fresh (Nat.le_refl _), hq, rfl⟩, ⟨_, _, he2⟩, fun b hb => ?_⟩
    rw [List.mem_singleton.mp hb, upd_ne (Nat.ne_of_lt hlt)]
    exact (hf it (by simp)).1
  done := by
    intro X hP hw hK hc i pins s σ H E I hf st hg
    subst hP hw hK
    obtain ⟨hd, hi⟩ := hg
    obtain ⟨f0, f1, f2, f3, f4, f5⟩ := hf it (by simp)
    obtain ⟨hs, hgd, hx, es', ep', hdt, hsz, ent⟩ := frzT2 I hd
    obtain ⟨rfl, rfl⟩ := dict_ep hod hdt
    obtain ⟨a, b, he⟩ := st
    exact wpAny_pyNext_items_end_raw (I.ok.hd hc) he ⟨o, hgd, hx, hdt⟩ (by omega) fun h' eb => ⟨rfl, I.turned (t' := s.toks) (fun b ob hb e => eb b ob hb e) f0 f1 f3 f4 f5⟩
  self := fun A i s Q E st h => let ⟨_, _, e⟩ := st; PySem.W.kcp_self e h
end
/-- the dict is locked for good -/
def iItemsP (td : TE) : TI := fun σ H R => td σ H fun x H1 => ∃ d kvs, x = .ref d ∧ H1 d = some (.dT kvs) ∧ ∀ o, R (Itit d o kvs) (upd H1 d (.frz o (.dT kvs)))
theorem pi_itemsP {X : Cx} {e : Expr} {td : TE} {apos cpos tpos : Pos} {elts : List Expr} {kk : Nat} (he : PE X e td) (hbase : attributeBase e "items" X.env (eval e X.env) = eval e X.env) (hline : (apos.endLine == cpos.line) = true) :
    PI X (.Tuple elts kk tpos) (.Call (.Attribute e "items" apos) [] [] cpos) (iItemsP td) := by
  refine ⟨fun pins s σ H R I h => ?_⟩
  refine wpAny_Call_method (T := "dict") (id := "dict.items") hbase rfl hline PySem.F.plainAttrs_dict PySem.F.slot_dict_items PySem.F.type_dict_items (thn (he.run pins s σ H _ I h) fun u s1 hh => ?_)
  obtain ⟨x, H1, I1, rx, d, kvs, ex, hd, q⟩ := hh
  subst ex
  obtain rfl : u = Value.ref d := rx
  obtain ⟨od, I2⟩ := I1.lock hd True.intro
  obtain ⟨hs, hgd, hx, es, ep, hdt, hsz, ent⟩ := frzT2 I2 upd_same
  have raw : s1.heap.DictRaw d es ep := ⟨od, hgd, hx, hdt⟩
  have ty : s1.TypeIs (.ref d) "dict" := ⟨od, hgd, hx.1⟩
  refine ⟨ty, fun b z => by cases z; exact ⟨od, hgd, hx.2.1⟩, ?_⟩
  have I3 := I2.kept (h' := s1.heap.push { cls := .type "dict_items", data := .fields #[.ref d] }) (t' := s1.toks) fun b ob q => Heap.get?_push_of_some _ q
  have raw2 : (s1.heap.push { cls := .type "dict_items", data := .fields #[.ref d] }).DictRaw d es ep := ⟨od, Heap.get?_push_of_some _ hgd, hx, hdt⟩
  have fin : wpAny (model X.prog X.w) X.A (pyIter (.ref s1.heap.objs.size)) (PIE X pins σ (.Tuple elts kk tpos) R) X.xe { s1 with heap := s1.heap.push { cls := .type "dict_items", data := .fields #[.ref d] } } :=
    wpAny_pyIter_items_raw (d := d) ⟨_, Heap.get?_push_size _ rfl, rfl, rfl⟩ raw2 (pi_one (tk := s1.toks) I3 _ (turn_itemsT _ hdt) ⟨.none, .none, Heap.get?_push_size _ rfl⟩ (q od))
  show wpAny _ _ (callWith cpos (.builtin "dict.items") [.ref d] [] []) _ X.xe s1
  exact method_meetsIn PySem.F.slot_dict_items PySem.F.entry_dict_items rfl (PySem.evalArgs_none ⟨rfl, ty, PySem.F.args_dict_items_1 _, _, meets_dict_items_raw d hs, ⟨es, ep, raw⟩, fin⟩)
/-- d.items() of an own dict with tuple keys; its name is not used behind it -/
def mOitems (i : Nat) : MA := fun ρ => match ρ[i]? with
  | some (.own (.dt kvs)) => if kvs.length ≤ sizeLine ∧ (kvs.all fun p => decide (p.1.length ≤ sizeLine)) = true then .ok (kvs.map fun p => .tuple [keysD p.1, p.2]) (ρ.set i .un) else .bad
  | _ => .bad
@[simp] theorem mOitems_eq (i : Nat) (ρ : PE0) : mOitems i ρ = (match ρ[i]? with | some (.own (.dt kvs)) => if kvs.length ≤ sizeLine ∧ (kvs.all fun p => decide (p.1.length ≤ sizeLine)) = true then .ok (kvs.map fun p => .tuple [keysD p.1, p.2]) (ρ.set i .un) else .bad | _ => .bad) := rfl
/-- a tuple that stands may be read -/
theorem Start.seen {G : Gx} {R H : Hp} {q : Addr} {xs : List V} (S : Start G R H) (hq : H q = some (.tup xs)) (hl : xs.length ≤ sizeLine) : After G none R H (upd R q (.tup xs)) H :=
  ⟨fun a u h => by
      by_cases e : a = q
      · subst e; rw [upd_same, ← hq]; exact S.sub _ _ h
      · rw [upd_ne e]; exact h,
    fun a u h => by
      by_cases e : a = q
      · subst e; rw [upd_same] at h; cases h; exact hq
      · rw [upd_ne e] at h; exact S.sub a u h,
    fun a ps => by
      by_cases e : a = q
      · subst e; rw [upd_same]; intro z; cases z
      · rw [upd_ne e]; exact S.dat a ps,
    fun a u h => by
      by_cases e : a = q
      · subst e; rw [upd_same] at h; cases h; exact hl
      · rw [upd_ne e] at h; exact S.lens a u h,
    fun _ _ h _ _ => h, fun _ h => h, S.tabs, fun a h => by
      by_cases e : a = q
      · subst e; exact .inr (.inr ⟨xs, upd_same⟩)
      · rw [upd_ne e] at h; exact .inl h⟩
theorem After.both {G : Gx} {R H R1 H1 R2 H2 : Hp} (A : After G none R H R1 H1) (B : After G none R1 H1 R2 H2) (hh : H1 = H) : After G none R H R2 H2 := by
  subst hh
  exact ⟨A.ext.trans B.ext, B.sub, B.dat, B.lens, B.kept, B.there, B.tabs, fun a h => by
    rcases B.old a h with z | z | z
    · rcases A.old a z with y | y | ⟨xs, y⟩
      · exact .inl y
      · exact .inr (.inl y)
      · exact .inr (.inr ⟨xs, B.ext _ _ y⟩)
    · exact .inr (.inl z)
    · exact .inr (.inr z)⟩
theorem plain_frz (o : Obj) (u : HO) : Plain (.frz o u) := ⟨fun _ z => (by cases z), fun _ _ z => (by unfold LamX.CodeO at z; cases z)⟩
theorem dq_keys {K : PySem.W.Frag} {R : Hp} {k : List L2.Key} {q : Addr} (h : R q = some (.tup (k.map kV))) : Dq K R (keysD k) (.ref q) :=
  dq_tuple.mpr ⟨q, _, rfl, h, dqa_keys.mpr rfl⟩
section
variable {ι : Type} {𝒳 : ι → Cx} {G : Gx} {k : Nat}
theorem ciOitems (i : Nat) {y : Str} {py apos cpos tpos : Pos} {elts : List Expr} {kk : Nat} (hN : ∀ j, (𝒳 j).N[i]? = some y := by intro _; rfl) (hv : ∀ j, Vis (𝒳 j).env.scope y := by first | exact fun _ => Or.inl rfl | exact fun _ => Or.inr (Or.inl rfl) | exact fun _ => Or.inr (Or.inr rfl)) (hd : (y == ("__debug__" : Str)) = false := by decide) (hcd : (y == ("__classdict__" : Str)) = false := by decide)
    (hbase : ∀ j, attributeBase (.Name y py) "items" (𝒳 j).env (eval (.Name y py) (𝒳 j).env) = eval (.Name y py) (𝒳 j).env := by intro _; rfl) (hline : (apos.endLine == cpos.line) = true := by rfl) :
    CI 𝒳 G (.Tuple elts kk tpos) (.Call (.Attribute (.Name y py) "items" apos) [] [] cpos) (mOitems i) := by
  refine ⟨iItemsP (tVar i), fun j => pi_itemsP (pe_var (hN j) (hv j) hd hcd) (hbase j) hline, fun Φ R ρ σ H ds ρ' S e Q q => ?_⟩
  unfold mOitems at e
  split at e
  · rename_i kvs hi
    split at e <;> cases e
    rename_i hb
    obtain ⟨hb1, hb2⟩ := hb
    obtain ⟨a, e1, h1, h2, xs, h3, h4⟩ := S.sl i _ hi
    have li : i < ρ.length := (List.getElem?_eq_some_iff.mp hi).1
    have S1 : SR G Φ R (ρ.set i .un) (σ.set i (some (.ref a))) H := S.forget
    rw [set_get_self e1] at S1
    have M : Mine Φ R (ρ.set i .un) σ a := ⟨h1, h2, fun j w' hj hs => by
      by_cases e : i = j
      · subst e; rw [List.getElem?_set_self li] at hj; cases hj
      · rw [List.getElem?_set_ne e] at hj; exact S.dis i j _ w' a e hi hj e1 hs⟩
    generalize hz : (kvs.map (·.1)).zip xs = zs at h3
    have lx := h4.length
    rw [List.length_map] at lx
    have zl : zs.length = kvs.length := by rw [← hz, List.length_zip, List.length_map]; omega
    refine ⟨.ref a, e1, a, zs, rfl, h3, fun o => ?_⟩
    have S2 := S1.mineSet M h3 (plain_dt zs) (plain_frz o (.dT zs))
    have S3 := S2.freeze M upd_same (plain_frz o (.dT zs)).1 True.intro
    refine q _ _ _ S3 (ext_upd h1) ⟨by rw [List.length_map]; exact hb1, fun R1 H1 j d x1 St hj => ?_, fun R1 H1 j x1 St hj => ⟨St.sub _ _ (x1 _ _ upd_same), by rw [List.length_map] at hj; omega⟩⟩
    rw [List.getElem?_map] at hj
    obtain ⟨p, hp, rfl⟩ := Option.map_eq_some_iff.mp hj
    have jl := (List.getElem?_eq_some_iff.mp hp).1
    refine ⟨⟨St.sub _ _ (x1 _ _ upd_same), by omega⟩, ?_⟩
    rintro x H' ⟨T, kx, v, qa, hkv, rfl, hT, hqa, rfl⟩
    rw [← hz, List.getElem?_zip_eq_some] at hkv
    obtain ⟨g1, g2⟩ := hkv
    rw [List.getElem?_map, hp] at g1
    cases g1
    have pk : p.1.length ≤ sizeLine := of_decide_eq_true (List.all_eq_true.mp hb2 p (List.mem_of_getElem? hp))
    have A1 := St.seen hqa (by rw [List.length_map]; exact pk)
    have A2 := A1.start.laid (o := .tup [.ref qa, v]) hT (fun _ z => nomatch z) (by show 2 ≤ sizeLine; decide)
    obtain ⟨v2, e2, dv⟩ := h4.get (i := j) (d := p.2) (by rw [List.getElem?_map, hp]; rfl)
    rw [g2] at e2
    cases e2
    have neq : qa ≠ T := fun z => by rw [z, hT] at hqa; cases hqa
    refine ⟨_, A1.both A2 rfl, dq_tuple.mpr ⟨T, _, rfl, upd_same, ?_⟩⟩
    have E : Ext R (upd (upd R1 qa (.tup (p.1.map kV))) T (.tup [.ref qa, v])) := (((ext_upd h1).trans x1).trans A1.ext).trans A2.ext
    exact dqa_cons.mpr ⟨_, _, rfl, dq_keys (by rw [upd_ne neq]; exact upd_same), dqa_one (dv.mono E)⟩
  · cases e
/-! ### d.get(k), d.get(k, x) -/
def mOget1 (i : Nat) (m : ME) : ME := fun ρ => match dicOw i ρ with
  | some _ => (m ρ).bind fun d ρ1 => match dicOw i ρ1 with
    | some w => Re.opt ((dgetO w d).map fun o => o.getD .none) ρ1
    | none => .bad
  | none => .bad
@[simp] theorem mOget1_eq (i : Nat) (m : ME) (ρ : PE0) : mOget1 i m ρ = (match dicOw i ρ with | some _ => (m ρ).bind fun d ρ1 => (match dicOw i ρ1 with | some w => Re.opt ((dgetO w d).map fun o => o.getD .none) ρ1 | none => .bad) | none => .bad) := rfl
def mOget2 (i : Nat) (m mx : ME) : ME := fun ρ => match dicOw i ρ with
  | some _ => (m ρ).bind fun d ρ1 => (mx ρ1).bind fun x ρ2 => match dicOw i ρ2 with
    | some w => Re.opt ((dgetO w d).map fun o => o.getD x) ρ2
    | none => .bad
  | none => .bad
@[simp] theorem mOget2_eq (i : Nat) (m mx : ME) (ρ : PE0) : mOget2 i m mx ρ = (match dicOw i ρ with | some _ => (m ρ).bind fun d ρ1 => (mx ρ1).bind fun x ρ2 => (match dicOw i ρ2 with | some w => Re.opt ((dgetO w d).map fun o => o.getD x) ρ2 | none => .bad) | none => .bad) := rfl
theorem own_isD {K : PySem.W.Frag} {R H : Hp} {a : Addr} {ρ : PE0} {i : Nat} {w : Ow} (hw : dicOw i ρ = some w) (h : OwnAt K R H a w) : IsD H a := by
  have z := dic_s hw
  cases w with
  | l ds => rw [dicOw_eq, z] at hw; cases hw
  | dk kvs => obtain ⟨xs, h1, _⟩ := h; exact .inl ⟨_, .inl h1⟩
  | dt kvs => obtain ⟨xs, h1, _⟩ := h; exact .inr ⟨_, .inl h1⟩
theorem cOget2 (i : Nat) {y : Str} {b f : Expr} {m mx : ME} {py apos cpos : Pos} (fm : Fm G k 𝒳) (h : CE 𝒳 G b m) (hf : CE 𝒳 G f mx) (hN : ∀ j, (𝒳 j).N[i]? = some y := by intro _; rfl) (hv : ∀ j, Vis (𝒳 j).env.scope y := by first | exact fun _ => Or.inl rfl | exact fun _ => Or.inr (Or.inl rfl) | exact fun _ => Or.inr (Or.inr rfl)) (hd : (y == ("__debug__" : Str)) = false := by decide) (hcd : (y == ("__classdict__" : Str)) = false := by decide)
    (hm : ∀ j, M2 (𝒳 j) (.Name y py) "get" apos b f cpos := by exact fun _ => ⟨rfl, rfl, rfl, rfl⟩) : CE 𝒳 G (.Call (.Attribute (.Name y py) "get" apos) [b, f] [] cpos) (mOget2 i m mx) := by
  obtain ⟨t, hp, hi⟩ := h
  obtain ⟨tx, hpx, hix⟩ := hf
  refine ⟨tDGet2 (tVar i) t tx, fun j => pe_dget2 (by have := room64 fm j; omega) (pe_var (hN j) (hv j) hd hcd) (hp j) (hpx j) (hm j), fun Φ R ρ σ H d ρ' S e Q q => ?_⟩
  unfold mOget2 at e
  split at e
  · rename_i w0 hw0
    obtain ⟨d1, ρ1, e1, e⟩ := Re.of_bind e
    obtain ⟨dx, ρ2, e2, e⟩ := Re.of_bind e
    split at e
    · rename_i w hw
      obtain ⟨e3, rfl⟩ := Re.of_opt e
      obtain ⟨a, z1, _, _, z4⟩ := S.sl i _ (dic_s hw0)
      refine ⟨.ref a, z1, a, rfl, own_isD hw0 z4, hi Φ R ρ σ H d1 ρ1 S e1 _ fun v R1 H1 S1 x1 qv => hix Φ R1 ρ1 σ H1 dx ρ' S1 e2 _ fun vx R2 H2 S2 x2 qx => ?_⟩
      obtain ⟨b2, y1, _, _, y4⟩ := S2.sl i _ (dic_s hw)
      rw [z1] at y1
      cases y1
      obtain ⟨r, e4, e5⟩ := Option.map_eq_some_iff.mp e3
      obtain ⟨o, g1, g2⟩ := own_get y4 S2.sub (qv.mono x2) e4
      refine ⟨o, g1, ?_⟩
      rcases g2 with ⟨d', u, a1, a2, a3⟩ | ⟨a1, a2⟩
      · subst a1 a2 e5
        exact q u R2 H2 S2 (x1.trans x2) a3
      · subst a1 a2 e5
        exact q vx R2 H2 S2 (x1.trans x2) qx
    · cases e
  · cases e
end
end Pm

namespace Pm
open PySem PySem.Spec PyProof.Rows L2
/-! dict(enumerate(t)), t a list or a tuple; dict(pairs); d.items() of an own dict with ints and texts as keys -/
section
variable {P : Program} {w : World} {A : Around} {E : Value → Shared → Prop} {s : Shared}
abbrev Held (h : Heap) (e it : Addr) (c : Int) (old : Value) (T : Addr) (f : Bool) : Prop := IsEnumHeld h e it c old T f
theorem heldNext {e it T : Addr} {fp : List Addr} {n i : Nat} {c : Int} {Pv : Nat → Value → Prop} {St : Nat → Heap → Prop} {old : Value} {f : Bool} {oT : Obj} {Q : Value → Shared → Prop}
    (D : Draws P w A it fp n Pv St) (he : Held s.heap e it c old T f) (hT : s.heap.get? T = some oT) (Te : T ≠ e) (Ti : T ≠ it) (hst : St i s.heap) (hlt : i < n) (hne : e ≠ it) (hef : e ∉ fp)
    (hQ : ∀ x h' tk, Pv i x → Held h' e it (c + 1) old T true → St (i + 1) h' → h'.get? s.heap.objs.size = some { cls := .type "tuple", data := .seq #[.int c tk, x] } → h'.objs.size = s.heap.objs.size + 1 →
      (∀ b o, b ≠ e → b ≠ it → s.heap.get? b = some o → h'.get? b = some o) → Q (.ref s.heap.objs.size) { s with heap := h', toks := tk + 1 }) :
    wpAny (model P w) A (Builtin.«enumerate.__next__» ⟨[.ref e], []⟩) (fun r s' => ∃ v, r = .done (.ret v) ∧ Q v s') E s := by
  obtain ⟨g0, gg, dd, t0, os⟩ := s
  have el : e < g0.objs.size := Heap.lt_size he
  show wpAny _ _ (field (.ref e) 2 >>= _) _ _ _
  refine wpAny_bind (wpAny_field he rfl (x := .ref it) rfl ?_)
  refine wpAny_bind (D.item i _ _ _ hlt hst fun x g1 tk px st1 k1 => ?_)
  have k1 : Heap.SameBut it g0 g1 := k1
  have e1 : Held g1 e it c old T f := (k1.2 e hne).trans he
  show wpAny _ _ (field (.ref e) 3 >>= _) _ _ ⟨g1, gg, dd, tk, os⟩
  refine wpAny_bind (wpAny_field e1 rfl (x := rawInt c) rfl ?_)
  show wpAny _ _ (field (.ref e) 4 >>= _) _ _ ⟨g1, gg, dd, tk, os⟩
  refine wpAny_bind (wpAny_field e1 rfl (x := .none) rfl ?_)
  show wpAny _ _ (mkInt c >>= _) _ _ ⟨g1, gg, dd, tk, os⟩
  refine wpAny_bind (wpAny_mkInt ?_)
  show wpAny _ _ (setField (.ref e) 3 (rawInt (c + 1)) >>= _) _ _ ⟨g1, gg, dd, tk + 1, os⟩
  refine wpAny_bind (wpAny_setField_rec e1 (by simp) fun g2 e2 k2 => ?_)
  have k2 : Heap.SameBut e g1 g2 := k2
  have e2 : Held g2 e it (c + 1) old T f := e2
  show wpAny _ _ (setField (.ref e) 4 .none >>= _) _ _ ⟨g2, gg, dd, tk + 1, os⟩
  refine wpAny_bind (wpAny_setField_rec e2 (by simp) fun g3 e3 k3 => ?_)
  have k3 : Heap.SameBut e g2 g3 := k3
  have e3 : Held g3 e it (c + 1) old T f := e3
  show wpAny _ _ (newTuple [.int c tk, x] >>= _) _ _ ⟨g3, gg, dd, tk + 1, os⟩
  refine wpAny_bind (wpAny_newTuple ?_)
  have z3 : g3.objs.size = g0.objs.size := by rw [k3.1, k2.1, k1.1]
  generalize hg : g3.push { cls := .type "tuple", data := .seq #[.int c tk, x] } = g4
  have e4 : Held g4 e it (c + 1) old T f := by rw [← hg]; exact Heap.get?_push_of_some _ e3
  have t4 : g4.get? g0.objs.size = some { cls := .type "tuple", data := .seq #[.int c tk, x] } := by rw [← hg, ← z3]; exact Heap.get?_push_size _ rfl
  have z4 : g4.objs.size = g0.objs.size + 1 := by rw [← hg, Heap.size_push, z3]
  have k4 : ∀ b o, b ≠ e → b ≠ it → g0.get? b = some o → g4.get? b = some o := fun b o be bi hb => by
    rw [← hg]
    exact Heap.get?_push_of_some _ (k3.extBut b o be (k2.extBut b o be (k1.extBut b o bi hb)))
  have st4 : St (i + 1) g4 := D.frame _ _ _ st1 fun b hb o y => by
    have be : b ≠ e := fun q => hef (q ▸ hb)
    rw [← hg]
    exact Heap.get?_push_of_some _ (k3.extBut b o be (k2.extBut b o be y))
  show wpAny _ _ (Builtin.SmallTypes.ownedTupleIsFree (.ref e) >>= _) _ _ ⟨g4, gg, dd, tk + 1, os⟩
  rw [z3]
  refine wpAny_bind (wpAny_tupleHeld_enum (s := ⟨g4, gg, dd, tk + 1, os⟩) e4 (k4 T oT Te Ti hT) fun g5 e5 k5 => ?_)
  have k5 : Heap.SameBut e g4 g5 := k5
  simp only [Bool.false_eq_true, if_false]
  refine wpAny_pure ⟨_, rfl, hQ x g5 tk px e5 ?_ (k5.extBut _ _ (Nat.ne_of_gt el) t4) (by rw [k5.1, z4]) fun b o be bi hb => k5.extBut b o be (k4 b o be bi hb)⟩
  exact D.frame _ _ _ st4 fun b hb o y => k5.extBut b o (fun q => hef (q ▸ hb)) y
theorem heldPy {e it T : Addr} {fp : List Addr} {n i : Nat} {c : Int} {Pv : Nat → Value → Prop} {St : Nat → Heap → Prop} {old : Value} {f : Bool} {oT : Obj} {Q : Option Value → Shared → Prop}
    (D : Draws P w A.in1 it fp n Pv St) (he : Held s.heap e it c old T f) (hT : s.heap.get? T = some oT) (Te : T ≠ e) (Ti : T ≠ it) (hst : St i s.heap) (hlt : i < n) (hne : e ≠ it) (hef : e ∉ fp)
    (hQ : ∀ x h' tk, Pv i x → Held h' e it (c + 1) old T true → St (i + 1) h' → h'.get? s.heap.objs.size = some { cls := .type "tuple", data := .seq #[.int c tk, x] } → h'.objs.size = s.heap.objs.size + 1 →
      (∀ b o, b ≠ e → b ≠ it → s.heap.get? b = some o → h'.get? b = some o) → Q (some (.ref s.heap.objs.size)) { s with heap := h', toks := tk + 1 }) : wpAny (model P w) A (pyNext (.ref e)) Q E s := by
  have ty : s.TypeIs (.ref e) "enumerate" := ⟨_, he, rfl⟩
  unfold pyNext
  refine wpAny_bind (wpAny_attempt (wpAny_callSpecial?_slot (name := Str.ofString "__next__") ty F.slot_enumerate_next (wpAny_call_entry F.slot_enumerate_next ty F.entry_enumerate_next ?_ (F.args_enumerate_next_1 _))))
  exact heldNext D he hT Te Ti hst hlt hne hef fun x h' tk a b c d k q => wpAny_pure (hQ x h' tk a b c d k q)
theorem heldEnd {e it T : Addr} {fp : List Addr} {n : Nat} {c : Int} {Pv : Nat → Value → Prop} {St : Nat → Heap → Prop} {old : Value} {f : Bool} {Q : Option Value → Shared → Prop}
    (D : Draws P w A.in1 it fp n Pv St) (he : Held s.heap e it c old T f) (hst : St n s.heap) (hQ : ∀ h', Heap.ExtBut it s.heap h' → Q none { s with heap := h' }) : wpAny (model P w) A (pyNext (.ref e)) Q E s := by
  have ty : s.TypeIs (.ref e) "enumerate" := ⟨_, he, rfl⟩
  unfold pyNext
  refine wpAny_bind (wpAny_attempt (wpAny_callSpecial?_slot (name := Str.ofString "__next__") ty F.slot_enumerate_next (wpAny_call_entry F.slot_enumerate_next ty F.entry_enumerate_next ?_ (F.args_enumerate_next_1 _))))
  show wpAny _ _ (field (.ref e) 2 >>= _) _ _ _
  refine wpAny_bind (wpAny_field he rfl (x := .ref it) rfl (wpAny_bind (D.done _ _ _ hst fun h' x k hx => ?_)))
  obtain ⟨o, ho, hc⟩ := hx
  exact wpAny_bind (wpAny_isInstance (T := "StopIteration") (b := true) ⟨o, ho, hc⟩ isSubtype_stop (wpAny_pure (hQ _ k)))
end
section
variable {P : Program} {w : World}
/-- enumerate(t) as an argument of dict() -/
theorem pairsT (e it l : Addr) (hei : e ≠ it) (hle : l ≠ e) (hli : l ≠ it) (items : Array Value) :
    PairArg P w "enumerate" e [e, it, l] [e, it] items.size (fun i k v => (∃ t, k = .int i t) ∧ items[i]? = some v) (fun h => (∃ old, IsEnum h e it 0 old) ∧ h.IsTupleIter it l 0 ∧ h.IsTuple l items) where
  type := fun s ok => let ⟨⟨_, he⟩, _⟩ := ok; ⟨_, he, rfl⟩
  notDict := by decide
  keep := fun h h' ok hk => by
    obtain ⟨⟨old, he⟩, hit, hl⟩ := ok
    refine ⟨⟨old, hk _ _ he⟩, hit.at fun o x => ?_, hl.at fun o x => ?_⟩ <;> exact hk _ o x
  there := fun h ok b hb => by
    obtain ⟨⟨old, he⟩, ⟨o1, h1, _⟩, ⟨o2, h2, _⟩⟩ := ok
    simp only [List.mem_cons, List.not_mem_nil, or_false] at hb
    rcases hb with rfl | rfl | rfl
    · exact ⟨_, he⟩
    · exact ⟨_, h1⟩
    · exact ⟨_, h2⟩
  sub := fun b hb => by
    simp only [List.mem_cons, List.not_mem_nil, or_false] at hb ⊢
    rcases hb with rfl | rfl
    · exact .inl rfl
    · exact .inr (.inl rfl)
  noKeys := fun A s Q E hA ok h => let ⟨⟨_, he⟩, _⟩ := ok; getAttrOr_miss_enumerate he rfl rfl rfl enumerate_no_keys (by decide +kernel) hA h
  iter := fun A s d Q E hA ok hd hdf h => by
    obtain ⟨⟨old, he⟩, hit, hl⟩ := ok
    simp only [List.mem_cons, List.not_mem_nil, or_false, not_or] at hdf
    obtain ⟨de, dit, dl⟩ := hdf
    have nf : e ∉ [it, l] := by simp [hei, Ne.symm hle]
    have D : ∀ A : Around, A.handled = none → Draws P w A it [it, l] items.size (fun i v => items[i]? = some v) (fun i h => h.IsTupleIter it l i ∧ h.IsTuple l items) := fun A hh => Draws.tuple hh it l hli items
    refine wpAny_pyIter_enum he (h e [e, it] (fun i h => (h.IsTupleIter it l i ∧ h.IsTuple l items) ∧ ((∃ old, IsEnum h e it i old) ∨ ∃ old T f oT, Held h e it i old T f ∧ h.get? T = some oT ∧ T ≠ e ∧ T ≠ it ∧ T ≠ d)) s.heap s.toks ?_ ⟨⟨hit, hl⟩, .inl ⟨old, he⟩⟩ (fun _ _ e => e) fun b hb => .inl hb)
    refine ⟨?_, ?_, ?_, ?_⟩
    · intro hm
      simp only [List.mem_cons, List.not_mem_nil, or_false] at hm
      exact hm.elim de dit
    · rintro i h1 h2 ⟨⟨hit, hl⟩, he⟩ hk
      refine ⟨⟨hit.at fun o x => hk _ o (Ne.symm dit) x, hl.at fun o x => hk _ o (Ne.symm dl) x⟩, ?_⟩
      rcases he with ⟨old, he⟩ | ⟨old, T, f, oT, he, hT, r1, r2, r3⟩
      · exact .inl ⟨old, hk _ _ (Ne.symm de) he⟩
      · exact .inr ⟨old, T, f, oT, hk _ _ (Ne.symm de) he, hk _ _ r3 hT, r1, r2, r3⟩
    · rintro i s1 Q1 E1 hi ⟨st, he⟩ hds hQ
      have ec : ((i + 1 : Nat) : Int) = (i : Int) + 1 := by omega
      have nit : s1.heap.objs.size ≠ it := let ⟨_, x, _⟩ := st.1; Nat.ne_of_gt (Heap.lt_size x)
      have off : ∀ b, b ∉ [e, it] → b ≠ e ∧ b ≠ it := fun b hb => ⟨fun y => hb (by simp [y]), fun y => hb (by simp [y])⟩
      rcases he with ⟨old, he⟩ | ⟨old, T, f, oT, he, hT, r1, r2, r3⟩
      · refine wpAny_pyNext_enum_itemC (D _ hA) he st hi hei nf fun x h' tk px ho st' hT hz hk => ?_
        refine hQ s1.heap.objs.size _ _ h' (tk + 1) ⟨⟨tk, rfl⟩, px⟩ (.inl ⟨_, hT, rfl, _, rfl⟩) ⟨st', .inr ⟨x, s1.heap.objs.size, false, _, ?_, hT, Nat.ne_of_gt (Heap.lt_size he), nit, Nat.ne_of_gt hds⟩⟩ fun b o hb x => hk b o (off b hb).1 (off b hb).2 x
        rw [ec]
        exact ho
      · refine heldPy (D _ hA) he hT r1 r2 st hi hei nf fun x h' tk px ho st' hT' hz hk => ?_
        refine hQ s1.heap.objs.size _ _ h' (tk + 1) ⟨⟨tk, rfl⟩, px⟩ (.inl ⟨_, hT', rfl, _, rfl⟩) ⟨st', .inr ⟨old, T, true, oT, ?_, hk _ _ r1 r2 hT, r1, r2, r3⟩⟩ fun b o hb x => hk b o (off b hb).1 (off b hb).2 x
        rw [ec]
        exact ho
    · rintro s1 Q1 E1 ⟨st, he⟩ hQ
      rcases he with ⟨old, he⟩ | ⟨old, T, f, oT, he, hT, r1, r2, r3⟩
      · exact wpAny_pyNext_enum_endD (D _ hA) he st fun h' hk => hQ h' s1.toks fun b o hb x => hk b o (fun y => hb (by simp [y])) x
      · exact heldEnd (D _ hA) he st fun h' hk => hQ h' s1.toks fun b o hb x => hk b o (fun y => hb (by simp [y])) x
end
theorem putK_new {acc : List (L2.Key × V)} {k : L2.Key} {v : V} (h : k ∉ acc.map (·.1)) : putK acc k v = acc ++ [(k, v)] := by
  unfold putK
  rw [if_neg]
  intro z
  obtain ⟨p, hp, e⟩ := List.any_eq_true.mp z
  exact h (List.mem_map.mpr ⟨p, hp, of_decide_eq_true e⟩)
theorem mergeK_new : ∀ (more acc : List (L2.Key × V)), (acc.map (·.1) ++ more.map (·.1)).Nodup → mergeK acc more = acc ++ more
  | [], acc, _ => (List.append_nil acc).symm
  | p :: more, acc, h => by
    have h2 : ((acc ++ [p]).map (·.1) ++ more.map (·.1)).Nodup := by rw [List.map_append, List.append_assoc]; exact h
    have h3 : p.1 ∉ acc.map (·.1) := fun z => by
      rw [List.nodup_append] at h
      exact h.2.2 _ z _ (by simp) rfl
    have z := mergeK_new more (acc ++ [p]) h2
    rw [List.append_assoc] at z
    show mergeK (putK acc p.1 p.2) more = _
    rw [putK_new h3]
    exact z
/-- keys 0, 1, .. -/
def enK {β : Type} (xs : List β) : List (L2.Key × β) := xs.zipIdx.map fun p => (Sum.inl (p.2 : Int), p.1)
theorem enK_zip {β : Type} (xs : List β) : enK xs = ((enK xs).map (·.1)).zip xs := by
  have go : ∀ (xs : List β) (n : Nat), (xs.zipIdx n).map (fun p => ((Sum.inl (p.2 : Int) : L2.Key), p.1)) = (((xs.zipIdx n).map fun p => ((Sum.inl (p.2 : Int) : L2.Key), p.1)).map (·.1)).zip xs := fun xs => by
    induction xs with
    | nil => intro n; rfl
    | cons x xs ih =>
      intro n
      rw [List.zipIdx_cons, List.map_cons, List.map_cons, List.zip_cons_cons, ← ih (n + 1)]
  exact go xs 0
theorem enK_keys {β γ : Type} {xs : List β} {ys : List γ} (h : xs.length = ys.length) : (enK xs).map (·.1) = (enK ys).map (·.1) := by
  have go : ∀ (xs : List β) (ys : List γ) (n : Nat), xs.length = ys.length → ((xs.zipIdx n).map fun p => ((Sum.inl (p.2 : Int) : L2.Key), p.1)).map (·.1) = ((ys.zipIdx n).map fun p => ((Sum.inl (p.2 : Int) : L2.Key), p.1)).map (·.1) := fun xs => by
    induction xs with
    | nil => intro ys n h; cases ys with | nil => rfl | cons y ys => simp at h
    | cons x xs ih =>
      intro ys n h
      cases ys with
      | nil => simp at h
      | cons y ys =>
        rw [List.zipIdx_cons, List.map_cons, List.map_cons, List.zipIdx_cons, List.map_cons, List.map_cons, ih ys (n + 1) (by simpa using h)]
  exact go xs ys 0 h
theorem enK_nodup {β : Type} (xs : List β) : ((enK xs).map (·.1)).Nodup := by
  have go : ∀ (xs : List β) (n : Nat), ((xs.zipIdx n).map fun p => ((Sum.inl (p.2 : Int) : L2.Key), p.1)).map (·.1) = (List.range' n xs.length).map fun i : Nat => (Sum.inl (i : Int) : L2.Key) := fun xs => by
    induction xs with
    | nil => intro n; rfl
    | cons x xs ih =>
      intro n
      rw [List.zipIdx_cons, List.map_cons, List.map_cons, ih (n + 1), List.length_cons, List.range'_succ, List.map_cons]
  unfold enK
  rw [go xs 0]
  refine List.pairwise_map.mpr ((List.pairwise_lt_range' (s := 0) (n := xs.length)).imp fun {a b} h z => ?_)
  injection z with z
  omega
theorem enK_at {β : Type} {xs : List β} {i : Nat} {x : β} (h : xs[i]? = some x) : (enK xs)[i]? = some (Sum.inl (i : Int), x) := by
  unfold enK
  rw [List.getElem?_map, List.getElem?_zipIdx, h]
  simp
theorem KV_en {xs : List V} {its : List Value} (r : Vals xs its) : KV (enK xs) (enK its) := by
  have go : ∀ {xs : List V} {its : List Value} (r : Vals xs its) (n : Nat), KV ((xs.zipIdx n).map fun p => ((Sum.inl (p.2 : Int) : L2.Key), p.1)) ((its.zipIdx n).map fun p => ((Sum.inl (p.2 : Int) : L2.Key), p.1)) := by
    intro xs its r
    induction r with
    | nil => intro n; exact .nil
    | cons h t ih => intro n; exact .cons ⟨rfl, h⟩ (ih (n + 1))
  exact go r 0
/-- dict(enumerate(x)) -/
def tDicEn (K : PySem.W.Frag) (ta : TE) : TE := fun σ H Q => ta σ H fun x H1 => ∃ a xs, x = .ref a ∧ (SqL K H1 a xs ∨ SqT K H1 a xs) ∧ ∀ p, H1 p = none → Q (.ref p) (upd H1 p (.dK (enK xs)))
theorem pe_dicEn {X : Cx} {a : Expr} {ta : TE} {p p2 q pos : Pos} (hc : X.calm = true) (hg : Gl X "dict") (hm : X.mg "dict" = none) (hg2 : Gl X "enumerate") (hm2 : X.mg "enumerate" = none) (ha : PE X a ta)
    (na : starEach [a] X.env = (false, eval a X.env) :: starEach [] X.env)
    (nb : starEach [.Call (.Name "enumerate" p2) [a] [] q] X.env = (false, eval (.Call (.Name "enumerate" p2) [a] [] q) X.env) :: starEach [] X.env) : PE X (.Call (.Name "dict" p) [.Call (.Name "enumerate" p2) [a] [] q] [] pos) (tDicEn X.K ta) := by
  refine ⟨fun pins s σ H Q I h => Call_ (ld_blt I hg hm PyProof.Rows.boot_dict (callWith_type1 (args_cons ?_ nb) nb rfl))⟩
  refine Call_ (ld_blt I hg2 hm2 boot_enumerate (callWith_type1 (args_cons (thn (ha.run pins s σ H _ I h) fun v t1 hh => args_nil ?_) na) na rfl))
  obtain ⟨x, H1, J1, r1, l, xs, rfl, hs, q1⟩ := hh
  cases r1
  have fin : ∀ {its : List Value} {h1 h2 : Heap} {tk : Nat} {e it : Addr}, Vals xs its → xs.length ≤ sizeLine → (∀ b o, t1.heap.get? b = some o → h1.get? b = some o) → t1.heap.objs.size ≤ h1.objs.size → t1.heap.objs.size ≤ e → t1.heap.objs.size ≤ it →
      h2.DictOf (mixKind X.prog X.w) h1.objs.size (merged [] (enK its)) → (∀ b o, b ∉ [e, it] → h1.get? b = some o → h2.get? b = some o) → EP X pins σ Q (.ref h1.objs.size) { t1 with heap := h2, toks := tk } := fun {its h1 h2 tk e it} rv hz k1 hsz le li hd' k => by
    have hm' : (h1.objs.size == sysModules) = false := beq_eq_false_iff_ne.mpr (Nat.ne_of_gt (Nat.lt_of_lt_of_le J1.big hsz))
    have em : mergeK [] (enK xs) = enK xs := mergeK_new _ [] (enK_nodup xs)
    have rel := KV.merge (KV_en rv) .nil
    rw [em] at rel
    have hl : (enK xs).length ≤ sizeLine := by unfold enK; simp; exact hz
    refine ⟨.ref h1.objs.size, upd H1 h1.objs.size (.dK (enK xs)), J1.laid (t' := tk) (fun b u q => k b u ?_ (k1 b u q)) hsz ⟨hl, hm', _, rel, hd'⟩, rfl, q1 _ (J1.hok.fresh hsz)⟩
    have := Heap.lt_size q
    simp only [List.mem_cons, List.not_mem_nil, or_false, not_or]
    exact ⟨Nat.ne_of_lt (Nat.lt_of_lt_of_le this le), Nat.ne_of_lt (Nat.lt_of_lt_of_le this li)⟩
  have have_ : ∀ (its : List Value), PairsHave (mixKind X.prog X.w) its.toArray.size (fun i k v => (∃ t, k = .int i t) ∧ its.toArray[i]? = some v) (enK its) := fun its => by
    refine ⟨by unfold enK; simp, ?_⟩
    rintro i key v ⟨⟨t, rfl⟩, hv⟩
    rw [List.getElem?_toArray] at hv
    exact ⟨_, enK_at hv, kV_is (k := Sum.inl (i : Int)) ⟨t, rfl⟩⟩
  rcases hs with hs | hs
  · obtain ⟨its, rv, pl, hz⟩ := J1.list hs
    have hal : l < t1.heap.objs.size := by obtain ⟨o, ho, _⟩ := pl.isList; exact Heap.lt_size ho
    have lv := rv.length
    refine call_enumerate_list pl.isList fun h' he hit hsz hk => args_nil ?_
    have pt' : h'.IsList l its.toArray := pl.isList.at fun o x => hk _ o x
    have hz1 : t1.heap.objs.size + 1 < h'.objs.size := Heap.lt_size he
    exact call_dict_pairs (knd := mixKind X.prog X.w) (kvs := enK its) (PairArg.enumerate (t1.heap.objs.size + 1) t1.heap.objs.size l (Nat.succ_ne_self _) (Nat.ne_of_lt (Nat.lt_succ_of_lt hal)) (Nat.ne_of_lt hal) its.toArray) (J1.ok.hd hc) ⟨⟨_, he⟩, hit, pt'⟩ (have_ its) (by simp; omega)
      fun h2 tk hd' k => fin rv hz hk (Nat.le_of_lt (Nat.lt_of_succ_lt hz1)) (Nat.le_succ _) (Nat.le_refl _) hd' k
  · obtain ⟨its, rv, pt, hz⟩ := J1.tuple hs
    have hal : l < t1.heap.objs.size := by obtain ⟨o, ho, _⟩ := pt; exact Heap.lt_size ho
    have lv := rv.length
    refine call_enum1 (begins_tuple l its.toArray) pt fun h' he hit hk => args_nil ?_
    have pt' : h'.IsTuple l its.toArray := let ⟨o, ho, r⟩ := pt; ⟨o, hk _ _ ho, r⟩
    have hz1 : t1.heap.objs.size + 1 < h'.objs.size := Heap.lt_size he
    exact call_dict_pairs (knd := mixKind X.prog X.w) (kvs := enK its) (pairsT (t1.heap.objs.size + 1) t1.heap.objs.size l (Nat.succ_ne_self _) (Nat.ne_of_lt (Nat.lt_succ_of_lt hal)) (Nat.ne_of_lt hal) its.toArray) (J1.ok.hd hc) ⟨⟨_, he⟩, ⟨_, hit, rfl, rfl⟩, pt'⟩ (have_ its) (by simp; omega)
      fun h2 tk hd' k => fin rv hz hk (Nat.le_of_lt (Nat.lt_of_succ_lt hz1)) (Nat.le_succ _) (Nat.le_refl _) hd' k
def dictEn : D → Option Ow
  | .tuple ds => some (.dk (enK ds))
  | .list ds => some (.dk (enK ds))
  | _ => none
def mDicEn (m : ME) : MO := fun ρ => (m ρ).bind fun d ρ1 => Re.opt (dictEn d) ρ1
@[simp] theorem mDicEn_eq (m : ME) (ρ : PE0) : mDicEn m ρ = (m ρ).bind fun d ρ1 => Re.opt (dictEn d) ρ1 := rfl
theorem enK_snd {β : Type} (xs : List β) : (enK xs).map (·.2) = xs := by
  have go : ∀ (xs : List β) (n : Nat), ((xs.zipIdx n).map fun p => ((Sum.inl (p.2 : Int) : L2.Key), p.1)).map (·.2) = xs := fun xs => by
    induction xs with
    | nil => intro n; rfl
    | cons x xs ih => intro n; rw [List.zipIdx_cons, List.map_cons, List.map_cons, ih (n + 1)]
  exact go xs 0
def prs : List D → Option (List (L2.Key × D))
  | [] => some []
  | .tuple [k, d] :: r => (keyOf k).bind fun k => (prs r).map fun r => (k, d) :: r
  | _ => none
def dictPr : List D → Option Ow
  | [.list ds] => (prs ds).bind fun kvs => if (kvs.map (·.1)).Nodup then some (.dk kvs) else none
  | _ => none
theorem prs_ok {K : PySem.W.Frag} {R H : Hp} (sub : Ext R H) : ∀ {ds : List D} {kvs : List (L2.Key × D)} {xs : List V}, prs ds = some kvs → DqA K R ds xs →
    ∃ (ps : List Addr) (vs : List V), xs = ps.map V.ref ∧ DqA K R (kvs.map (·.2)) vs ∧ Paired (fun p kv => SqT K H p [kV kv.1, kv.2]) ps ((kvs.map (·.1)).zip vs)
  | [], _, xs, e, h => by
    cases e
    rw [dqa_nil.mp h]
    exact ⟨[], [], rfl, dqa_nil.mpr rfl, .nil⟩
  | d :: ds, kvs, xs, e, h => by
    obtain ⟨x, r, rfl, h1, h2⟩ := dqa_cons.mp h
    unfold prs at e
    split at e
    · rename_i heq
      cases heq
    · rename_i k d' r' heq
      cases heq
      obtain ⟨k', e1, e⟩ := Option.bind_eq_some_iff.mp e
      obtain ⟨kvs', e2, rfl⟩ := Option.map_eq_some_iff.mp e
      obtain ⟨p, us, rfl, g1, g2⟩ := dq_tuple.mp h1
      obtain ⟨y, r1, rfl, g3, g4⟩ := dqa_cons.mp g2
      obtain ⟨v, rfl, g5⟩ := dqa1 g4
      rw [keyOf_eq e1] at g3
      cases dq_key.mp g3
      obtain ⟨ps, vs, rfl, i1, i2⟩ := prs_ok sub e2 h2
      exact ⟨p :: ps, v :: vs, rfl, dqa_cons.mpr ⟨_, _, rfl, g5, i1⟩, .cons (.inl (.inl (sub _ _ g1))) i2⟩
    · cases e
section
variable {ι : Type} {𝒳 : ι → Cx} {G : Gx} {k : Nat}
theorem oDicEn {a : Expr} {m : ME} {p p2 q pos : Pos} (fm : Fm G k 𝒳) (hm : G.mg "dict" = none) (hm2 : G.mg "enumerate" = none) (h : CE 𝒳 G a m) (hg : ∀ i, Gl (𝒳 i) "dict" := by intro _; rfl) (hg2 : ∀ i, Gl (𝒳 i) "enumerate" := by intro _; rfl)
    (na : ∀ i, starEach [a] (𝒳 i).env = (false, eval a (𝒳 i).env) :: starEach [] (𝒳 i).env := by intro _; rfl)
    (nb : ∀ i, starEach [.Call (.Name "enumerate" p2) [a] [] q] (𝒳 i).env = (false, eval (.Call (.Name "enumerate" p2) [a] [] q) (𝒳 i).env) :: starEach [] (𝒳 i).env := by intro _; rfl) : CO 𝒳 G (.Call (.Name "dict" p) [.Call (.Name "enumerate" p2) [a] [] q] [] pos) (mDicEn m) := by
  obtain ⟨t, hp, hi⟩ := h
  refine ⟨tDicEn G.K t, fun i => by have z := pe_dicEn (p := p) (p2 := p2) (q := q) (pos := pos) (fm.calm i) (hg i) (by rw [fm.mg i]; exact hm) (hg2 i) (by rw [fm.mg i]; exact hm2) (hp i) (na i) (nb i); rw [fm.K i] at z; exact z, fun Φ R ρ σ H w ρ' S e Q qq => ?_⟩
  obtain ⟨d, ρ1, e1, e⟩ := Re.of_bind e
  obtain ⟨e2, rfl⟩ := Re.of_opt e
  refine hi Φ R ρ σ H d _ S e1 _ fun v R1 H1 S1 x1 qv => ?_
  have fin : ∀ {ds : List D} {a : Addr} {xs : List V}, DqA G.K R1 ds xs → w = .dk (enK ds) → ∀ p, H1 p = none → Q (.ref p) (upd H1 p (.dK (enK xs))) := fun {ds a xs} h2 ew l nl => by
    subst ew
    refine qq l R1 _ (S1.made nl) x1 (S1.mine nl) ⟨xs, ?_, ?_⟩
    · rw [upd_same, enK_keys (h2.length), ← enK_zip]
    · rw [enK_snd]; exact h2
  unfold dictEn at e2
  split at e2 <;> cases e2
  · obtain ⟨a, xs, rfl, h1, h2⟩ := dq_tuple.mp qv
    exact ⟨a, xs, rfl, .inr (.inl (.inl (S1.sub _ _ h1))), fin (a := a) h2 rfl⟩
  · obtain ⟨a, xs, rfl, h1, h2⟩ := dq_list.mp qv
    exact ⟨a, xs, rfl, .inl (.inl (.inl (S1.sub _ _ h1))), fin (a := a) h2 rfl⟩
theorem oDicPr {e : Expr} {m : ME} {p pos : Pos} (fm : Fm G k 𝒳) (hm : G.mg "dict" = none) (h : CE 𝒳 G e m) (hg : ∀ i, Gl (𝒳 i) "dict" := by intro _; rfl)
    (he : ∀ i, starEach [e] (𝒳 i).env = (false, eval e (𝒳 i).env) :: starEach [] (𝒳 i).env := by intro _; rfl) : CO 𝒳 G (.Call (.Name "dict" p) [e] [] pos) (mCallO dictPr (mCons m mNil)) :=
  oCallTy fm (fun i => fm.call (p := fun K xs H Q => ∃ (a : Addr) (ps : List Addr) (kvs : List (L2.Key × V)), xs = [.ref a] ∧ SqL K H a (ps.map V.ref) ∧ Paired (fun p kv => SqT K H p [kV kv.1, kv.2]) ps kvs ∧
    ∀ p, H p = none → Q (.ref p) (upd H p (.dK (mergeK [] kvs)))) i (call_dictP (fm.calm i))) (fun Φ R H ρ σ ds d vs S e qa Q q => by
    unfold dictPr at e
    split at e
    · rename_i us
      obtain ⟨kvs, e1, e⟩ := Option.bind_eq_some_iff.mp e
      split at e <;> cases e
      rename_i nd
      obtain ⟨x, rfl, h⟩ := dqa1 qa
      obtain ⟨p, ws, rfl, h1, h2⟩ := dq_list.mp h
      obtain ⟨ps, zs, rfl, g1, g2⟩ := prs_ok S.sub e1 h2
      have lz := g1.length
      rw [List.length_map] at lz
      have ek : ((kvs.map (·.1)).zip zs).map (·.1) = kvs.map (·.1) := List.map_fst_zip (by rw [List.length_map]; omega)
      refine ⟨p, ps, _, rfl, .inl (.inl (S.sub _ _ h1)), g2, fun l nl => q l R _ (S.made nl) (Ext.refl R) (S.mine nl) ⟨zs, ?_, g1⟩⟩
      rw [upd_same, mergeK_new _ [] (by rw [List.map_nil, List.nil_append, ek]; exact nd)]
      rfl
    · cases e) hm (by decide +kernel) (aCons h aNil he) hg (by decide) (by decide) he (fun _ => rfl)
end
/-! ### d.items(), keys ints and texts -/
def iItemsPK (td : TE) : TI := fun σ H R => td σ H fun x H1 => ∃ d kvs, x = .ref d ∧ H1 d = some (.dK kvs) ∧ ∀ o, R (Iti d o kvs) (upd H1 d (.frz o (.dK kvs)))
theorem pi_itemsPK {X : Cx} {e : Expr} {td : TE} {apos cpos tpos : Pos} {elts : List Expr} {kk : Nat} (he : PE X e td) (hbase : attributeBase e "items" X.env (eval e X.env) = eval e X.env) (hline : (apos.endLine == cpos.line) = true) :
    PI X (.Tuple elts kk tpos) (.Call (.Attribute e "items" apos) [] [] cpos) (iItemsPK td) := by
  refine ⟨fun pins s σ H R I h => ?_⟩
  refine wpAny_Call_method (T := "dict") (id := "dict.items") hbase rfl hline PySem.F.plainAttrs_dict PySem.F.slot_dict_items PySem.F.type_dict_items (thn (he.run pins s σ H _ I h) fun u s1 hh => ?_)
  obtain ⟨x, H1, I1, rx, d, kvs, ex, hd, q⟩ := hh
  subst ex
  obtain rfl : u = Value.ref d := rx
  obtain ⟨od, I2⟩ := I1.lock hd True.intro
  obtain ⟨hs, hgd, hx, es, ep, vs, hdt, hsz, kv, hm⟩ := I2.frzK upd_same
  have raw : s1.heap.DictRaw d es ep := ⟨od, hgd, hx, hdt⟩
  have ty : s1.TypeIs (.ref d) "dict" := ⟨od, hgd, hx.1⟩
  refine ⟨ty, fun b z => by cases z; exact ⟨od, hgd, hx.2.1⟩, ?_⟩
  have I3 := I2.kept (h' := s1.heap.push { cls := .type "dict_items", data := .fields #[.ref d] }) (t' := s1.toks) fun b ob q => Heap.get?_push_of_some _ q
  have raw2 : (s1.heap.push { cls := .type "dict_items", data := .fields #[.ref d] }).DictRaw d es ep := ⟨od, Heap.get?_push_of_some _ hgd, hx, hdt⟩
  have fin : wpAny (model X.prog X.w) X.A (pyIter (.ref s1.heap.objs.size)) (PIE X pins σ (.Tuple elts kk tpos) R) X.xe { s1 with heap := s1.heap.push { cls := .type "dict_items", data := .fields #[.ref d] } } :=
    wpAny_pyIter_items_raw (d := d) ⟨_, Heap.get?_push_size _ rfl, rfl, rfl⟩ raw2 (pi_one (tk := s1.toks) I3 _ (turn_items _ hdt) ⟨.none, .none, by rw [← hsz]; exact Heap.get?_push_size _ rfl⟩ (q od))
  show wpAny _ _ (callWith cpos (.builtin "dict.items") [.ref d] [] []) _ X.xe s1
  exact method_meetsIn PySem.F.slot_dict_items PySem.F.entry_dict_items rfl (PySem.evalArgs_none ⟨rfl, ty, PySem.F.args_dict_items_1 _, _, meets_dict_items_raw d hs, ⟨es, ep, raw⟩, fin⟩)
def mOitemsK (i : Nat) : MA := fun ρ => match ρ[i]? with
  | some (.own (.dk kvs)) => if kvs.length ≤ sizeLine then .ok (kvs.map fun p => .tuple [keyD p.1, p.2]) (ρ.set i .un) else .bad
  | _ => .bad
@[simp] theorem mOitemsK_eq (i : Nat) (ρ : PE0) : mOitemsK i ρ = (match ρ[i]? with | some (.own (.dk kvs)) => if kvs.length ≤ sizeLine then .ok (kvs.map fun p => .tuple [keyD p.1, p.2]) (ρ.set i .un) else .bad | _ => .bad) := rfl
section
variable {ι : Type} {𝒳 : ι → Cx} {G : Gx} {k : Nat}
theorem ciOitemsK (i : Nat) {y : Str} {py apos cpos tpos : Pos} {elts : List Expr} {kk : Nat} (hN : ∀ j, (𝒳 j).N[i]? = some y := by intro _; rfl) (hv : ∀ j, Vis (𝒳 j).env.scope y := by first | exact fun _ => Or.inl rfl | exact fun _ => Or.inr (Or.inl rfl) | exact fun _ => Or.inr (Or.inr rfl)) (hd : (y == ("__debug__" : Str)) = false := by decide) (hcd : (y == ("__classdict__" : Str)) = false := by decide)
    (hbase : ∀ j, attributeBase (.Name y py) "items" (𝒳 j).env (eval (.Name y py) (𝒳 j).env) = eval (.Name y py) (𝒳 j).env := by intro _; rfl) (hline : (apos.endLine == cpos.line) = true := by rfl) :
    CI 𝒳 G (.Tuple elts kk tpos) (.Call (.Attribute (.Name y py) "items" apos) [] [] cpos) (mOitemsK i) := by
  refine ⟨iItemsPK (tVar i), fun j => pi_itemsPK (pe_var (hN j) (hv j) hd hcd) (hbase j) hline, fun Φ R ρ σ H ds ρ' S e Q q => ?_⟩
  unfold mOitemsK at e
  split at e
  · rename_i kvs hi
    split at e <;> cases e
    rename_i hb1
    obtain ⟨a, e1, h1, h2, xs, h3, h4⟩ := S.sl i _ hi
    have li : i < ρ.length := (List.getElem?_eq_some_iff.mp hi).1
    have S1 : SR G Φ R (ρ.set i .un) (σ.set i (some (.ref a))) H := S.forget
    rw [set_get_self e1] at S1
    have M : Mine Φ R (ρ.set i .un) σ a := ⟨h1, h2, fun j w' hj hs => by
      by_cases e : i = j
      · subst e; rw [List.getElem?_set_self li] at hj; cases hj
      · rw [List.getElem?_set_ne e] at hj; exact S.dis i j _ w' a e hi hj e1 hs⟩
    generalize hz : (kvs.map (·.1)).zip xs = zs at h3
    have lx := h4.length
    rw [List.length_map] at lx
    have zl : zs.length = kvs.length := by rw [← hz, List.length_zip, List.length_map]; omega
    refine ⟨.ref a, e1, a, zs, rfl, h3, fun o => ?_⟩
    have S2 := S1.mineSet M h3 (plain_dk zs) (plain_frz o (.dK zs))
    have S3 := S2.freeze M upd_same (plain_frz o (.dK zs)).1 True.intro
    refine q _ _ _ S3 (ext_upd h1) ⟨by rw [List.length_map]; exact hb1, fun R1 H1 j d x1 St hj => ?_, fun R1 H1 j x1 St hj => ⟨St.sub _ _ (x1 _ _ upd_same), by rw [List.length_map] at hj; omega⟩⟩
    rw [List.getElem?_map] at hj
    obtain ⟨p, hp, rfl⟩ := Option.map_eq_some_iff.mp hj
    have jl := (List.getElem?_eq_some_iff.mp hp).1
    refine ⟨⟨St.sub _ _ (x1 _ _ upd_same), by omega⟩, ?_⟩
    rintro x H' ⟨T, kx, v, hkv, rfl, hT, rfl⟩
    rw [← hz, List.getElem?_zip_eq_some] at hkv
    obtain ⟨g1, g2⟩ := hkv
    rw [List.getElem?_map, hp] at g1
    cases g1
    have A2 := St.laid (o := .tup [kV p.1, v]) hT (fun _ z => nomatch z) (by show 2 ≤ sizeLine; decide)
    obtain ⟨v2, e2, dv⟩ := h4.get (i := j) (d := p.2) (by rw [List.getElem?_map, hp]; rfl)
    rw [g2] at e2
    cases e2
    refine ⟨_, A2, dq_tuple.mpr ⟨T, _, rfl, upd_same, ?_⟩⟩
    have E : Ext R (upd R1 T (.tup [kV p.1, v])) := ((ext_upd h1).trans x1).trans A2.ext
    exact dqa_cons.mpr ⟨_, _, rfl, dq_key.mpr rfl, dqa_one (dv.mono E)⟩
  · cases e
end
end Pm

namespace Pm
open PySem PySem.Spec PyProof.Rows L2
def top (i : Nat) : Stmt := PySem.Challenge.pw_cordwalk_k08_whole_bundles.main.body.getD i (.Pass ⟨0, 0, 0, 0⟩)
abbrev s_is_in : Stmt := top 4
abbrev s_are_in : Stmt := top 5
abbrev s_is_ascending : Stmt := top 6
abbrev s_demand : Stmt := top 7
abbrev s_common : Stmt := top 8
abbrev s_fraction : Stmt := top 9
abbrev s_is_less : Stmt := top 10
abbrev s_added : Stmt := top 11
abbrev s_multiplied : Stmt := top 12
abbrev s_choices : Stmt := top 14
abbrev s_demand_strengths : Stmt := top 19
abbrev s_demand_load : Stmt := top 20
abbrev s_rounds_of : Stmt := top 21
abbrev s_breaks_at : Stmt := top 22
abbrev s_left_at : Stmt := top 23
abbrev s_most_borne : Stmt := top 24
abbrev s_bears : Stmt := top 25
abbrev s_first_break : Stmt := top 26
abbrev s_nearest : Stmt := top 27
abbrev s_shared_out : Stmt := top 28
abbrev s_rounds_beside : Stmt := top 29
abbrev s_breaks_beside : Stmt := top 30
abbrev s_left_beside : Stmt := top 31
abbrev s_bears_beside : Stmt := top 32
abbrev s_chosen : Stmt := top 33
abbrev s_fewest_yarns : Stmt := top 34
abbrev s_bundle : Stmt := top 35
abbrev s_is_bundle : Stmt := top 36
abbrev s__law_dice : Stmt := top 38
abbrev s__law_roll : Stmt := top 39
abbrev s__law_pick : Stmt := top 40
abbrev s__law_refused : Stmt := top 41
abbrev s__law_subsets : Stmt := top 42
abbrev s__law_broken : Stmt := top 43
abbrev s__law_beside : Stmt := top 44
abbrev s__law_right : Stmt := top 45
abbrev s_law : Stmt := top 46
structure Fct (G : Gx) : Prop where
  d_is_in : ∃ f, (∃ fd, FunD G.K "is_in" "is_in" (defArgs s_is_in) (defBody s_is_in) (defScope s_is_in) [] [] f fd) ∧ G.mg "is_in" = some (.ref f)
  d_are_in : ∃ f, (∃ fd, FunD G.K "are_in" "are_in" (defArgs s_are_in) (defBody s_are_in) (defScope s_are_in) [] [] f fd) ∧ G.mg "are_in" = some (.ref f)
  d_is_ascending : ∃ f, (∃ fd, FunD G.K "is_ascending" "is_ascending" (defArgs s_is_ascending) (defBody s_is_ascending) (defScope s_is_ascending) [] [] f fd) ∧ G.mg "is_ascending" = some (.ref f)
  d_demand : ∃ f, (∃ fd, FunD G.K "demand" "demand" (defArgs s_demand) (defBody s_demand) (defScope s_demand) [] [] f fd) ∧ G.mg "demand" = some (.ref f)
  d_common : ∃ f, (∃ fd, FunD G.K "common" "common" (defArgs s_common) (defBody s_common) (defScope s_common) [] [] f fd) ∧ G.mg "common" = some (.ref f)
  d_fraction : ∃ f, (∃ fd, FunD G.K "fraction" "fraction" (defArgs s_fraction) (defBody s_fraction) (defScope s_fraction) [] [] f fd) ∧ G.mg "fraction" = some (.ref f)
  d_is_less : ∃ f, (∃ fd, FunD G.K "is_less" "is_less" (defArgs s_is_less) (defBody s_is_less) (defScope s_is_less) [] [] f fd) ∧ G.mg "is_less" = some (.ref f)
  d_added : ∃ f, (∃ fd, FunD G.K "added" "added" (defArgs s_added) (defBody s_added) (defScope s_added) [] [] f fd) ∧ G.mg "added" = some (.ref f)
  d_multiplied : ∃ f, (∃ fd, FunD G.K "multiplied" "multiplied" (defArgs s_multiplied) (defBody s_multiplied) (defScope s_multiplied) [] [] f fd) ∧ G.mg "multiplied" = some (.ref f)
  d_choices : ∃ f, (∃ fd, FunD G.K "choices" "choices" (defArgs s_choices) (defBody s_choices) (defScope s_choices) [] [] f fd) ∧ G.mg "choices" = some (.ref f)
  d_demand_strengths : ∃ f, (∃ fd, FunD G.K "demand_strengths" "demand_strengths" (defArgs s_demand_strengths) (defBody s_demand_strengths) (defScope s_demand_strengths) [] [] f fd) ∧ G.mg "demand_strengths" = some (.ref f)
  d_demand_load : ∃ f, (∃ fd, FunD G.K "demand_load" "demand_load" (defArgs s_demand_load) (defBody s_demand_load) (defScope s_demand_load) [] [] f fd) ∧ G.mg "demand_load" = some (.ref f)
  d_rounds_of : ∃ f, (∃ fd, FunD G.K "rounds_of" "rounds_of" (defArgs s_rounds_of) (defBody s_rounds_of) (defScope s_rounds_of) [] [] f fd) ∧ G.mg "rounds_of" = some (.ref f)
  d_breaks_at : ∃ f, (∃ fd, FunD G.K "breaks_at" "breaks_at" (defArgs s_breaks_at) (defBody s_breaks_at) (defScope s_breaks_at) [] [] f fd) ∧ G.mg "breaks_at" = some (.ref f)
  d_left_at : ∃ f, (∃ fd, FunD G.K "left_at" "left_at" (defArgs s_left_at) (defBody s_left_at) (defScope s_left_at) [] [] f fd) ∧ G.mg "left_at" = some (.ref f)
  d_most_borne : ∃ f, (∃ fd, FunD G.K "most_borne" "most_borne" (defArgs s_most_borne) (defBody s_most_borne) (defScope s_most_borne) [] [] f fd) ∧ G.mg "most_borne" = some (.ref f)
  d_bears : ∃ f, (∃ fd, FunD G.K "bears" "bears" (defArgs s_bears) (defBody s_bears) (defScope s_bears) [] [] f fd) ∧ G.mg "bears" = some (.ref f)
  d_first_break : ∃ f, (∃ fd, FunD G.K "first_break" "first_break" (defArgs s_first_break) (defBody s_first_break) (defScope s_first_break) [] [] f fd) ∧ G.mg "first_break" = some (.ref f)
  d_nearest : ∃ f, (∃ fd, FunD G.K "nearest" "nearest" (defArgs s_nearest) (defBody s_nearest) (defScope s_nearest) [] [] f fd) ∧ G.mg "nearest" = some (.ref f)
  d_shared_out : ∃ f, (∃ fd, FunD G.K "shared_out" "shared_out" (defArgs s_shared_out) (defBody s_shared_out) (defScope s_shared_out) [] [] f fd) ∧ G.mg "shared_out" = some (.ref f)
  d_rounds_beside : ∃ f, (∃ fd, FunD G.K "rounds_beside" "rounds_beside" (defArgs s_rounds_beside) (defBody s_rounds_beside) (defScope s_rounds_beside) [] [] f fd) ∧ G.mg "rounds_beside" = some (.ref f)
  d_breaks_beside : ∃ f, (∃ fd, FunD G.K "breaks_beside" "breaks_beside" (defArgs s_breaks_beside) (defBody s_breaks_beside) (defScope s_breaks_beside) [] [] f fd) ∧ G.mg "breaks_beside" = some (.ref f)
  d_left_beside : ∃ f, (∃ fd, FunD G.K "left_beside" "left_beside" (defArgs s_left_beside) (defBody s_left_beside) (defScope s_left_beside) [] [] f fd) ∧ G.mg "left_beside" = some (.ref f)
  d_bears_beside : ∃ f, (∃ fd, FunD G.K "bears_beside" "bears_beside" (defArgs s_bears_beside) (defBody s_bears_beside) (defScope s_bears_beside) [] [] f fd) ∧ G.mg "bears_beside" = some (.ref f)
  d_chosen : ∃ f, (∃ fd, FunD G.K "chosen" "chosen" (defArgs s_chosen) (defBody s_chosen) (defScope s_chosen) [] [] f fd) ∧ G.mg "chosen" = some (.ref f)
  d_fewest_yarns : ∃ f, (∃ fd, FunD G.K "fewest_yarns" "fewest_yarns" (defArgs s_fewest_yarns) (defBody s_fewest_yarns) (defScope s_fewest_yarns) [] [] f fd) ∧ G.mg "fewest_yarns" = some (.ref f)
  d_bundle : ∃ f, (∃ fd, FunD G.K "bundle" "bundle" (defArgs s_bundle) (defBody s_bundle) (defScope s_bundle) [] [] f fd) ∧ G.mg "bundle" = some (.ref f)
  d_is_bundle : ∃ f, (∃ fd, FunD G.K "is_bundle" "is_bundle" (defArgs s_is_bundle) (defBody s_is_bundle) (defScope s_is_bundle) [] [] f fd) ∧ G.mg "is_bundle" = some (.ref f)
  d__law_dice : ∃ f, (∃ fd, FunD G.K "_law_dice" "_law_dice" (defArgs s__law_dice) (defBody s__law_dice) (defScope s__law_dice) [] [] f fd) ∧ G.mg "_law_dice" = some (.ref f)
  d__law_roll : ∃ f, (∃ fd, FunD G.K "_law_roll" "_law_roll" (defArgs s__law_roll) (defBody s__law_roll) (defScope s__law_roll) [] [] f fd) ∧ G.mg "_law_roll" = some (.ref f)
  d__law_pick : ∃ f, (∃ fd, FunD G.K "_law_pick" "_law_pick" (defArgs s__law_pick) (defBody s__law_pick) (defScope s__law_pick) [] [] f fd) ∧ G.mg "_law_pick" = some (.ref f)
  d__law_refused : ∃ f, (∃ fd, FunD G.K "_law_refused" "_law_refused" (defArgs s__law_refused) (defBody s__law_refused) (defScope s__law_refused) [] [] f fd) ∧ G.mg "_law_refused" = some (.ref f)
  d__law_subsets : ∃ f, (∃ fd, FunD G.K "_law_subsets" "_law_subsets" (defArgs s__law_subsets) (defBody s__law_subsets) (defScope s__law_subsets) [] [] f fd) ∧ G.mg "_law_subsets" = some (.ref f)
  d__law_broken : ∃ f, (∃ fd, FunD G.K "_law_broken" "_law_broken" (defArgs s__law_broken) (defBody s__law_broken) (defScope s__law_broken) [] [] f fd) ∧ G.mg "_law_broken" = some (.ref f)
  d__law_beside : ∃ f, (∃ fd, FunD G.K "_law_beside" "_law_beside" (defArgs s__law_beside) (defBody s__law_beside) (defScope s__law_beside) [] [] f fd) ∧ G.mg "_law_beside" = some (.ref f)
  d__law_right : ∃ f, (∃ fd, FunD G.K "_law_right" "_law_right" (defArgs s__law_right) (defBody s__law_right) (defScope s__law_right) [] [] f fd) ∧ G.mg "_law_right" = some (.ref f) ∧ LamD G "_law_right" f
  d_law : ∃ f, (∃ fd, FunD G.K "law" "law" (defArgs s_law) (defBody s_law) (defScope s_law) [] [] f fd) ∧ G.mg "law" = some (.ref f)
  b_len : G.mg "len" = none
  b_isinstance : G.mg "isinstance" = none
  b_all : G.mg "all" = none
  b_sum : G.mg "sum" = none
  b_abs : G.mg "abs" = none
  b_range : G.mg "range" = none
  b_tuple : G.mg "tuple" = none
  b_list : G.mg "list" = none
  b_int : G.mg "int" = none
  b_bool : G.mg "bool" = none
  b_min : G.mg "min" = none
  b_max : G.mg "max" = none
  b_sorted : G.mg "sorted" = none
  b_enumerate : G.mg "enumerate" = none
  b_zip : G.mg "zip" = none
  b_set : G.mg "set" = none
  b_dict : G.mg "dict" = none
  b_any : G.mg "any" = none
  b_ValueError : G.mg "ValueError" = none
  b_super : G.mg "super" = none
  i_MOST_YARNS : ∃ t, G.mg "MOST_YARNS" = some (.int 8 t)
  i_MOST_STRENGTH : ∃ t, G.mg "MOST_STRENGTH" = some (.int 99 t)
  i_MOST_LOAD : ∃ t, G.mg "MOST_LOAD" = some (.int 999 t)
  bad : BadTxt G.P G.K G.mg G.C
  ref : ∃ g, RefTxt G g (defScope s__law_refused)
def m_is_in : MS := (mRet (mAnd (mIsi isiInt (mVar 0)) (mAnd (mNot (mIsi isiBool (mVar 0))) (mB (mChainB leI leI (mVar 1) (mVar 0) (mVar 2))))))
def F_is_in : List D → Out := fnP 3 m_is_in
theorem p_is_in {G : Gx} (X : Fct G) : ∃ f, PrF G 1 "is_in" s_is_in f ["value", "low", "high"] (spP G 3 F_is_in) := by
  obtain ⟨f, F, gm⟩ := X.d_is_in
  refine ⟨f, okP (N := ["value", "low", "high"]) (k := 0) F gm ⟨rfl, rfl, rfl, by decide +kernel, rfl, by decide +kernel, by decide +kernel⟩ (fun _ _ _ _ _ _ us hl => match us, hl with | [_, _, _], _ => rfl) rfl (by decide) fun E => ?_⟩
  have fm : Fm G 0 (fX G ["value", "low", "high"] "is_in" (defScope s_is_in) f 0 E) := fX_fm (by decide +kernel)
  have fs := fX_fs (G := G) (N := ["value", "low", "high"]) (qual := "is_in") (scope := defScope s_is_in) (f := f) (k := 0) (E := E)
  exact (ssOne (sRet (cAnd (cIsiInt fm X.b_isinstance X.b_int (cVar 0)) (cAnd (cNot (cIsiBool fm X.b_isinstance X.b_bool (cVar 0))) (cOne (cChain mLe mLe (cVar 1) (cVar 0) (cVar 2)))))))
def m_are_in : MS := (mRet (mAnd (mIsi isiTup (mVar 0)) (mAnd (mB (mChainB leI leI (mVar 1) (mCallB lenD (mCons (mVar 0) mNil)) (mVar 2))) (mCallB allL (mCons (mGive (mLc (List.map (fun q : Str × Nat => q.2) [("part", 5)]) (mItems (mVar 0)) (gSet 5) mYes (mCall F_is_in (mCons (mVar 5) (mCons (mVar 3) (mCons (mVar 4) mNil)))))) mNil)))))
def F_are_in : List D → Out := fnP 6 m_are_in
theorem p_are_in {G : Gx} (X : Fct G) : ∃ f, PrF G 2 "are_in" s_are_in f ["value", "least", "most", "low", "high"] (spP G 5 F_are_in) := by
  obtain ⟨f_is_in, P_is_in⟩ := p_is_in X
  obtain ⟨f, F, gm⟩ := X.d_are_in
  refine ⟨f, okP (N := ["value", "least", "most", "low", "high", "part"]) (k := 1) F gm ⟨rfl, rfl, rfl, by decide +kernel, rfl, by decide +kernel, by decide +kernel⟩ (fun _ _ _ _ _ _ us hl => match us, hl with | [_, _, _, _, _], _ => rfl) rfl (by decide) fun E => ?_⟩
  have fm : Fm G 1 (fX G ["value", "least", "most", "low", "high", "part"] "are_in" (defScope s_are_in) f 1 E) := fX_fm (by decide +kernel)
  have fs := fX_fs (G := G) (N := ["value", "least", "most", "low", "high", "part"]) (qual := "are_in") (scope := defScope s_are_in) (f := f) (k := 1) (E := E)
  exact (ssOne (sRet (cAnd (cIsiTup fm X.b_isinstance X.b_tuple (cVar 0)) (cAnd (cChain mLe mLe (cVar 1) (cLen fm X.b_len (cVar 0)) (cVar 2)) (cOne (cAll fm X.b_all (cGive (oLc [("part", 5)] fm (iSeqC fm (cVar 0)) (gNm 5 (Fm.blk fm _)) tsNil (cCall (Fm.blk fm _) P_is_in (by omega) (aCons (cVar 5) (aCons (cVar 3) (aCons (cVar 4) aNil)))) (fun _ => blkOk_by (by kernel_rfl))))))))))
def m_is_ascending : MS := (mRet (mCallB allL (mCons (mGive (mLc (List.map (fun q : Str × Nat => q.2) [("one", 1), ("two", 2)]) (mRng zipB (mCons (mVar 0) (mCons (mSlice (mVar 0) (mPart (mC (.int 1))) mNoP) mNil))) (gTupM 2 (gsCons (gSet 1) (gsCons (gSet 2) gsNil))) mYes (mCmp ltI (mVar 1) (mVar 2)))) mNil)))
def F_is_ascending : List D → Out := fnP 3 m_is_ascending
theorem p_is_ascending {G : Gx} (X : Fct G) : ∃ f, PrF G 1 "is_ascending" s_is_ascending f ["values"] (spP G 1 F_is_ascending) := by
  obtain ⟨f, F, gm⟩ := X.d_is_ascending
  refine ⟨f, okP (N := ["values", "one", "two"]) (k := 0) F gm ⟨rfl, rfl, rfl, by decide +kernel, rfl, by decide +kernel, by decide +kernel⟩ (fun _ _ _ _ _ _ us hl => match us, hl with | [_], _ => rfl) rfl (by decide) fun E => ?_⟩
  have fm : Fm G 0 (fX G ["values", "one", "two"] "is_ascending" (defScope s_is_ascending) f 0 E) := fX_fm (by decide +kernel)
  have fs := fX_fs (G := G) (N := ["values", "one", "two"]) (qual := "is_ascending") (scope := defScope s_is_ascending) (f := f) (k := 0) (E := E)
  exact (ssOne (sRet (cAll fm X.b_all (cGive (oLc [("one", 1), ("two", 2)] fm (iZipB fm X.b_zip (cVar 0) (cSlice fm (cVar 0) (pSome cInt) pNone)) (gTp (Fm.blk fm _) (gsC (gNm 1 (Fm.blk fm _)) (gsC (gNm 2 (Fm.blk fm _)) gsN))) tsNil (cCmp mLt (cVar 1) (cVar 2)) (fun _ => blkOk_by (by kernel_rfl)))))))
def m_demand : MS := (mIfS (mNotT (mT (mVar 0))) (mRaise (mVar 1)) mNx)
def F_demand : List D → Out := fnP 2 m_demand
theorem p_demand {G : Gx} (X : Fct G) : ∃ f, PrF G 1 "demand" s_demand f ["is_good", "name"] (spP G 2 F_demand) := by
  obtain ⟨f, F, gm⟩ := X.d_demand
  refine ⟨f, okP (N := ["is_good", "name"]) (k := 0) F gm ⟨rfl, rfl, rfl, by decide +kernel, rfl, by decide +kernel, by decide +kernel⟩ (fun _ _ _ _ _ _ us hl => match us, hl with | [_, _], _ => rfl) rfl (by decide) fun E => ?_⟩
  have fm : Fm G 0 (fX G ["is_good", "name"] "demand" (defScope s_demand) f 0 E) := fX_fm (by decide +kernel)
  have fs := fX_fs (G := G) (N := ["is_good", "name"]) (qual := "demand") (scope := defScope s_demand) (f := f) (k := 0) (E := E)
  exact (ssOne (sIf (tNot (tVal (cVar 0))) (ssOne (sRaise fm fs X.bad (cVar 1))) ssNil))
def m_common : MS := (mSq (whGo (tCmpM gtI (mVar 1) (mC (.int 0))) (mPar 0 1 (mCons (mVar 1) (mCons (mOp2 modI (mVar 0) (mVar 1)) mNil))) 100000)
  (mRet (mVar 0)))
def F_common : List D → Out := fnP 2 m_common
theorem p_common {G : Gx} (X : Fct G) : ∃ f, PrF G 1 "common" s_common f ["one", "two"] (spP G 2 F_common) := by
  obtain ⟨f, F, gm⟩ := X.d_common
  refine ⟨f, okP (N := ["one", "two"]) (k := 0) F gm ⟨rfl, rfl, rfl, by decide +kernel, rfl, by decide +kernel, by decide +kernel⟩ (fun _ _ _ _ _ _ us hl => match us, hl with | [_, _], _ => rfl) rfl (by decide) fun E => ?_⟩
  have fm : Fm G 0 (fX G ["one", "two"] "common" (defScope s_common) f 0 E) := fX_fm (by decide +kernel)
  have fs := fX_fs (G := G) (N := ["one", "two"]) (qual := "common") (scope := defScope s_common) (f := f) (k := 0) (E := E)
  exact (ssCons (sWhile 100000 fs (tCmp mGt (cVar 1) cInt) (ssOne (sPar 0 1 fm (aCons (cVar 1) (aCons (cMod (cVar 0) (cVar 1)) aNil)))))
  (ssOne (sRet (cVar 0))))
def m_fraction : MS := (mSq (mSt 2 (mCall F_common (mCons (mCallB absI (mCons (mVar 0) mNil)) (mCons (mVar 1) mNil))))
  (mRet (mTup (mCons (mOp2 divI (mVar 0) (mVar 2)) (mCons (mOp2 divI (mVar 1) (mVar 2)) mNil)))))
def F_fraction : List D → Out := fnP 3 m_fraction
theorem p_fraction {G : Gx} (X : Fct G) : ∃ f, PrF G 2 "fraction" s_fraction f ["part", "whole"] (spP G 2 F_fraction) := by
  obtain ⟨f_common, P_common⟩ := p_common X
  obtain ⟨f, F, gm⟩ := X.d_fraction
  refine ⟨f, okP (N := ["part", "whole", "by"]) (k := 1) F gm ⟨rfl, rfl, rfl, by decide +kernel, rfl, by decide +kernel, by decide +kernel⟩ (fun _ _ _ _ _ _ us hl => match us, hl with | [_, _], _ => rfl) rfl (by decide) fun E => ?_⟩
  have fm : Fm G 1 (fX G ["part", "whole", "by"] "fraction" (defScope s_fraction) f 1 E) := fX_fm (by decide +kernel)
  have fs := fX_fs (G := G) (N := ["part", "whole", "by"]) (qual := "fraction") (scope := defScope s_fraction) (f := f) (k := 1) (E := E)
  exact (ssCons (sSet 2 fm (cCall fm P_common (by omega) (aCons (cAbs fm X.b_abs (cVar 0)) (aCons (cVar 1) aNil))))
  (ssOne (sRet (cTup (aCons (cDiv (cVar 0) (cVar 2)) (aCons (cDiv (cVar 1) (cVar 2)) aNil))))))
def m_is_less : MS := (mRet (mCmp ltI (mOp2 mulI (mOp2 ixD (mVar 0) (mC (.int 0))) (mOp2 ixD (mVar 1) (mC (.int 1)))) (mOp2 mulI (mOp2 ixD (mVar 1) (mC (.int 0))) (mOp2 ixD (mVar 0) (mC (.int 1))))))
def F_is_less : List D → Out := fnP 2 m_is_less
theorem p_is_less {G : Gx} (X : Fct G) : ∃ f, PrF G 1 "is_less" s_is_less f ["one", "two"] (spP G 2 F_is_less) := by
  obtain ⟨f, F, gm⟩ := X.d_is_less
  refine ⟨f, okP (N := ["one", "two"]) (k := 0) F gm ⟨rfl, rfl, rfl, by decide +kernel, rfl, by decide +kernel, by decide +kernel⟩ (fun _ _ _ _ _ _ us hl => match us, hl with | [_, _], _ => rfl) rfl (by decide) fun E => ?_⟩
  have fm : Fm G 0 (fX G ["one", "two"] "is_less" (defScope s_is_less) f 0 E) := fX_fm (by decide +kernel)
  have fs := fX_fs (G := G) (N := ["one", "two"]) (qual := "is_less") (scope := defScope s_is_less) (f := f) (k := 0) (E := E)
  exact (ssOne (sRet (cCmp mLt (cMulI (cIx fm (cVar 0) cInt) (cIx fm (cVar 1) cInt)) (cMulI (cIx fm (cVar 1) cInt) (cIx fm (cVar 0) cInt)))))
def m_added : MS := (mRet (mCall F_fraction (mCons (mOp2 addD (mOp2 mulI (mOp2 ixD (mVar 0) (mC (.int 0))) (mOp2 ixD (mVar 1) (mC (.int 1)))) (mOp2 mulI (mOp2 ixD (mVar 1) (mC (.int 0))) (mOp2 ixD (mVar 0) (mC (.int 1))))) (mCons (mOp2 mulI (mOp2 ixD (mVar 0) (mC (.int 1))) (mOp2 ixD (mVar 1) (mC (.int 1)))) mNil))))
def F_added : List D → Out := fnP 2 m_added
theorem p_added {G : Gx} (X : Fct G) : ∃ f, PrF G 3 "added" s_added f ["one", "two"] (spP G 2 F_added) := by
  obtain ⟨f_fraction, P_fraction⟩ := p_fraction X
  obtain ⟨f, F, gm⟩ := X.d_added
  refine ⟨f, okP (N := ["one", "two"]) (k := 2) F gm ⟨rfl, rfl, rfl, by decide +kernel, rfl, by decide +kernel, by decide +kernel⟩ (fun _ _ _ _ _ _ us hl => match us, hl with | [_, _], _ => rfl) rfl (by decide) fun E => ?_⟩
  have fm : Fm G 2 (fX G ["one", "two"] "added" (defScope s_added) f 2 E) := fX_fm (by decide +kernel)
  have fs := fX_fs (G := G) (N := ["one", "two"]) (qual := "added") (scope := defScope s_added) (f := f) (k := 2) (E := E)
  exact (ssOne (sRet (cCall fm P_fraction (by omega) (aCons (cAdd fm (cMulI (cIx fm (cVar 0) cInt) (cIx fm (cVar 1) cInt)) (cMulI (cIx fm (cVar 1) cInt) (cIx fm (cVar 0) cInt))) (aCons (cMulI (cIx fm (cVar 0) cInt) (cIx fm (cVar 1) cInt)) aNil)))))
def m_multiplied : MS := (mRet (mCall F_fraction (mCons (mOp2 mulI (mOp2 ixD (mVar 0) (mC (.int 0))) (mOp2 ixD (mVar 1) (mC (.int 0)))) (mCons (mOp2 mulI (mOp2 ixD (mVar 0) (mC (.int 1))) (mOp2 ixD (mVar 1) (mC (.int 1)))) mNil))))
def F_multiplied : List D → Out := fnP 2 m_multiplied
theorem p_multiplied {G : Gx} (X : Fct G) : ∃ f, PrF G 3 "multiplied" s_multiplied f ["one", "two"] (spP G 2 F_multiplied) := by
  obtain ⟨f_fraction, P_fraction⟩ := p_fraction X
  obtain ⟨f, F, gm⟩ := X.d_multiplied
  refine ⟨f, okP (N := ["one", "two"]) (k := 2) F gm ⟨rfl, rfl, rfl, by decide +kernel, rfl, by decide +kernel, by decide +kernel⟩ (fun _ _ _ _ _ _ us hl => match us, hl with | [_, _], _ => rfl) rfl (by decide) fun E => ?_⟩
  have fm : Fm G 2 (fX G ["one", "two"] "multiplied" (defScope s_multiplied) f 2 E) := fX_fm (by decide +kernel)
  have fs := fX_fs (G := G) (N := ["one", "two"]) (qual := "multiplied") (scope := defScope s_multiplied) (f := f) (k := 2) (E := E)
  exact (ssOne (sRet (cCall fm P_fraction (by omega) (aCons (cMulI (cIx fm (cVar 0) cInt) (cIx fm (cVar 1) cInt)) (aCons (cMulI (cIx fm (cVar 0) cInt) (cIx fm (cVar 1) cInt)) aNil)))))
def m_choices : MS := (mSq (mSt 2 (mGive (mLst (mCons (mTup mNil) mNil))))
  (mSq (mFor (mRng rng1 (mCons (mVar 1) mNil)) (gSet 3) (mSq (mStO 4 (mLst mNil))
  (mSq (mFor (mItems (mVar 2)) (gSet 5) (mMeth 4 extD (mCons (mGive (mLc (List.map (fun q : Str × Nat => q.2) [("at", 6)]) (mRng rng2 (mCons (mIf (tCmpM gtI (mCallB lenD (mCons (mVar 5) mNil)) (mC (.int 0))) (mOp2 addD (mOp2 ixD (mVar 5) (mOp1 negI (mC (.int 1)))) (mC (.int 1))) (mC (.int 0))) (mCons (mVar 0) mNil))) (gSet 6) mYes (mOp2 addD (mVar 5) (mTup (mCons (mVar 6) mNil))))) mNil)))
  (mSt 2 (mVar 4)))))
  (mRet (mVar 2))))
def F_choices : List D → Out := fnP 7 m_choices
theorem p_choices {G : Gx} (X : Fct G) : ∃ f, PrF G 1 "choices" s_choices f ["count", "many"] (spP G 2 F_choices) := by
  obtain ⟨f, F, gm⟩ := X.d_choices
  refine ⟨f, okP (N := ["count", "many", "rows", "turn", "longer", "row", "at"]) (k := 0) F gm ⟨rfl, rfl, rfl, by decide +kernel, rfl, by decide +kernel, by decide +kernel⟩ (fun _ _ _ _ _ _ us hl => match us, hl with | [_, _], _ => rfl) rfl (by decide) fun E => ?_⟩
  have fm : Fm G 0 (fX G ["count", "many", "rows", "turn", "longer", "row", "at"] "choices" (defScope s_choices) f 0 E) := fX_fm (by decide +kernel)
  have fs := fX_fs (G := G) (N := ["count", "many", "rows", "turn", "longer", "row", "at"]) (qual := "choices") (scope := defScope s_choices) (f := f) (k := 0) (E := E)
  exact (ssCons (sSet 2 fm (cGive (oLst (aCons (cTup aNil) aNil))))
  (ssCons (sFor fm fs (iRange1 fm X.b_range (cVar 1)) (gNm 3 (vs := [3]) fm) (ssCons (sSetO 4 fm (oLst aNil))
  (ssCons (sFor fm fs (iSeqC fm (cVar 2)) (gNm 5 (vs := [5]) fm) (ssOne (sExtend 4 fm (cGive (oLc [("at", 6)] fm (iRange2 fm X.b_range (cIf (tCmp mGt (cLen fm X.b_len (cVar 5)) cInt) (cAdd fm (cIx fm (cVar 5) (cNeg cInt)) cInt) cInt) (cVar 0)) (gNm 6 (Fm.blk fm _)) tsNil (cAdd (Fm.blk fm _) (cVar 5) (cTup (aCons (cVar 6) aNil))) (fun _ => blkOk_by (by kernel_rfl)))))))
  (ssOne (sSet 2 fm (cVar 4))))))
  (ssOne (sRet (cVar 2)))))
def m_demand_strengths : MS := (mCallX F_demand (mCons (mCall F_are_in (mCons (mVar 0) (mCons (mC (.int 1)) (mCons (mC (.int 8)) (mCons (mC (.int 1)) (mCons (mC (.int 99)) mNil)))))) (mCons (mC (.str "strengths")) mNil)))
def F_demand_strengths : List D → Out := fnP 1 m_demand_strengths
theorem p_demand_strengths {G : Gx} (X : Fct G) : ∃ f, PrF G 3 "demand_strengths" s_demand_strengths f ["strengths"] (spP G 1 F_demand_strengths) := by
  obtain ⟨f_are_in, P_are_in⟩ := p_are_in X
  obtain ⟨f_demand, P_demand⟩ := p_demand X
  obtain ⟨f, F, gm⟩ := X.d_demand_strengths
  refine ⟨f, okP (N := ["strengths"]) (k := 2) F gm ⟨rfl, rfl, rfl, by decide +kernel, rfl, by decide +kernel, by decide +kernel⟩ (fun _ _ _ _ _ _ us hl => match us, hl with | [_], _ => rfl) rfl (by decide) fun E => ?_⟩
  have fm : Fm G 2 (fX G ["strengths"] "demand_strengths" (defScope s_demand_strengths) f 2 E) := fX_fm (by decide +kernel)
  have fs := fX_fs (G := G) (N := ["strengths"]) (qual := "demand_strengths") (scope := defScope s_demand_strengths) (f := f) (k := 2) (E := E)
  exact (ssOne (sCallX fm fs P_demand (by omega) (aCons (cCall fm P_are_in (by omega) (aCons (cVar 0) (aCons cInt (aCons (cGInt fm X.i_MOST_YARNS) (aCons cInt (aCons (cGInt fm X.i_MOST_STRENGTH) aNil)))))) (aCons cStr aNil))))
def m_demand_load : MS := (mSq (mCallX F_demand_strengths (mCons (mVar 0) mNil))
  (mCallX F_demand (mCons (mCall F_is_in (mCons (mVar 1) (mCons (mC (.int 0)) (mCons (mC (.int 999)) mNil)))) (mCons (mC (.str "load")) mNil))))
def F_demand_load : List D → Out := fnP 2 m_demand_load
theorem p_demand_load {G : Gx} (X : Fct G) : ∃ f, PrF G 4 "demand_load" s_demand_load f ["strengths", "load"] (spP G 2 F_demand_load) := by
  obtain ⟨f_demand, P_demand⟩ := p_demand X
  obtain ⟨f_demand_strengths, P_demand_strengths⟩ := p_demand_strengths X
  obtain ⟨f_is_in, P_is_in⟩ := p_is_in X
  obtain ⟨f, F, gm⟩ := X.d_demand_load
  refine ⟨f, okP (N := ["strengths", "load"]) (k := 3) F gm ⟨rfl, rfl, rfl, by decide +kernel, rfl, by decide +kernel, by decide +kernel⟩ (fun _ _ _ _ _ _ us hl => match us, hl with | [_, _], _ => rfl) rfl (by decide) fun E => ?_⟩
  have fm : Fm G 3 (fX G ["strengths", "load"] "demand_load" (defScope s_demand_load) f 3 E) := fX_fm (by decide +kernel)
  have fs := fX_fs (G := G) (N := ["strengths", "load"]) (qual := "demand_load") (scope := defScope s_demand_load) (f := f) (k := 3) (E := E)
  exact (ssCons (sCallX fm fs P_demand_strengths (by omega) (aCons (cVar 0) aNil))
  (ssOne (sCallX fm fs P_demand (by omega) (aCons (cCall fm P_is_in (by omega) (aCons (cVar 1) (aCons cInt (aCons (cGInt fm X.i_MOST_LOAD) aNil)))) (aCons cStr aNil)))))
def m_rounds_of : MS := (mSq (mParVO 2 3 (mGive (mCallO lstRgO (mCons (mCallB lenD (mCons (mVar 0) mNil)) mNil))) (mLst mNil))
  (mSq (mSt 4 (mGive (mLc (List.map (fun q : Str × Nat => q.2) [("at", 5)]) (mItems (mVar 2)) (gSet 5) (tCmpM ltI (mOp2 mulI (mOp2 ixD (mVar 0) (mVar 5)) (mCallB lenD (mCons (mVar 2) mNil))) (mVar 1)) (mVar 5))))
  (mSq (whGo (tCmpM gtI (mCallB lenD (mCons (mVar 4) mNil)) (mC (.int 0))) (mSq (mMeth 3 appD (mCons (mCallB tupleD (mCons (mVar 4) mNil)) mNil))
  (mSq (mSt 2 (mGive (mLc (List.map (fun q : Str × Nat => q.2) [("at", 5)]) (mItems (mVar 2)) (gSet 5) (tCmpM notInO (mVar 5) (mVar 4)) (mVar 5))))
  (mSt 4 (mGive (mLc (List.map (fun q : Str × Nat => q.2) [("at", 5)]) (mItems (mVar 2)) (gSet 5) (tCmpM ltI (mOp2 mulI (mOp2 ixD (mVar 0) (mVar 5)) (mCallB lenD (mCons (mVar 2) mNil))) (mVar 1)) (mVar 5)))))) 100000)
  (mRet (mTup (mCons (mVar 3) (mCons (mVar 2) mNil)))))))
def F_rounds_of : List D → Out := fnP 6 m_rounds_of
theorem p_rounds_of {G : Gx} (X : Fct G) : ∃ f, PrF G 1 "rounds_of" s_rounds_of f ["strengths", "load"] (spP G 2 F_rounds_of) := by
  obtain ⟨f, F, gm⟩ := X.d_rounds_of
  refine ⟨f, okP (N := ["strengths", "load", "left", "found", "broken", "at"]) (k := 0) F gm ⟨rfl, rfl, rfl, by decide +kernel, rfl, by decide +kernel, by decide +kernel⟩ (fun _ _ _ _ _ _ us hl => match us, hl with | [_, _], _ => rfl) rfl (by decide) fun E => ?_⟩
  have fm : Fm G 0 (fX G ["strengths", "load", "left", "found", "broken", "at"] "rounds_of" (defScope s_rounds_of) f 0 E) := fX_fm (by decide +kernel)
  have fs := fX_fs (G := G) (N := ["strengths", "load", "left", "found", "broken", "at"]) (qual := "rounds_of") (scope := defScope s_rounds_of) (f := f) (k := 0) (E := E)
  exact (ssCons (sAsgVO 2 3 fm (cGive (oListRg fm X.b_list (rg1 fm X.b_range (cLen fm X.b_len (cVar 0))))) (oLst aNil))
  (ssCons (sSet 4 fm (cGive (oLc [("at", 5)] fm (iSeqC fm (cVar 2)) (gNm 5 (Fm.blk fm _)) (tsOne (tCmp mLt (cMulI (cIx (Fm.blk fm _) (cVar 0) (cVar 5)) (cLen (Fm.blk fm _) X.b_len (cVar 2))) (cVar 1))) (cVar 5) (fun _ => blkOk_by (by kernel_rfl)))))
  (ssCons (sWhile 100000 fs (tCmp mGt (cLen fm X.b_len (cVar 4)) cInt) (ssCons (sAppend 3 fm (cTuple fm X.b_tuple (cVar 4)))
  (ssCons (sSet 2 fm (cGive (oLc [("at", 5)] fm (iSeqC fm (cVar 2)) (gNm 5 (Fm.blk fm _)) (tsOne (tCmp (mNotIn (Fm.blk fm _)) (cVar 5) (cVar 4))) (cVar 5) (fun _ => blkOk_by (by kernel_rfl)))))
  (ssOne (sSet 4 fm (cGive (oLc [("at", 5)] fm (iSeqC fm (cVar 2)) (gNm 5 (Fm.blk fm _)) (tsOne (tCmp mLt (cMulI (cIx (Fm.blk fm _) (cVar 0) (cVar 5)) (cLen (Fm.blk fm _) X.b_len (cVar 2))) (cVar 1))) (cVar 5) (fun _ => blkOk_by (by kernel_rfl)))))))))
  (ssOne (sRet (cTup (aCons (cVar 3) (aCons (cVar 2) aNil))))))))
def m_breaks_at : MS := (mSq (mCallX F_demand_load (mCons (mVar 0) (mCons (mVar 1) mNil)))
  (mRet (mCallB tupleD (mCons (mOp2 ixD (mCall F_rounds_of (mCons (mVar 0) (mCons (mVar 1) mNil))) (mC (.int 0))) mNil))))
def F_breaks_at : List D → Out := fnP 2 m_breaks_at
theorem p_breaks_at {G : Gx} (X : Fct G) : ∃ f, PrF G 5 "breaks_at" s_breaks_at f ["strengths", "load"] (spP G 2 F_breaks_at) := by
  obtain ⟨f_demand_load, P_demand_load⟩ := p_demand_load X
  obtain ⟨f_rounds_of, P_rounds_of⟩ := p_rounds_of X
  obtain ⟨f, F, gm⟩ := X.d_breaks_at
  refine ⟨f, okP (N := ["strengths", "load"]) (k := 4) F gm ⟨rfl, rfl, rfl, by decide +kernel, rfl, by decide +kernel, by decide +kernel⟩ (fun _ _ _ _ _ _ us hl => match us, hl with | [_, _], _ => rfl) rfl (by decide) fun E => ?_⟩
  have fm : Fm G 4 (fX G ["strengths", "load"] "breaks_at" (defScope s_breaks_at) f 4 E) := fX_fm (by decide +kernel)
  have fs := fX_fs (G := G) (N := ["strengths", "load"]) (qual := "breaks_at") (scope := defScope s_breaks_at) (f := f) (k := 4) (E := E)
  exact (ssCons (sCallX fm fs P_demand_load (by omega) (aCons (cVar 0) (aCons (cVar 1) aNil)))
  (ssOne (sRet (cTuple fm X.b_tuple (cIx fm (cCall fm P_rounds_of (by omega) (aCons (cVar 0) (aCons (cVar 1) aNil))) cInt)))))
def m_left_at : MS := (mSq (mCallX F_demand_load (mCons (mVar 0) (mCons (mVar 1) mNil)))
  (mRet (mCallB tupleD (mCons (mOp2 ixD (mCall F_rounds_of (mCons (mVar 0) (mCons (mVar 1) mNil))) (mC (.int 1))) mNil))))
def F_left_at : List D → Out := fnP 2 m_left_at
theorem p_left_at {G : Gx} (X : Fct G) : ∃ f, PrF G 5 "left_at" s_left_at f ["strengths", "load"] (spP G 2 F_left_at) := by
  obtain ⟨f_demand_load, P_demand_load⟩ := p_demand_load X
  obtain ⟨f_rounds_of, P_rounds_of⟩ := p_rounds_of X
  obtain ⟨f, F, gm⟩ := X.d_left_at
  refine ⟨f, okP (N := ["strengths", "load"]) (k := 4) F gm ⟨rfl, rfl, rfl, by decide +kernel, rfl, by decide +kernel, by decide +kernel⟩ (fun _ _ _ _ _ _ us hl => match us, hl with | [_, _], _ => rfl) rfl (by decide) fun E => ?_⟩
  have fm : Fm G 4 (fX G ["strengths", "load"] "left_at" (defScope s_left_at) f 4 E) := fX_fm (by decide +kernel)
  have fs := fX_fs (G := G) (N := ["strengths", "load"]) (qual := "left_at") (scope := defScope s_left_at) (f := f) (k := 4) (E := E)
  exact (ssCons (sCallX fm fs P_demand_load (by omega) (aCons (cVar 0) (aCons (cVar 1) aNil)))
  (ssOne (sRet (cTuple fm X.b_tuple (cIx fm (cCall fm P_rounds_of (by omega) (aCons (cVar 0) (aCons (cVar 1) aNil))) cInt)))))
def m_most_borne : MS := (mSq (mSt 1 (mGive (mCallO sortedA (mCons (mVar 0) mNil))))
  (mRet (mCallB maxA (mCons (mGive (mLc (List.map (fun q : Str × Nat => q.2) [("at", 2), ("strength", 3)]) (mRng enumD (mCons (mVar 1) mNil)) (gTupM 2 (gsCons (gSet 2) (gsCons (gSet 3) gsNil))) mYes (mOp2 mulI (mVar 3) (mOp2 subI (mCallB lenD (mCons (mVar 1) mNil)) (mVar 2))))) mNil))))
def F_most_borne : List D → Out := fnP 4 m_most_borne
theorem p_most_borne {G : Gx} (X : Fct G) : ∃ f, PrF G 1 "most_borne" s_most_borne f ["strengths"] (spP G 1 F_most_borne) := by
  obtain ⟨f, F, gm⟩ := X.d_most_borne
  refine ⟨f, okP (N := ["strengths", "order", "at", "strength"]) (k := 0) F gm ⟨rfl, rfl, rfl, by decide +kernel, rfl, by decide +kernel, by decide +kernel⟩ (fun _ _ _ _ _ _ us hl => match us, hl with | [_], _ => rfl) rfl (by decide) fun E => ?_⟩
  have fm : Fm G 0 (fX G ["strengths", "order", "at", "strength"] "most_borne" (defScope s_most_borne) f 0 E) := fX_fm (by decide +kernel)
  have fs := fX_fs (G := G) (N := ["strengths", "order", "at", "strength"]) (qual := "most_borne") (scope := defScope s_most_borne) (f := f) (k := 0) (E := E)
  exact (ssCons (sSet 1 fm (cGive (oSortedA fm X.b_sorted (cVar 0))))
  (ssOne (sRet (cMaxA fm X.b_max (cGive (oLc [("at", 2), ("strength", 3)] fm (iEnumC fm X.b_enumerate (cVar 1)) (gTp (Fm.blk fm _) (gsC (gNm 2 (Fm.blk fm _)) (gsC (gNm 3 (Fm.blk fm _)) gsN))) tsNil (cMulI (cVar 3) (cSub (cLen (Fm.blk fm _) X.b_len (cVar 1)) (cVar 2))) (fun _ => blkOk_by (by kernel_rfl))))))))
def m_bears : MS := (mSq (mCallX F_demand_strengths (mCons (mVar 0) mNil))
  (mRet (mCall F_most_borne (mCons (mVar 0) mNil))))
def F_bears : List D → Out := fnP 1 m_bears
theorem p_bears {G : Gx} (X : Fct G) : ∃ f, PrF G 4 "bears" s_bears f ["strengths"] (spP G 1 F_bears) := by
  obtain ⟨f_demand_strengths, P_demand_strengths⟩ := p_demand_strengths X
  obtain ⟨f_most_borne, P_most_borne⟩ := p_most_borne X
  obtain ⟨f, F, gm⟩ := X.d_bears
  refine ⟨f, okP (N := ["strengths"]) (k := 3) F gm ⟨rfl, rfl, rfl, by decide +kernel, rfl, by decide +kernel, by decide +kernel⟩ (fun _ _ _ _ _ _ us hl => match us, hl with | [_], _ => rfl) rfl (by decide) fun E => ?_⟩
  have fm : Fm G 3 (fX G ["strengths"] "bears" (defScope s_bears) f 3 E) := fX_fm (by decide +kernel)
  have fs := fX_fs (G := G) (N := ["strengths"]) (qual := "bears") (scope := defScope s_bears) (f := f) (k := 3) (E := E)
  exact (ssCons (sCallX fm fs P_demand_strengths (by omega) (aCons (cVar 0) aNil))
  (ssOne (sRet (cCall fm P_most_borne (by omega) (aCons (cVar 0) aNil)))))
def m_first_break : MS := (mSq (mCallX F_demand_strengths (mCons (mVar 0) mNil))
  (mRet (mOp2 mulI (mCallB minA (mCons (mVar 0) mNil)) (mCallB lenD (mCons (mVar 0) mNil)))))
def F_first_break : List D → Out := fnP 1 m_first_break
theorem p_first_break {G : Gx} (X : Fct G) : ∃ f, PrF G 4 "first_break" s_first_break f ["strengths"] (spP G 1 F_first_break) := by
  obtain ⟨f_demand_strengths, P_demand_strengths⟩ := p_demand_strengths X
  obtain ⟨f, F, gm⟩ := X.d_first_break
  refine ⟨f, okP (N := ["strengths"]) (k := 3) F gm ⟨rfl, rfl, rfl, by decide +kernel, rfl, by decide +kernel, by decide +kernel⟩ (fun _ _ _ _ _ _ us hl => match us, hl with | [_], _ => rfl) rfl (by decide) fun E => ?_⟩
  have fm : Fm G 3 (fX G ["strengths"] "first_break" (defScope s_first_break) f 3 E) := fX_fm (by decide +kernel)
  have fs := fX_fs (G := G) (N := ["strengths"]) (qual := "first_break") (scope := defScope s_first_break) (f := f) (k := 3) (E := E)
  exact (ssCons (sCallX fm fs P_demand_strengths (by omega) (aCons (cVar 0) aNil))
  (ssOne (sRet (cMulI (cMinA fm X.b_min (cVar 0)) (cLen fm X.b_len (cVar 0))))))
def m_nearest : MS := (mSq (mSt 4 (mOp2 modI (mOp2 addD (mVar 1) (mVar 2)) (mVar 3)))
  (mSq (whGo (tCmpM notInO (mVar 4) (mVar 0)) (mSt 4 (mOp2 modI (mOp2 addD (mVar 4) (mVar 2)) (mVar 3))) 100000)
  (mRet (mVar 4))))
def F_nearest : List D → Out := fnP 5 m_nearest
theorem p_nearest {G : Gx} (X : Fct G) : ∃ f, PrF G 1 "nearest" s_nearest f ["left", "at", "step", "many"] (spP G 4 F_nearest) := by
  obtain ⟨f, F, gm⟩ := X.d_nearest
  refine ⟨f, okP (N := ["left", "at", "step", "many", "here"]) (k := 0) F gm ⟨rfl, rfl, rfl, by decide +kernel, rfl, by decide +kernel, by decide +kernel⟩ (fun _ _ _ _ _ _ us hl => match us, hl with | [_, _, _, _], _ => rfl) rfl (by decide) fun E => ?_⟩
  have fm : Fm G 0 (fX G ["left", "at", "step", "many", "here"] "nearest" (defScope s_nearest) f 0 E) := fX_fm (by decide +kernel)
  have fs := fX_fs (G := G) (N := ["left", "at", "step", "many", "here"]) (qual := "nearest") (scope := defScope s_nearest) (f := f) (k := 0) (E := E)
  exact (ssCons (sSet 4 fm (cMod (cAdd fm (cVar 1) (cVar 2)) (cVar 3)))
  (ssCons (sWhile 100000 fs (tCmp (mNotIn fm) (cVar 4) (cVar 0)) (ssOne (sSet 4 fm (cMod (cAdd fm (cVar 4) (cVar 2)) (cVar 3)))))
  (ssOne (sRet (cVar 4)))))
def m_shared_out : MS := (mSq (mParVO 3 4 (mCallB lenD (mCons (mVar 0) mNil)) (mCallO listO (mCons (mVar 0) mNil)))
  (mSq (mFor (mItems (mVar 1)) (gSet 5) (mSq (mSt 6 (mCall F_multiplied (mCons (mOp2 ixD (mVar 0) (mVar 5)) (mCons (mTup (mCons (mC (.int 1)) (mCons (mC (.int 2)) mNil))) mNil))))
  (mSq (mFor (mItems (mTup (mCons (mOp1 negI (mC (.int 1))) (mCons (mC (.int 1)) mNil)))) (gSet 7) (mSq (mSt 8 (mCall F_nearest (mCons (mVar 2) (mCons (mVar 5) (mCons (mVar 7) (mCons (mVar 3) mNil))))))
  (mOset 4 (mVar 8) (mCall F_added (mCons (mOix 4 (mVar 8)) (mCons (mVar 6) mNil))))))
  (mOset 4 (mVar 5) (mTup (mCons (mC (.int 0)) (mCons (mC (.int 1)) mNil)))))))
  (mRet (mVar 4))))
def F_shared_out : List D → Out := fnP 9 m_shared_out
theorem p_shared_out {G : Gx} (X : Fct G) : ∃ f, PrF G 4 "shared_out" s_shared_out f ["shares", "broken", "left"] (spP G 3 F_shared_out) := by
  obtain ⟨f_added, P_added⟩ := p_added X
  obtain ⟨f_multiplied, P_multiplied⟩ := p_multiplied X
  obtain ⟨f_nearest, P_nearest⟩ := p_nearest X
  obtain ⟨f, F, gm⟩ := X.d_shared_out
  refine ⟨f, okP (N := ["shares", "broken", "left", "many", "found", "at", "half", "step", "other"]) (k := 3) F gm ⟨rfl, rfl, rfl, by decide +kernel, rfl, by decide +kernel, by decide +kernel⟩ (fun _ _ _ _ _ _ us hl => match us, hl with | [_, _, _], _ => rfl) rfl (by decide) fun E => ?_⟩
  have fm : Fm G 3 (fX G ["shares", "broken", "left", "many", "found", "at", "half", "step", "other"] "shared_out" (defScope s_shared_out) f 3 E) := fX_fm (by decide +kernel)
  have fs := fX_fs (G := G) (N := ["shares", "broken", "left", "many", "found", "at", "half", "step", "other"]) (qual := "shared_out") (scope := defScope s_shared_out) (f := f) (k := 3) (E := E)
  exact (ssCons (sParVO 3 4 fm (cLen fm X.b_len (cVar 0)) (oList fm X.b_list (cVar 0)))
  (ssCons (sFor fm fs (iSeqC fm (cVar 1)) (gNm 5 (vs := [5]) fm) (ssCons (sSet 6 fm (cCall fm P_multiplied (by omega) (aCons (cIx fm (cVar 0) (cVar 5)) (aCons (cTup (aCons cInt (aCons cInt aNil))) aNil))))
  (ssCons (sFor fm fs (iSeqC fm (cTup (aCons (cNeg cInt) (aCons cInt aNil)))) (gNm 7 (vs := [7]) fm) (ssCons (sSet 8 fm (cCall fm P_nearest (by omega) (aCons (cVar 2) (aCons (cVar 5) (aCons (cVar 7) (aCons (cVar 3) aNil))))))
  (ssOne (sOset 4 (cVar 8) (cCall fm P_added (by omega) (aCons (cOix 4 fm (cVar 8)) (aCons (cVar 6) aNil)))))))
  (ssOne (sOset 4 (cVar 5) (cTup (aCons cInt (aCons cInt aNil))))))))
  (ssOne (sRet (cVar 4)))))
def m_rounds_beside : MS := (mSq (mSt 2 (mGive (mLc (List.map (fun q : Str × Nat => q.2) [("strength", 6)]) (mItems (mVar 0)) (gSet 6) mYes (mCall F_fraction (mCons (mVar 1) (mCons (mCallB lenD (mCons (mVar 0) mNil)) mNil))))))
  (mSq (mParVO 3 4 (mGive (mCallO lstRgO (mCons (mCallB lenD (mCons (mVar 0) mNil)) mNil))) (mLst mNil))
  (mSq (mSt 5 (mGive (mLc (List.map (fun q : Str × Nat => q.2) [("at", 7)]) (mItems (mVar 3)) (gSet 7) (mT (mCall F_is_less (mCons (mTup (mCons (mOp2 ixD (mVar 0) (mVar 7)) (mCons (mC (.int 1)) mNil))) (mCons (mOp2 ixD (mVar 2) (mVar 7)) mNil)))) (mVar 7))))
  (mSq (whGo (tCmpM gtI (mCallB lenD (mCons (mVar 5) mNil)) (mC (.int 0))) (mSq (mMeth 4 appD (mCons (mCallB tupleD (mCons (mVar 5) mNil)) mNil))
  (mSq (mSt 3 (mGive (mLc (List.map (fun q : Str × Nat => q.2) [("at", 7)]) (mItems (mVar 3)) (gSet 7) (tCmpM notInO (mVar 7) (mVar 5)) (mVar 7))))
  (mSq (mIfS (tCmpM gtI (mCallB lenD (mCons (mVar 3) mNil)) (mC (.int 0))) (mSt 2 (mCall F_shared_out (mCons (mVar 2) (mCons (mVar 5) (mCons (mVar 3) mNil))))) mNx)
  (mSt 5 (mGive (mLc (List.map (fun q : Str × Nat => q.2) [("at", 7)]) (mItems (mVar 3)) (gSet 7) (mT (mCall F_is_less (mCons (mTup (mCons (mOp2 ixD (mVar 0) (mVar 7)) (mCons (mC (.int 1)) mNil))) (mCons (mOp2 ixD (mVar 2) (mVar 7)) mNil)))) (mVar 7))))))) 100000)
  (mRet (mTup (mCons (mVar 4) (mCons (mVar 3) mNil))))))))
def F_rounds_beside : List D → Out := fnP 8 m_rounds_beside
theorem p_rounds_beside {G : Gx} (X : Fct G) : ∃ f, PrF G 5 "rounds_beside" s_rounds_beside f ["strengths", "load"] (spP G 2 F_rounds_beside) := by
  obtain ⟨f_fraction, P_fraction⟩ := p_fraction X
  obtain ⟨f_is_less, P_is_less⟩ := p_is_less X
  obtain ⟨f_shared_out, P_shared_out⟩ := p_shared_out X
  obtain ⟨f, F, gm⟩ := X.d_rounds_beside
  refine ⟨f, okP (N := ["strengths", "load", "shares", "left", "found", "broken", "strength", "at"]) (k := 4) F gm ⟨rfl, rfl, rfl, by decide +kernel, rfl, by decide +kernel, by decide +kernel⟩ (fun _ _ _ _ _ _ us hl => match us, hl with | [_, _], _ => rfl) rfl (by decide) fun E => ?_⟩
  have fm : Fm G 4 (fX G ["strengths", "load", "shares", "left", "found", "broken", "strength", "at"] "rounds_beside" (defScope s_rounds_beside) f 4 E) := fX_fm (by decide +kernel)
  have fs := fX_fs (G := G) (N := ["strengths", "load", "shares", "left", "found", "broken", "strength", "at"]) (qual := "rounds_beside") (scope := defScope s_rounds_beside) (f := f) (k := 4) (E := E)
  exact (ssCons (sSet 2 fm (cGive (oLc [("strength", 6)] fm (iSeqC fm (cVar 0)) (gNm 6 (Fm.blk fm _)) tsNil (cCall (Fm.blk fm _) P_fraction (by omega) (aCons (cVar 1) (aCons (cLen (Fm.blk fm _) X.b_len (cVar 0)) aNil))) (fun _ => blkOk_by (by kernel_rfl)))))
  (ssCons (sParVO 3 4 fm (cGive (oListRg fm X.b_list (rg1 fm X.b_range (cLen fm X.b_len (cVar 0))))) (oLst aNil))
  (ssCons (sSet 5 fm (cGive (oLc [("at", 7)] fm (iSeqC fm (cVar 3)) (gNm 7 (Fm.blk fm _)) (tsOne (tVal (cCall (Fm.blk fm _) P_is_less (by omega) (aCons (cTup (aCons (cIx (Fm.blk fm _) (cVar 0) (cVar 7)) (aCons cInt aNil))) (aCons (cIx (Fm.blk fm _) (cVar 2) (cVar 7)) aNil))))) (cVar 7) (fun _ => blkOk_by (by kernel_rfl)))))
  (ssCons (sWhile 100000 fs (tCmp mGt (cLen fm X.b_len (cVar 5)) cInt) (ssCons (sAppend 4 fm (cTuple fm X.b_tuple (cVar 5)))
  (ssCons (sSetLc 3 [("at", 7)] fm (iSeqC fm (cVar 3)) (gNm 7 (Fm.blk fm _)) (tsOne (tCmp (mNotIn (Fm.blk fm _)) (cVar 7) (cVar 5))) (cVar 7) (fun _ => blkOk_by (by kernel_rfl)) (hsw := fun _ => sw_true rfl rfl rfl rfl))
  (ssCons (sIf (tCmp mGt (cLen fm X.b_len (cVar 3)) cInt) (ssOne (sSet 2 fm (cCall fm P_shared_out (by omega) (aCons (cVar 2) (aCons (cVar 5) (aCons (cVar 3) aNil)))))) ssNil)
  (ssOne (sSet 5 fm (cGive (oLc [("at", 7)] fm (iSeqC fm (cVar 3)) (gNm 7 (Fm.blk fm _)) (tsOne (tVal (cCall (Fm.blk fm _) P_is_less (by omega) (aCons (cTup (aCons (cIx (Fm.blk fm _) (cVar 0) (cVar 7)) (aCons cInt aNil))) (aCons (cIx (Fm.blk fm _) (cVar 2) (cVar 7)) aNil))))) (cVar 7) (fun _ => blkOk_by (by kernel_rfl))))))))))
  (ssOne (sRet (cTup (aCons (cVar 4) (aCons (cVar 3) aNil)))))))))
def m_breaks_beside : MS := (mSq (mCallX F_demand_load (mCons (mVar 0) (mCons (mVar 1) mNil)))
  (mRet (mCallB tupleD (mCons (mOp2 ixD (mCall F_rounds_beside (mCons (mVar 0) (mCons (mVar 1) mNil))) (mC (.int 0))) mNil))))
def F_breaks_beside : List D → Out := fnP 2 m_breaks_beside
theorem p_breaks_beside {G : Gx} (X : Fct G) : ∃ f, PrF G 6 "breaks_beside" s_breaks_beside f ["strengths", "load"] (spP G 2 F_breaks_beside) := by
  obtain ⟨f_demand_load, P_demand_load⟩ := p_demand_load X
  obtain ⟨f_rounds_beside, P_rounds_beside⟩ := p_rounds_beside X
  obtain ⟨f, F, gm⟩ := X.d_breaks_beside
  refine ⟨f, okP (N := ["strengths", "load"]) (k := 5) F gm ⟨rfl, rfl, rfl, by decide +kernel, rfl, by decide +kernel, by decide +kernel⟩ (fun _ _ _ _ _ _ us hl => match us, hl with | [_, _], _ => rfl) rfl (by decide) fun E => ?_⟩
  have fm : Fm G 5 (fX G ["strengths", "load"] "breaks_beside" (defScope s_breaks_beside) f 5 E) := fX_fm (by decide +kernel)
  have fs := fX_fs (G := G) (N := ["strengths", "load"]) (qual := "breaks_beside") (scope := defScope s_breaks_beside) (f := f) (k := 5) (E := E)
  exact (ssCons (sCallX fm fs P_demand_load (by omega) (aCons (cVar 0) (aCons (cVar 1) aNil)))
  (ssOne (sRet (cTuple fm X.b_tuple (cIx fm (cCall fm P_rounds_beside (by omega) (aCons (cVar 0) (aCons (cVar 1) aNil))) cInt)))))
def m_left_beside : MS := (mSq (mCallX F_demand_load (mCons (mVar 0) (mCons (mVar 1) mNil)))
  (mRet (mCallB tupleD (mCons (mOp2 ixD (mCall F_rounds_beside (mCons (mVar 0) (mCons (mVar 1) mNil))) (mC (.int 1))) mNil))))
def F_left_beside : List D → Out := fnP 2 m_left_beside
theorem p_left_beside {G : Gx} (X : Fct G) : ∃ f, PrF G 6 "left_beside" s_left_beside f ["strengths", "load"] (spP G 2 F_left_beside) := by
  obtain ⟨f_demand_load, P_demand_load⟩ := p_demand_load X
  obtain ⟨f_rounds_beside, P_rounds_beside⟩ := p_rounds_beside X
  obtain ⟨f, F, gm⟩ := X.d_left_beside
  refine ⟨f, okP (N := ["strengths", "load"]) (k := 5) F gm ⟨rfl, rfl, rfl, by decide +kernel, rfl, by decide +kernel, by decide +kernel⟩ (fun _ _ _ _ _ _ us hl => match us, hl with | [_, _], _ => rfl) rfl (by decide) fun E => ?_⟩
  have fm : Fm G 5 (fX G ["strengths", "load"] "left_beside" (defScope s_left_beside) f 5 E) := fX_fm (by decide +kernel)
  have fs := fX_fs (G := G) (N := ["strengths", "load"]) (qual := "left_beside") (scope := defScope s_left_beside) (f := f) (k := 5) (E := E)
  exact (ssCons (sCallX fm fs P_demand_load (by omega) (aCons (cVar 0) (aCons (cVar 1) aNil)))
  (ssOne (sRet (cTuple fm X.b_tuple (cIx fm (cCall fm P_rounds_beside (by omega) (aCons (cVar 0) (aCons (cVar 1) aNil))) cInt)))))
def m_bears_beside : MS := (mSq (mCallX F_demand_strengths (mCons (mVar 0) mNil))
  (mRet (mCallB maxA (mCons (mGive (mLc (List.map (fun q : Str × Nat => q.2) [("load", 1)]) (mRng rng1 (mCons (mOp2 addD (mCallB sumA (mCons (mVar 0) mNil)) (mC (.int 1))) mNil)) (gSet 1) (tCmpM gtI (mCallB lenD (mCons (mOp2 ixD (mCall F_rounds_beside (mCons (mVar 0) (mCons (mVar 1) mNil))) (mC (.int 1))) mNil)) (mC (.int 0))) (mVar 1))) mNil))))
def F_bears_beside : List D → Out := fnP 2 m_bears_beside
theorem p_bears_beside {G : Gx} (X : Fct G) : ∃ f, PrF G 6 "bears_beside" s_bears_beside f ["strengths"] (spP G 1 F_bears_beside) := by
  obtain ⟨f_demand_strengths, P_demand_strengths⟩ := p_demand_strengths X
  obtain ⟨f_rounds_beside, P_rounds_beside⟩ := p_rounds_beside X
  obtain ⟨f, F, gm⟩ := X.d_bears_beside
  refine ⟨f, okP (N := ["strengths", "load"]) (k := 5) F gm ⟨rfl, rfl, rfl, by decide +kernel, rfl, by decide +kernel, by decide +kernel⟩ (fun _ _ _ _ _ _ us hl => match us, hl with | [_], _ => rfl) rfl (by decide) fun E => ?_⟩
  have fm : Fm G 5 (fX G ["strengths", "load"] "bears_beside" (defScope s_bears_beside) f 5 E) := fX_fm (by decide +kernel)
  have fs := fX_fs (G := G) (N := ["strengths", "load"]) (qual := "bears_beside") (scope := defScope s_bears_beside) (f := f) (k := 5) (E := E)
  exact (ssCons (sCallX fm fs P_demand_strengths (by omega) (aCons (cVar 0) aNil))
  (ssOne (sRet (cMaxA fm X.b_max (cGive (oLc [("load", 1)] fm (iRange1 fm X.b_range (cAdd fm (cSumA fm X.b_sum (cVar 0)) cInt)) (gNm 1 (Fm.blk fm _)) (tsOne (tCmp mGt (cLen (Fm.blk fm _) X.b_len (cIx (Fm.blk fm _) (cCall (Fm.blk fm _) P_rounds_beside (by omega) (aCons (cVar 0) (aCons (cVar 1) aNil))) cInt)) cInt)) (cVar 1) (fun _ => blkOk_by (by kernel_rfl))))))))
def m_chosen : MS := (mSq (mFor (mRng rng2 (mCons (mC (.int 1)) (mCons (mOp2 addD (mCallB lenD (mCons (mVar 0) mNil)) (mC (.int 1))) mNil))) (gSet 2) (mFor (mItems (mCall F_choices (mCons (mCallB lenD (mCons (mVar 0) mNil)) (mCons (mVar 2) mNil)))) (gSet 3) (mIfS (tCmpM geI (mCall F_most_borne (mCons (mGive (mLc (List.map (fun q : Str × Nat => q.2) [("at", 4)]) (mItems (mVar 3)) (gSet 4) mYes (mOp2 ixD (mVar 0) (mVar 4)))) mNil)) (mVar 1)) (mRet (mVar 3)) mNx)))
  (mRet (mC .none)))
def F_chosen : List D → Out := fnP 5 m_chosen
theorem p_chosen {G : Gx} (X : Fct G) : ∃ f, PrF G 2 "chosen" s_chosen f ["strengths", "load"] (spP G 2 F_chosen) := by
  obtain ⟨f_choices, P_choices⟩ := p_choices X
  obtain ⟨f_most_borne, P_most_borne⟩ := p_most_borne X
  obtain ⟨f, F, gm⟩ := X.d_chosen
  refine ⟨f, okP (N := ["strengths", "load", "many", "row", "at"]) (k := 1) F gm ⟨rfl, rfl, rfl, by decide +kernel, rfl, by decide +kernel, by decide +kernel⟩ (fun _ _ _ _ _ _ us hl => match us, hl with | [_, _], _ => rfl) rfl (by decide) fun E => ?_⟩
  have fm : Fm G 1 (fX G ["strengths", "load", "many", "row", "at"] "chosen" (defScope s_chosen) f 1 E) := fX_fm (by decide +kernel)
  have fs := fX_fs (G := G) (N := ["strengths", "load", "many", "row", "at"]) (qual := "chosen") (scope := defScope s_chosen) (f := f) (k := 1) (E := E)
  exact (ssCons (sFor fm fs (iRange2 fm X.b_range cInt (cAdd fm (cLen fm X.b_len (cVar 0)) cInt)) (gNm 2 (vs := [2]) fm) (ssOne (sFor fm fs (iSeqC fm (cCall fm P_choices (by omega) (aCons (cLen fm X.b_len (cVar 0)) (aCons (cVar 2) aNil)))) (gNm 3 (vs := [3]) fm) (ssOne (sIf (tCmp mGe (cCall fm P_most_borne (by omega) (aCons (cGive (oLc [("at", 4)] fm (iSeqC fm (cVar 3)) (gNm 4 (Fm.blk fm _)) tsNil (cIx (Fm.blk fm _) (cVar 0) (cVar 4)) (fun _ => blkOk_by (by kernel_rfl)))) aNil)) (cVar 1)) (ssOne (sRet (cVar 3))) ssNil)))))
  (ssOne (sRet cNone)))
def m_fewest_yarns : MS := (mSq (mCallX F_demand_load (mCons (mVar 0) (mCons (mVar 1) mNil)))
  (mSq (mSt 2 (mCall F_chosen (mCons (mVar 0) (mCons (mVar 1) mNil))))
  (mRet (mIf (tCmpM isN (mVar 2) (mC .none)) (mC .none) (mCallB lenD (mCons (mVar 2) mNil))))))
def F_fewest_yarns : List D → Out := fnP 3 m_fewest_yarns
theorem p_fewest_yarns {G : Gx} (X : Fct G) : ∃ f, PrF G 5 "fewest_yarns" s_fewest_yarns f ["strengths", "load"] (spP G 2 F_fewest_yarns) := by
  obtain ⟨f_chosen, P_chosen⟩ := p_chosen X
  obtain ⟨f_demand_load, P_demand_load⟩ := p_demand_load X
  obtain ⟨f, F, gm⟩ := X.d_fewest_yarns
  refine ⟨f, okP (N := ["strengths", "load", "found"]) (k := 4) F gm ⟨rfl, rfl, rfl, by decide +kernel, rfl, by decide +kernel, by decide +kernel⟩ (fun _ _ _ _ _ _ us hl => match us, hl with | [_, _], _ => rfl) rfl (by decide) fun E => ?_⟩
  have fm : Fm G 4 (fX G ["strengths", "load", "found"] "fewest_yarns" (defScope s_fewest_yarns) f 4 E) := fX_fm (by decide +kernel)
  have fs := fX_fs (G := G) (N := ["strengths", "load", "found"]) (qual := "fewest_yarns") (scope := defScope s_fewest_yarns) (f := f) (k := 4) (E := E)
  exact (ssCons (sCallX fm fs P_demand_load (by omega) (aCons (cVar 0) (aCons (cVar 1) aNil)))
  (ssCons (sSet 2 fm (cCall fm P_chosen (by omega) (aCons (cVar 0) (aCons (cVar 1) aNil))))
  (ssOne (sRet (cIf (tCmp mIsN (cVar 2) cNone) cNone (cLen fm X.b_len (cVar 2)))))))
def m_bundle : MS := (mSq (mCallX F_demand_load (mCons (mVar 0) (mCons (mVar 1) mNil)))
  (mRet (mCall F_chosen (mCons (mVar 0) (mCons (mVar 1) mNil)))))
def F_bundle : List D → Out := fnP 2 m_bundle
theorem p_bundle {G : Gx} (X : Fct G) : ∃ f, PrF G 5 "bundle" s_bundle f ["strengths", "load"] (spP G 2 F_bundle) := by
  obtain ⟨f_chosen, P_chosen⟩ := p_chosen X
  obtain ⟨f_demand_load, P_demand_load⟩ := p_demand_load X
  obtain ⟨f, F, gm⟩ := X.d_bundle
  refine ⟨f, okP (N := ["strengths", "load"]) (k := 4) F gm ⟨rfl, rfl, rfl, by decide +kernel, rfl, by decide +kernel, by decide +kernel⟩ (fun _ _ _ _ _ _ us hl => match us, hl with | [_, _], _ => rfl) rfl (by decide) fun E => ?_⟩
  have fm : Fm G 4 (fX G ["strengths", "load"] "bundle" (defScope s_bundle) f 4 E) := fX_fm (by decide +kernel)
  have fs := fX_fs (G := G) (N := ["strengths", "load"]) (qual := "bundle") (scope := defScope s_bundle) (f := f) (k := 4) (E := E)
  exact (ssCons (sCallX fm fs P_demand_load (by omega) (aCons (cVar 0) (aCons (cVar 1) aNil)))
  (ssOne (sRet (cCall fm P_chosen (by omega) (aCons (cVar 0) (aCons (cVar 1) aNil))))))
def m_is_bundle : MS := (mSq (mCallX F_demand_load (mCons (mVar 0) (mCons (mVar 1) mNil)))
  (mSq (mSt 3 (mCall F_chosen (mCons (mVar 0) (mCons (mVar 1) mNil))))
  (mSq (mIfS (mOrT (tCmpM isN (mVar 3) (mC .none)) (mOrT (mNotT (mT (mCall F_are_in (mCons (mVar 2) (mCons (mCallB lenD (mCons (mVar 3) mNil)) (mCons (mCallB lenD (mCons (mVar 3) mNil)) (mCons (mC (.int 0)) (mCons (mOp2 subI (mCallB lenD (mCons (mVar 0) mNil)) (mC (.int 1))) mNil)))))))) (mNotT (mT (mCall F_is_ascending (mCons (mVar 2) mNil)))))) (mRet (mC (.bool false))) mNx)
  (mRet (mCmp geI (mCall F_most_borne (mCons (mGive (mLc (List.map (fun q : Str × Nat => q.2) [("at", 4)]) (mItems (mVar 2)) (gSet 4) mYes (mOp2 ixD (mVar 0) (mVar 4)))) mNil)) (mVar 1))))))
def F_is_bundle : List D → Out := fnP 5 m_is_bundle
theorem p_is_bundle {G : Gx} (X : Fct G) : ∃ f, PrF G 5 "is_bundle" s_is_bundle f ["strengths", "load", "value"] (spP G 3 F_is_bundle) := by
  obtain ⟨f_are_in, P_are_in⟩ := p_are_in X
  obtain ⟨f_chosen, P_chosen⟩ := p_chosen X
  obtain ⟨f_demand_load, P_demand_load⟩ := p_demand_load X
  obtain ⟨f_is_ascending, P_is_ascending⟩ := p_is_ascending X
  obtain ⟨f_most_borne, P_most_borne⟩ := p_most_borne X
  obtain ⟨f, F, gm⟩ := X.d_is_bundle
  refine ⟨f, okP (N := ["strengths", "load", "value", "found", "at"]) (k := 4) F gm ⟨rfl, rfl, rfl, by decide +kernel, rfl, by decide +kernel, by decide +kernel⟩ (fun _ _ _ _ _ _ us hl => match us, hl with | [_, _, _], _ => rfl) rfl (by decide) fun E => ?_⟩
  have fm : Fm G 4 (fX G ["strengths", "load", "value", "found", "at"] "is_bundle" (defScope s_is_bundle) f 4 E) := fX_fm (by decide +kernel)
  have fs := fX_fs (G := G) (N := ["strengths", "load", "value", "found", "at"]) (qual := "is_bundle") (scope := defScope s_is_bundle) (f := f) (k := 4) (E := E)
  exact (ssCons (sCallX fm fs P_demand_load (by omega) (aCons (cVar 0) (aCons (cVar 1) aNil)))
  (ssCons (sSet 3 fm (cCall fm P_chosen (by omega) (aCons (cVar 0) (aCons (cVar 1) aNil))))
  (ssCons (sIf (CW.t (wOr (tCmp mIsN (cVar 3) cNone) (wOr (tNot (tVal (cCall fm P_are_in (by omega) (aCons (cVar 2) (aCons (cLen fm X.b_len (cVar 3)) (aCons (cLen fm X.b_len (cVar 3)) (aCons cInt (aCons (cSub (cLen fm X.b_len (cVar 0)) cInt) aNil)))))))) (wOr1 (tNot (tVal (cCall fm P_is_ascending (by omega) (aCons (cVar 2) aNil)))))))) (ssOne (sRet cBool)) ssNil)
  (ssOne (sRet (cCmp mGe (cCall fm P_most_borne (by omega) (aCons (cGive (oLc [("at", 4)] fm (iSeqC fm (cVar 2)) (gNm 4 (Fm.blk fm _)) tsNil (cIx (Fm.blk fm _) (cVar 0) (cVar 4)) (fun _ => blkOk_by (by kernel_rfl)))) aNil)) (cVar 1)))))))
def m__law_dice : MS := (mSq (mSt 2 (mIf (tCmpM ltI (mVar 1) (mScrLen 0)) (mScrIx 0 (mVar 1)) (mOp2 addD (mOp2 mulI (mC (.int 733)) (mVar 1)) (mC (.int 29)))))
  (mSq (mSt 3 (mOp2 addD (mC (.int 910003)) (mOp2 mulI (mC (.int 7907)) (mVar 1))))
  (mSq (mFor (mItems (mOp2 addD (mScrCut 0 mNoP (mPart (mC (.int 6)))) (mGive (mLst (mCons (mVar 2) mNil))))) (gSet 4) (mSt 3 (mOp2 modI (mCallB intD (mCons (mOp2 addD (mOp2 mulI (mVar 3) (mC (.int 48271))) (mOp2 modI (mCallB intD (mCons (mVar 4) mNil)) (mC (.int 2147480009)))) mNil)) (mC (.int 2147480009)))))
  (mRetO (mLst (mCons (mIf (mOrT (tCmpM ltI (mVar 2) (mC (.int 0))) (tCmpM geI (mVar 2) (mOp2 powI (mC (.int 10)) (mC (.int 16))))) (mCallB absI (mCons (mVar 2) mNil)) (mC (.int 0))) (mCons (mVar 3) (mCons (mC (.int 0)) mNil))))))))
def F__law_dice : List Int → D → Option (List D) := fnF 5 m__law_dice
theorem p__law_dice {G : Gx} (X : Fct G) : ∃ f, PrF G 1 "_law_dice" s__law_dice f ["script", "spot"] (spF G F__law_dice) := by
  obtain ⟨f, F, gm⟩ := X.d__law_dice
  refine ⟨f, okF (N := ["script", "spot", "own", "mixed", "cell"]) (k := 0) F gm ⟨rfl, rfl, rfl, by decide +kernel, rfl, by decide +kernel, by decide +kernel⟩ (fun _ _ _ _ _ _ us hl => match us, hl with | [_, _], _ => rfl) rfl (by decide) fun E => ?_⟩
  have fm : Fm G 0 (fX G ["script", "spot", "own", "mixed", "cell"] "_law_dice" (defScope s__law_dice) f 0 E) := fX_fm (by decide +kernel)
  have fs := fX_fs (G := G) (N := ["script", "spot", "own", "mixed", "cell"]) (qual := "_law_dice") (scope := defScope s__law_dice) (f := f) (k := 0) (E := E)
  exact (ssCons (sSet 2 fm (cIf (tCmp mLt (cVar 1) (cScrLen 0 fm X.b_len)) (cScrIx 0 fm (cVar 1)) (cAdd fm (cMulI cInt (cVar 1)) cInt)))
  (ssCons (sSet 3 fm (cAdd fm cInt (cMulI cInt (cVar 1))))
  (ssCons (sFor fm fs (iSeqC fm (cAdd fm (cScrCut 0 fm pNone (pSome cInt)) (cGive (oLst (aCons (cVar 2) aNil))))) (gNm 4 (vs := [4]) fm) (ssOne (sSet 3 fm (cMod (cIntC fm X.b_int (cAdd fm (cMulI (cVar 3) cInt) (cMod (cIntC fm X.b_int (cVar 4)) cInt))) cInt))))
  (ssOne (sRetO (oLst (aCons (cIf (CW.t (wOr (tCmp mLt (cVar 2) cInt) (wOr1 (tCmp mGe (cVar 2) (cPow cInt cInt))))) (cAbs fm X.b_abs (cVar 2)) cInt) (aCons (cVar 3) (aCons cInt aNil)))))))))
def m__law_roll : MS := (mSq (mIfS (tCmpM gtI (mDix 0 (mC (.int 0))) (mC (.int 0))) (mSq (mSt 2 (mOp2 modI (mCallB intD (mCons (mDix 0 (mC (.int 0))) mNil)) (mVar 1)))
  (mSq (mDset 0 0 (mOp2 divI (mDix 0 (mC (.int 0))) (mVar 1)))
  (mRet (mVar 2)))) mNx)
  (mSq (mDset 0 2 (mOp2 addD (mDix 0 (mC (.int 2))) (mC (.int 1))))
  (mSq (mDset 0 1 (mOp2 modI (mCallB intD (mCons (mOp2 addD (mOp2 addD (mOp2 mulI (mDix 0 (mC (.int 1))) (mC (.int 52501))) (mOp2 mulI (mOp2 mulI (mDix 0 (mC (.int 2))) (mDix 0 (mC (.int 2)))) (mC (.int 1009)))) (mC (.int 77))) mNil)) (mC (.int 2147480009))))
  (mRet (mOp2 modI (mCallB intD (mCons (mOp2 divI (mDix 0 (mC (.int 1))) (mC (.int 211))) mNil)) (mVar 1))))))
def F__law_roll : List D → List D → OutD := fnD 3 m__law_roll
theorem p__law_roll {G : Gx} (X : Fct G) : ∃ f, PrF G 1 "_law_roll" s__law_roll f ["dice", "total"] (spD G 1 F__law_roll) := by
  obtain ⟨f, F, gm⟩ := X.d__law_roll
  refine ⟨f, okD (N := ["dice", "total", "found"]) (k := 0) F gm ⟨rfl, rfl, rfl, by decide +kernel, rfl, by decide +kernel, by decide +kernel⟩ (fun _ _ _ _ _ _ us hl => match us, hl with | [_, _], _ => rfl) rfl (by decide) fun E => ?_⟩
  have fm : Fm G 0 (fX G ["dice", "total", "found"] "_law_roll" (defScope s__law_roll) f 0 E) := fX_fm (by decide +kernel)
  have fs := fX_fs (G := G) (N := ["dice", "total", "found"]) (qual := "_law_roll") (scope := defScope s__law_roll) (f := f) (k := 0) (E := E)
  exact (ssCons (sIf (tCmp mGt (cDix 0 fm cInt) cInt) (ssCons (sSet 2 fm (cMod (cIntC fm X.b_int (cDix 0 fm cInt)) (cVar 1)))
  (ssCons (sDset 0 (cDiv (cDix 0 fm cInt) (cVar 1)))
  (ssOne (sRet (cVar 2))))) ssNil)
  (ssCons (sDset 0 (cAdd fm (cDix 0 fm cInt) cInt))
  (ssCons (sDset 0 (cMod (cIntC fm X.b_int (cAdd fm (cAdd fm (cMulI (cDix 0 fm cInt) cInt) (cMulI (cMulI (cDix 0 fm cInt) (cDix 0 fm cInt)) cInt)) cInt)) cInt))
  (ssOne (sRet (cMod (cIntC fm X.b_int (cDiv (cDix 0 fm cInt) cInt)) (cVar 1)))))))
def m__law_pick : MS := (mRet (mOp2 ixD (mVar 1) (mCallD F__law_roll 0 (mCons (mCallB lenD (mCons (mVar 1) mNil)) mNil))))
def F__law_pick : List D → List D → OutD := fnD 2 m__law_pick
theorem p__law_pick {G : Gx} (X : Fct G) : ∃ f, PrF G 2 "_law_pick" s__law_pick f ["dice", "things"] (spD G 1 F__law_pick) := by
  obtain ⟨f__law_roll, P__law_roll⟩ := p__law_roll X
  obtain ⟨f, F, gm⟩ := X.d__law_pick
  refine ⟨f, okD (N := ["dice", "things"]) (k := 1) F gm ⟨rfl, rfl, rfl, by decide +kernel, rfl, by decide +kernel, by decide +kernel⟩ (fun _ _ _ _ _ _ us hl => match us, hl with | [_, _], _ => rfl) rfl (by decide) fun E => ?_⟩
  have fm : Fm G 1 (fX G ["dice", "things"] "_law_pick" (defScope s__law_pick) f 1 E) := fX_fm (by decide +kernel)
  have fs := fX_fs (G := G) (N := ["dice", "things"]) (qual := "_law_pick") (scope := defScope s__law_pick) (f := f) (k := 1) (E := E)
  exact (ssOne (sRet (cIx fm (cVar 1) (cCallD 0 fm P__law_roll (by omega) (aCons (cLen fm X.b_len (cVar 1)) aNil)))))
def m__law_subsets : MS := (mSq (mSt 2 (mGive (mLst (mCons (mTup mNil) mNil))))
  (mSq (mFor (mRng rng1 (mCons (mVar 0) mNil)) (gSet 3) (mSt 2 (mOp2 addD (mVar 2) (mGive (mLc (List.map (fun q : Str × Nat => q.2) [("row", 4)]) (mItems (mVar 2)) (gSet 4) (tCmpM ltI (mCallB lenD (mCons (mVar 4) mNil)) (mVar 1)) (mOp2 addD (mVar 4) (mTup (mCons (mVar 3) mNil))))))))
  (mRet (mGive (mCallO sortedO (mCons (mVar 2) mNil))))))
def F__law_subsets : List D → Out := fnP 5 m__law_subsets
theorem p__law_subsets {G : Gx} (X : Fct G) : ∃ f, PrF G 1 "_law_subsets" s__law_subsets f ["many", "most"] (spP G 2 F__law_subsets) := by
  obtain ⟨f, F, gm⟩ := X.d__law_subsets
  refine ⟨f, okP (N := ["many", "most", "rows", "at", "row"]) (k := 0) F gm ⟨rfl, rfl, rfl, by decide +kernel, rfl, by decide +kernel, by decide +kernel⟩ (fun _ _ _ _ _ _ us hl => match us, hl with | [_, _], _ => rfl) rfl (by decide) fun E => ?_⟩
  have fm : Fm G 0 (fX G ["many", "most", "rows", "at", "row"] "_law_subsets" (defScope s__law_subsets) f 0 E) := fX_fm (by decide +kernel)
  have fs := fX_fs (G := G) (N := ["many", "most", "rows", "at", "row"]) (qual := "_law_subsets") (scope := defScope s__law_subsets) (f := f) (k := 0) (E := E)
  exact (ssCons (sSet 2 fm (cGive (oLst (aCons (cTup aNil) aNil))))
  (ssCons (sFor fm fs (iRange1 fm X.b_range (cVar 0)) (gNm 3 (vs := [3]) fm) (ssOne (sSet 2 fm (cAdd fm (cVar 2) (cGive (oLc [("row", 4)] fm (iSeqC fm (cVar 2)) (gNm 4 (Fm.blk fm _)) (tsOne (tCmp mLt (cLen (Fm.blk fm _) X.b_len (cVar 4)) (cVar 1))) (cAdd (Fm.blk fm _) (cVar 4) (cTup (aCons (cVar 3) aNil))) (fun _ => blkOk_by (by kernel_rfl))))))))
  (ssOne (sRet (cGive (oSorted fm X.b_sorted (cVar 2)))))))
def m__law_broken : MS := (mSq (mMix2 2 3 (xOM (mDicEn (mVar 0)) (xOM (mLst mNil) xNilM)))
  (mSq (mFor (mRng rng1 (mCons (mCallB lenD (mCons (mVar 0) mNil)) mNil)) (gSet 4) (mSq (mSt 5 (mCallB tupleD (mCons (mGive (mLc (List.map (fun q : Str × Nat => q.2) [("at", 6)]) (mItems (mGive (mOdsort 2))) (gSet 6) (tCmpM ltI (mOp2 mulI (mOdget 2 (mVar 6)) (mOdlen 2)) (mVar 1)) (mVar 6))) mNil)))
  (mSq (mIfS (tCmpM eqO (mVar 5) (mTup mNil)) (fun ρ => .bk ρ) mNx)
  (mSq (mMeth 3 appD (mCons (mVar 5) mNil))
  (mStO 2 (mCallO dictPr (mCons (mGive (mLc (List.map (fun q : Str × Nat => q.2) [("at", 6), ("strength", 7)]) (mOitemsK 2) (gTupM 2 (gsCons (gSet 6) (gsCons (gSet 7) gsNil))) (tCmpM notInO (mVar 6) (mVar 5)) (mTup (mCons (mVar 6) (mCons (mVar 7) mNil))))) mNil)))))))
  (mRet (mTup (mCons (mCallB tupleD (mCons (mVar 3) mNil)) (mCons (mCallB tupleD (mCons (mGive (mOdsort 2)) mNil)) mNil))))))
def F__law_broken : List D → Out := fnP 8 m__law_broken
theorem p__law_broken {G : Gx} (X : Fct G) : ∃ f, PrF G 1 "_law_broken" s__law_broken f ["strengths", "load"] (spP G 2 F__law_broken) := by
  obtain ⟨f, F, gm⟩ := X.d__law_broken
  refine ⟨f, okP (N := ["strengths", "load", "left", "rounds", "turn", "gone", "at", "strength"]) (k := 0) F gm ⟨rfl, rfl, rfl, by decide +kernel, rfl, by decide +kernel, by decide +kernel⟩ (fun _ _ _ _ _ _ us hl => match us, hl with | [_, _], _ => rfl) rfl (by decide) fun E => ?_⟩
  have fm : Fm G 0 (fX G ["strengths", "load", "left", "rounds", "turn", "gone", "at", "strength"] "_law_broken" (defScope s__law_broken) f 0 E) := fX_fm (by decide +kernel)
  have fs := fX_fs (G := G) (N := ["strengths", "load", "left", "rounds", "turn", "gone", "at", "strength"]) (qual := "_law_broken") (scope := defScope s__law_broken) (f := f) (k := 0) (E := E)
  exact (ssCons (sMixT2 2 3 fm (xO (oDicEn fm X.b_dict X.b_enumerate (cVar 0)) (xO (oLst aNil) xNil)))
  (ssCons (sFor fm fs (iRange1 fm X.b_range (cLen fm X.b_len (cVar 0))) (gNm 4 (vs := [4]) fm) (ssCons (sSet 5 fm (cTuple fm X.b_tuple (cGive (oLc [("at", 6)] fm (iSeqC fm (cGive (oOdsort 2 fm X.b_sorted))) (gNm 6 (Fm.blk fm _)) (tsOne (tCmp mLt (cMulI (cOdget 2 (Fm.blk fm _) (cVar 6)) (cOdlen 2 (Fm.blk fm _) X.b_len)) (cVar 1))) (cVar 6) (fun _ => blkOk_by (by kernel_rfl))))))
  (ssCons (sIf (tCmp (mEq fm) (cVar 5) (cTup aNil)) (ssOne sBreak) ssNil)
  (ssCons (sAppend 3 fm (cVar 5))
  (ssOne (sSetO 2 fm (oDicPr fm X.b_dict (cGive (oLc [("at", 6), ("strength", 7)] fm (ciOitemsK 2) (gTp (Fm.blk fm _) (gsC (gNm 6 (Fm.blk fm _)) (gsC (gNm 7 (Fm.blk fm _)) gsN))) (tsOne (tCmp (mNotIn (Fm.blk fm _)) (cVar 6) (cVar 5))) (cTup (aCons (cVar 6) (aCons (cVar 7) aNil))) (fun _ => blkOk_by (by kernel_rfl)))))))))))
  (ssOne (sRet (cTup (aCons (cTuple fm X.b_tuple (cVar 3)) (aCons (cTuple fm X.b_tuple (cGive (oOdsort 2 fm X.b_sorted))) aNil)))))))
def m__law_beside : MS := (mSq (mAsg (gTupM 2 (gsCons (gSet 2) (gsCons (gSet 3) gsNil))) (mTup (mCons (mCallB lenD (mCons (mVar 0) mNil)) (mCons (mCallB lenD (mCons (mVar 0) mNil)) mNil))))
  (mSq (mMix3 4 5 6 (xOM (mOp2O mulLO (mGive (mLst (mCons (mVar 1) mNil))) (mVar 2)) (xVM (mGive (mCallO lstRgO (mCons (mVar 2) mNil))) (xOM (mLst mNil) xNilM))))
  (mSq (mFor (mRng rng1 (mCons (mOp2 addD (mVar 2) (mC (.int 1))) mNil)) (gSet 7) (mSq (mSt 8 (mGive (mLc (List.map (fun q : Str × Nat => q.2) [("at", 10)]) (mItems (mVar 5)) (gSet 10) (tCmpM gtI (mOix 4 (mVar 10)) (mOp2 mulI (mOp2 ixD (mVar 0) (mVar 10)) (mVar 3))) (mVar 10))))
  (mSq (mIfS (tCmpM eqO (mVar 8) (mGive (mLst mNil))) (fun ρ => .bk ρ) mNx)
  (mSq (mMeth 6 appD (mCons (mCallB tupleD (mCons (mVar 8) mNil)) mNil))
  (mSq (mSt 5 (mGive (mLc (List.map (fun q : Str × Nat => q.2) [("at", 10)]) (mItems (mVar 5)) (gSet 10) (tCmpM notInO (mVar 10) (mVar 8)) (mVar 10))))
  (mSq (mMix3 3 4 9 (xVM (mOp2 mulI (mVar 3) (mC (.int 2))) (xOM (mLc (List.map (fun q : Str × Nat => q.2) [("share", 13)]) (mItems (mVar 4)) (gSet 13) mYes (mOp2 mulI (mVar 13) (mC (.int 2)))) (xVM (mVar 4) xNilM))))
  (mFor (mItems (mVar 8)) (gSet 10) (mSq (mOset 4 (mVar 10) (mC (.int 0)))
  (mFor (mItems (mGive (mLst (mCons (mC (.int 1)) (mCons (mOp2 subI (mVar 2) (mC (.int 1))) mNil))))) (gSet 11) (mSq (mSt 12 (mGive (mLc (List.map (fun q : Str × Nat => q.2) [("k", 14)]) (mRng rng2 (mCons (mC (.int 1)) (mCons (mVar 2) mNil))) (gSet 14) (tCmpM inO (mOp2 modI (mOp2 addD (mVar 10) (mOp2 mulI (mVar 11) (mVar 14))) (mVar 2)) (mVar 5)) (mOp2 modI (mOp2 addD (mVar 10) (mOp2 mulI (mVar 11) (mVar 14))) (mVar 2)))))
  (mIfS (tCmpM neO (mVar 12) (mGive (mLst mNil))) (mOaug 4 (mOp2 ixD (mVar 12) (mC (.int 0))) (mOp2 ixD (mVar 9) (mVar 10))) mNx)))))))))))
  (mRet (mTup (mCons (mCallB tupleD (mCons (mVar 6) mNil)) (mCons (mCallB tupleD (mCons (mVar 5) mNil)) mNil)))))))
def F__law_beside : List D → Out := fnP 15 m__law_beside
theorem p__law_beside {G : Gx} (X : Fct G) : ∃ f, PrF G 1 "_law_beside" s__law_beside f ["strengths", "load"] (spP G 2 F__law_beside) := by
  obtain ⟨f, F, gm⟩ := X.d__law_beside
  refine ⟨f, okP (N := ["strengths", "load", "many", "unit", "shares", "left", "rounds", "turn", "gone", "old", "at", "step", "rest", "share", "k"]) (k := 0) F gm ⟨rfl, rfl, rfl, by decide +kernel, rfl, by decide +kernel, by decide +kernel⟩ (fun _ _ _ _ _ _ us hl => match us, hl with | [_, _], _ => rfl) rfl (by decide) fun E => ?_⟩
  have fm : Fm G 0 (fX G ["strengths", "load", "many", "unit", "shares", "left", "rounds", "turn", "gone", "old", "at", "step", "rest", "share", "k"] "_law_beside" (defScope s__law_beside) f 0 E) := fX_fm (by decide +kernel)
  have fs := fX_fs (G := G) (N := ["strengths", "load", "many", "unit", "shares", "left", "rounds", "turn", "gone", "old", "at", "step", "rest", "share", "k"]) (qual := "_law_beside") (scope := defScope s__law_beside) (f := f) (k := 0) (E := E)
  exact (ssCons (sAsg (cTup (aCons (cLen fm X.b_len (cVar 0)) (aCons (cLen fm X.b_len (cVar 0)) aNil))) (gTp fm (gsC (gNm 2 (vs := [2, 3]) fm) (gsC (gNm 3 (vs := [2, 3]) fm) gsN))))
  (ssCons (sMixT3 4 5 6 fm (xO (oMulL fm (cGive (oLst (aCons (cVar 1) aNil))) (cVar 2)) (xV (cGive (oListRg fm X.b_list (rg1 fm X.b_range (cVar 2)))) (xO (oLst aNil) xNil))))
  (ssCons (sFor fm fs (iRange1 fm X.b_range (cAdd fm (cVar 2) cInt)) (gNm 7 (vs := [7]) fm) (ssCons (sSet 8 fm (cGive (oLc [("at", 10)] fm (iSeqC fm (cVar 5)) (gNm 10 (Fm.blk fm _)) (tsOne (tCmp mGt (cOix 4 (Fm.blk fm _) (cVar 10)) (cMulI (cIx (Fm.blk fm _) (cVar 0) (cVar 10)) (cVar 3)))) (cVar 10) (fun _ => blkOk_by (by kernel_rfl)))))
  (ssCons (sIf (tCmp (mEq fm) (cVar 8) (cGive (oLst aNil))) (ssOne sBreak) ssNil)
  (ssCons (sAppend 6 fm (cTuple fm X.b_tuple (cVar 8)))
  (ssCons (sSet 5 fm (cGive (oLc [("at", 10)] fm (iSeqC fm (cVar 5)) (gNm 10 (Fm.blk fm _)) (tsOne (tCmp (mNotIn (Fm.blk fm _)) (cVar 10) (cVar 8))) (cVar 10) (fun _ => blkOk_by (by kernel_rfl)))))
  (ssCons (sMixT3 3 4 9 fm (xV (cMulI (cVar 3) cInt) (xO (oLc [("share", 13)] fm (iSeqC fm (cVar 4)) (gNm 13 (Fm.blk fm _)) tsNil (cMulI (cVar 13) cInt) (fun _ => blkOk_by (by kernel_rfl))) (xV (cVar 4) xNil))))
  (ssOne (sFor fm fs (iSeqC fm (cVar 8)) (gNm 10 (vs := [10]) fm) (ssCons (sOset 4 (cVar 10) cInt)
  (ssOne (sFor fm fs (iSeqC fm (cGive (oLst (aCons cInt (aCons (cSub (cVar 2) cInt) aNil))))) (gNm 11 (vs := [11]) fm) (ssCons (sSetLc 12 [("k", 14)] fm (iRange2 fm X.b_range cInt (cVar 2)) (gNm 14 (Fm.blk fm _)) (tsOne (tCmp (mIn (Fm.blk fm _)) (cMod (cAdd (Fm.blk fm _) (cVar 10) (cMulI (cVar 11) (cVar 14))) (cVar 2)) (cVar 5))) (cMod (cAdd (Fm.blk fm _) (cVar 10) (cMulI (cVar 11) (cVar 14))) (cVar 2)) (fun _ => blkOk_by (by kernel_rfl)) (hsw := fun _ => sw_true rfl rfl rfl rfl))
  (ssOne (sIf (tCmp (mNe fm) (cVar 12) (cGive (oLst aNil))) (ssOne (sOaug 4 (cIx fm (cVar 12) cInt) (cIx fm (cVar 9) (cVar 10)))) ssNil))))))))))))))
  (ssOne (sRet (cTup (aCons (cTuple fm X.b_tuple (cVar 6)) (aCons (cTuple fm X.b_tuple (cVar 5)) aNil))))))))
def m__law_right : MS := (mSq (mAsg (gTupM 2 (gsCons (gSet 1) (gsCons (gSet 2) gsNil))) (mTup (mCons (mCallB tupleD (mCons (mGive (mLc (List.map (fun q : Str × Nat => q.2) [("yarn", 19)]) (mRng rng1 (mCons (mOp2 addD (mC (.int 1)) (mCallD F__law_roll 0 (mCons (mC (.int 6)) mNil))) mNil)) (gSet 19) mYes (mOp2 addD (mC (.int 1)) (mCallD F__law_roll 0 (mCons (mCallD F__law_pick 0 (mCons (mGive (mLst (mCons (mC (.int 4)) (mCons (mC (.int 15)) (mCons (mC (.int 99)) mNil))))) mNil)) mNil))))) mNil)) (mCons (mCallD F__law_roll 0 (mCons (mC (.int 160)) mNil)) mNil))))
  (mSq (mAsg (gTupM 2 (gsCons (gSet 3) (gsCons (gSet 4) gsNil))) (mCall F__law_broken (mCons (mVar 1) (mCons (mVar 2) mNil))))
  (mSq (mIfS (mOrT (tCmpM neO (mCall F_breaks_at (mCons (mVar 1) (mCons (mVar 2) mNil))) (mVar 3)) (tCmpM neO (mCall F_left_at (mCons (mVar 1) (mCons (mVar 2) mNil))) (mVar 4))) (mRet (mC (.bool false))) mNx)
  (mSq (mIfS (mOrT (tCmpM neO (mCallK F_breaks_at [1, 0] mNil (mCons (mVar 2) (mCons (mVar 1) mNil))) (mVar 3)) (tCmpM neO (mCallK F_left_at [1, 0] mNil (mCons (mVar 2) (mCons (mVar 1) mNil))) (mVar 4))) (mRet (mC (.bool false))) mNx)
  (mSq (mAsg (gTupM 2 (gsCons (gSet 3) (gsCons (gSet 4) gsNil))) (mCall F__law_beside (mCons (mVar 1) (mCons (mVar 2) mNil))))
  (mSq (mIfS (mOrT (tCmpM neO (mCall F_breaks_beside (mCons (mVar 1) (mCons (mVar 2) mNil))) (mVar 3)) (tCmpM neO (mCall F_left_beside (mCons (mVar 1) (mCons (mVar 2) mNil))) (mVar 4))) (mRet (mC (.bool false))) mNx)
  (mSq (mIfS (mOrT (tCmpM neO (mCallK F_breaks_beside [1, 0] mNil (mCons (mVar 2) (mCons (mVar 1) mNil))) (mVar 3)) (tCmpM neO (mCallK F_left_beside [1, 0] mNil (mCons (mVar 2) (mCons (mVar 1) mNil))) (mVar 4))) (mRet (mC (.bool false))) mNx)
  (mSq (mSt 5 (mGive (mLc (List.map (fun q : Str × Nat => q.2) [("weight", 18)]) (mRng rng1 (mCons (mOp2 addD (mCallB sumA (mCons (mVar 1) mNil)) (mC (.int 2))) mNil)) (gSet 18) (tCmpM neO (mOp2 ixD (mCall F__law_broken (mCons (mVar 1) (mCons (mVar 18) mNil))) (mC (.int 1))) (mTup mNil)) (mVar 18))))
  (mSq (mSt 6 (mGive (mLc (List.map (fun q : Str × Nat => q.2) [("weight", 18)]) (mRng rng1 (mCons (mOp2 addD (mCallB sumA (mCons (mVar 1) mNil)) (mC (.int 2))) mNil)) (gSet 18) (tCmpM neO (mOp2 ixD (mCall F__law_beside (mCons (mVar 1) (mCons (mVar 18) mNil))) (mC (.int 1))) (mTup mNil)) (mVar 18))))
  (mSq (mSt 7 (mGive (mLc (List.map (fun q : Str × Nat => q.2) [("weight", 18)]) (mRng rng1 (mCons (mOp2 addD (mCallB sumA (mCons (mVar 1) mNil)) (mC (.int 2))) mNil)) (gSet 18) (tCmpM eqO (mOp2 ixD (mCall F__law_broken (mCons (mVar 1) (mCons (mVar 18) mNil))) (mC (.int 0))) (mTup mNil)) (mVar 18))))
  (mSq (mSt 8 (mTup (mCons (mCall F_bears (mCons (mVar 1) mNil)) (mCons (mCall F_bears_beside (mCons (mVar 1) mNil)) (mCons (mCall F_first_break (mCons (mVar 1) mNil)) mNil)))))
  (mSq (mIfS (mOrT (tCmpM neO (mVar 8) (mTup (mCons (mCallB maxA (mCons (mVar 5) mNil)) (mCons (mCallB maxA (mCons (mVar 6) mNil)) (mCons (mCallB maxA (mCons (mVar 7) mNil)) mNil))))) (tCmpM neO (mTup (mCons (mCallK F_bears [0] mNil (mCons (mVar 1) mNil)) (mCons (mCallK F_bears_beside [0] mNil (mCons (mVar 1) mNil)) (mCons (mCallK F_first_break [0] mNil (mCons (mVar 1) mNil)) mNil)))) (mVar 8))) (mRet (mC (.bool false))) mNx)
  (mSq (mSt 9 (mGive (mLc (List.map (fun q : Str × Nat => q.2) [("row", 14)]) (mItems (mCall F__law_subsets (mCons (mCallB lenD (mCons (mVar 1) mNil)) (mCons (mCallB lenD (mCons (mVar 1) mNil)) mNil)))) (gSet 14) (mAndT (tCmpM neO (mVar 14) (mTup mNil)) (tCmpM neO (mOp2 ixD (mCall F__law_broken (mCons (mGive (mLc (List.map (fun q : Str × Nat => q.2) [("at", 20)]) (mItems (mVar 14)) (gSet 20) mYes (mOp2 ixD (mVar 1) (mVar 20)))) (mCons (mVar 2) mNil))) (mC (.int 1))) (mTup mNil))) (mVar 14))))
  (mSq (mSt 10 (mCallBK minDefD (mCons (mGive (mLc (List.map (fun q : Str × Nat => q.2) [("row", 14)]) (mItems (mVar 9)) (gSet 14) mYes (mCallB lenD (mCons (mVar 14) mNil)))) mNil) (mCons (mC .none) mNil)))
  (mSq (mPar 11 12 (mCons (mGive (mLc (List.map (fun q : Str × Nat => q.2) [("row", 14)]) (mItems (mVar 9)) (gSet 14) (tCmpM eqO (mCallB lenD (mCons (mVar 14) mNil)) (mVar 10)) (mVar 14))) (mCons (mCall F_bundle (mCons (mVar 1) (mCons (mVar 2) mNil))) mNil)))
  (mSq (mIfS (mOrT (tCmpM neO (mCall F_fewest_yarns (mCons (mVar 1) (mCons (mVar 2) mNil))) (mVar 10)) (mOrT (tCmpM neO (mCallK F_fewest_yarns [1, 0] mNil (mCons (mVar 2) (mCons (mVar 1) mNil))) (mVar 10)) (tCmpM neO (mCmp isN (mVar 12) (mC .none)) (mCmp eqO (mVar 9) (mGive (mLst mNil)))))) (mRet (mC (.bool false))) mNx)
  (mSq (mIfS (mOrT (mAndT (tCmpM notN (mVar 12) (mC .none)) (tCmpM notInO (mVar 12) (mVar 11))) (tCmpM neO (mCallK F_bundle [1, 0] mNil (mCons (mVar 2) (mCons (mVar 1) mNil))) (mVar 12))) (mRet (mC (.bool false))) mNx)
  (mSq (mFor (mRng rng1 (mCons (mC (.int 4)) mNil)) (gSet 13) (mSq (mSt 14 (mCallD F__law_pick 0 (mCons (mOp2 addD (mOp2 addD (mVar 9) (mVar 11)) (mGive (mLst (mCons (mTup mNil) (mCons (mC .none) (mCons (mVar 12) (mCons (mGive (mLst (mCons (mC (.int 0)) mNil))) (mCons (mTup (mCons (mC (.int 0)) (mCons (mC (.int 0)) mNil))) (mCons (mTup (mCons (mC (.int 0)) mNil)) (mCons (mTup (mCons (mCallB lenD (mCons (mVar 1) mNil)) mNil)) mNil)))))))))) mNil)))
  (mIfS (tCmpM neO (mCallK F_is_bundle [0, 1, 2] (mCons (mVar 1) (mCons (mVar 2) mNil)) (mCons (mVar 14) mNil)) (mAnd (mIsi isiTup (mVar 14)) (mCmp inO (mVar 14) (mVar 11)))) (mRet (mC (.bool false))) mNx)))
  (mSq (mAsg (gTupM 2 (gsCons (gSet 15) (gsCons (gSet 16) gsNil))) (mTup (mCons (mCallD F__law_pick 0 (mCons (mGive (mLst (mCons (mC .none) (mCons (mTup mNil) (mCons (mTup (mCons (mC (.int 0)) mNil)) (mCons (mTup (mCons (mC (.int 100)) mNil)) (mCons (mOp2 mulTD (mTup (mCons (mC (.int 1)) mNil)) (mC (.int 9))) (mCons (mGive (mLst (mCons (mC (.int 1)) mNil))) (mCons (mTup (mCons (mC (.bool true)) mNil)) mNil))))))))) mNil)) (mCons (mCallD F__law_pick 0 (mCons (mGive (mLst (mCons (mOp1 negI (mC (.int 1))) (mCons (mC (.int 1000)) (mCons (mC .none) (mCons (mC (.str "1")) mNil)))))) mNil)) mNil))))
  (mSq (mSt 17 (mGive (mLst (mCons (mRef (mRun F_breaks_at (mCons (mVar 15) (mCons (mVar 16) mNil)))) (mCons (mRef (mRun F_left_at (mCons (mVar 1) (mCons (mVar 16) mNil)))) (mCons (mRef (mRun F_bears (mCons (mVar 15) mNil))) (mCons (mRef (mRun F_bundle (mCons (mVar 1) (mCons (mVar 16) mNil)))) mNil)))))))
  (mRet (mCmp eqO (mOp2 addD (mVar 17) (mGive (mLst (mCons (mRef (mRun F_left_beside (mCons (mVar 15) (mCons (mC (.int 1)) mNil)))) (mCons (mRef (mRun F_is_bundle (mCons (mVar 15) (mCons (mVar 16) (mCons (mC (.int 0)) mNil))))) (mCons (mRef (mRun F_first_break (mCons (mVar 15) mNil))) mNil)))))) (mGive (mLst (mCons (mC (.str "strengths")) (mCons (mC (.str "load")) (mCons (mC (.str "strengths")) (mCons (mC (.str "load")) (mCons (mC (.str "strengths")) (mCons (mC (.str "strengths")) (mCons (mC (.str "strengths")) mNil)))))))))))))))))))))))))))))))
def F__law_right : List D → List D → OutD := fnD 21 m__law_right
theorem p__law_right {G : Gx} (X : Fct G) : ∃ f, PrF G 9 "_law_right" s__law_right f ["dice"] (spD G 0 F__law_right) := by
  obtain ⟨f__law_beside, P__law_beside⟩ := p__law_beside X
  obtain ⟨f__law_broken, P__law_broken⟩ := p__law_broken X
  obtain ⟨f__law_pick, P__law_pick⟩ := p__law_pick X
  obtain ⟨f__law_roll, P__law_roll⟩ := p__law_roll X
  obtain ⟨f__law_subsets, P__law_subsets⟩ := p__law_subsets X
  obtain ⟨f_bears, P_bears⟩ := p_bears X
  obtain ⟨f_bears_beside, P_bears_beside⟩ := p_bears_beside X
  obtain ⟨f_breaks_at, P_breaks_at⟩ := p_breaks_at X
  obtain ⟨f_breaks_beside, P_breaks_beside⟩ := p_breaks_beside X
  obtain ⟨f_bundle, P_bundle⟩ := p_bundle X
  obtain ⟨f_fewest_yarns, P_fewest_yarns⟩ := p_fewest_yarns X
  obtain ⟨f_first_break, P_first_break⟩ := p_first_break X
  obtain ⟨f_is_bundle, P_is_bundle⟩ := p_is_bundle X
  obtain ⟨f_left_at, P_left_at⟩ := p_left_at X
  obtain ⟨f_left_beside, P_left_beside⟩ := p_left_beside X
  obtain ⟨g_ref, R_ref⟩ := X.ref
  obtain ⟨f, F, gm, lam⟩ := X.d__law_right
  refine ⟨f, okD (N := ["dice", "strengths", "load", "rounds", "left", "most", "ring", "whole", "shows", "good", "few", "best", "found", "turn", "row", "bad", "odd", "told", "weight", "yarn", "at"]) (k := 8) F gm ⟨rfl, rfl, rfl, by decide +kernel, rfl, by decide +kernel, by decide +kernel⟩ (fun _ _ _ _ _ _ us hl => match us, hl with | [_], _ => rfl) rfl (by decide) fun E => ?_⟩
  have fm : Fm G 8 (fX G ["dice", "strengths", "load", "rounds", "left", "most", "ring", "whole", "shows", "good", "few", "best", "found", "turn", "row", "bad", "odd", "told", "weight", "yarn", "at"] "_law_right" (defScope s__law_right) f 8 E) := fX_fm (by decide +kernel)
  have fs := fX_fs (G := G) (N := ["dice", "strengths", "load", "rounds", "left", "most", "ring", "whole", "shows", "good", "few", "best", "found", "turn", "row", "bad", "odd", "told", "weight", "yarn", "at"]) (qual := "_law_right") (scope := defScope s__law_right) (f := f) (k := 8) (E := E)
  have L : LamG (fX G ["dice", "strengths", "load", "rounds", "left", "most", "ring", "whole", "shows", "good", "few", "best", "found", "turn", "row", "bad", "odd", "told", "weight", "yarn", "at"] "_law_right" (defScope s__law_right) f 8 E) G := lamG_of lam
  exact (ssCons (sAsg (cTup (aCons (cTuple fm X.b_tuple (cGive (oLc [("yarn", 19)] fm (iRange1 fm X.b_range (cAdd fm cInt (cCallD 0 fm P__law_roll (by omega) (aCons cInt aNil)))) (gNm 19 (Fm.blk fm _)) tsNil (cAdd (Fm.blk fm _) cInt (cCallD 0 (Fm.blk fm _) P__law_roll (by omega) (aCons (cCallD 0 (Fm.blk fm _) P__law_pick (by omega) (aCons (cGive (oLst (aCons cInt (aCons cInt (aCons cInt aNil))))) aNil)) aNil))) (fun _ => blkOk_by (by kernel_rfl))))) (aCons (cCallD 0 fm P__law_roll (by omega) (aCons cInt aNil)) aNil))) (gTp fm (gsC (gNm 1 (vs := [1, 2]) fm) (gsC (gNm 2 (vs := [1, 2]) fm) gsN))))
  (ssCons (sAsg (cCall fm P__law_broken (by omega) (aCons (cVar 1) (aCons (cVar 2) aNil))) (gTp fm (gsC (gNm 3 (vs := [3, 4]) fm) (gsC (gNm 4 (vs := [3, 4]) fm) gsN))))
  (ssCons (sIf (CW.t (wOr (tCmp (mNe fm) (cCall fm P_breaks_at (by omega) (aCons (cVar 1) (aCons (cVar 2) aNil))) (cVar 3)) (wOr1 (tCmp (mNe fm) (cCall fm P_left_at (by omega) (aCons (cVar 1) (aCons (cVar 2) aNil))) (cVar 4))))) (ssOne (sRet cBool)) ssNil)
  (ssCons (sIf (CW.t (wOr (tCmp (mNe fm) (cCallK0 (ks := ["load", "strengths"]) (is := [1, 0]) fm P_breaks_at (by omega) (kCons (cVar 2) (kCons (cVar 1) kNil)) (fun kV doc pm an cdv ct us ws h1 h2 => match us, ws, h1, h2 with | [], [_, _], _, _ => rfl) (fun ds es h1 h2 => match ds, es, h1, h2 with | [], [_, _], _, _ => rfl)) (cVar 3)) (wOr1 (tCmp (mNe fm) (cCallK0 (ks := ["load", "strengths"]) (is := [1, 0]) fm P_left_at (by omega) (kCons (cVar 2) (kCons (cVar 1) kNil)) (fun kV doc pm an cdv ct us ws h1 h2 => match us, ws, h1, h2 with | [], [_, _], _, _ => rfl) (fun ds es h1 h2 => match ds, es, h1, h2 with | [], [_, _], _, _ => rfl)) (cVar 4))))) (ssOne (sRet cBool)) ssNil)
  (ssCons (sAsg (cCall fm P__law_beside (by omega) (aCons (cVar 1) (aCons (cVar 2) aNil))) (gTp fm (gsC (gNm 3 (vs := [3, 4]) fm) (gsC (gNm 4 (vs := [3, 4]) fm) gsN))))
  (ssCons (sIf (CW.t (wOr (tCmp (mNe fm) (cCall fm P_breaks_beside (by omega) (aCons (cVar 1) (aCons (cVar 2) aNil))) (cVar 3)) (wOr1 (tCmp (mNe fm) (cCall fm P_left_beside (by omega) (aCons (cVar 1) (aCons (cVar 2) aNil))) (cVar 4))))) (ssOne (sRet cBool)) ssNil)
  (ssCons (sIf (CW.t (wOr (tCmp (mNe fm) (cCallK0 (ks := ["load", "strengths"]) (is := [1, 0]) fm P_breaks_beside (by omega) (kCons (cVar 2) (kCons (cVar 1) kNil)) (fun kV doc pm an cdv ct us ws h1 h2 => match us, ws, h1, h2 with | [], [_, _], _, _ => rfl) (fun ds es h1 h2 => match ds, es, h1, h2 with | [], [_, _], _, _ => rfl)) (cVar 3)) (wOr1 (tCmp (mNe fm) (cCallK0 (ks := ["load", "strengths"]) (is := [1, 0]) fm P_left_beside (by omega) (kCons (cVar 2) (kCons (cVar 1) kNil)) (fun kV doc pm an cdv ct us ws h1 h2 => match us, ws, h1, h2 with | [], [_, _], _, _ => rfl) (fun ds es h1 h2 => match ds, es, h1, h2 with | [], [_, _], _, _ => rfl)) (cVar 4))))) (ssOne (sRet cBool)) ssNil)
  (ssCons (sSetLc 5 [("weight", 18)] fm (iRange1 fm X.b_range (cAdd fm (cSumA fm X.b_sum (cVar 1)) cInt)) (gNm 18 (Fm.blk fm _)) (tsOne (tCmp (mNe (Fm.blk fm _)) (cIx (Fm.blk fm _) (cCall (Fm.blk fm _) P__law_broken (by omega) (aCons (cVar 1) (aCons (cVar 18) aNil))) cInt) (cTup aNil))) (cVar 18) (fun _ => blkOk_by (by kernel_rfl)) (hsw := fun _ => sw_true rfl rfl rfl rfl))
  (ssCons (sSetLc 6 [("weight", 18)] fm (iRange1 fm X.b_range (cAdd fm (cSumA fm X.b_sum (cVar 1)) cInt)) (gNm 18 (Fm.blk fm _)) (tsOne (tCmp (mNe (Fm.blk fm _)) (cIx (Fm.blk fm _) (cCall (Fm.blk fm _) P__law_beside (by omega) (aCons (cVar 1) (aCons (cVar 18) aNil))) cInt) (cTup aNil))) (cVar 18) (fun _ => blkOk_by (by kernel_rfl)) (hsw := fun _ => sw_true rfl rfl rfl rfl))
  (ssCons (sSetLc 7 [("weight", 18)] fm (iRange1 fm X.b_range (cAdd fm (cSumA fm X.b_sum (cVar 1)) cInt)) (gNm 18 (Fm.blk fm _)) (tsOne (tCmp (mEq (Fm.blk fm _)) (cIx (Fm.blk fm _) (cCall (Fm.blk fm _) P__law_broken (by omega) (aCons (cVar 1) (aCons (cVar 18) aNil))) cInt) (cTup aNil))) (cVar 18) (fun _ => blkOk_by (by kernel_rfl)) (hsw := fun _ => sw_true rfl rfl rfl rfl))
  (ssCons (sSet 8 fm (cTup (aCons (cCall fm P_bears (by omega) (aCons (cVar 1) aNil)) (aCons (cCall fm P_bears_beside (by omega) (aCons (cVar 1) aNil)) (aCons (cCall fm P_first_break (by omega) (aCons (cVar 1) aNil)) aNil)))))
  (ssCons (sIf (CW.t (wOr (tCmp (mNe fm) (cVar 8) (cTup (aCons (cMaxA fm X.b_max (cVar 5)) (aCons (cMaxA fm X.b_max (cVar 6)) (aCons (cMaxA fm X.b_max (cVar 7)) aNil))))) (wOr1 (tCmp (mNe fm) (cTup (aCons (cCallK0 (ks := ["strengths"]) (is := [0]) fm P_bears (by omega) (kCons (cVar 1) kNil) (fun kV doc pm an cdv ct us ws h1 h2 => match us, ws, h1, h2 with | [], [_], _, _ => rfl) (fun ds es h1 h2 => match ds, es, h1, h2 with | [], [_], _, _ => rfl)) (aCons (cCallK0 (ks := ["strengths"]) (is := [0]) fm P_bears_beside (by omega) (kCons (cVar 1) kNil) (fun kV doc pm an cdv ct us ws h1 h2 => match us, ws, h1, h2 with | [], [_], _, _ => rfl) (fun ds es h1 h2 => match ds, es, h1, h2 with | [], [_], _, _ => rfl)) (aCons (cCallK0 (ks := ["strengths"]) (is := [0]) fm P_first_break (by omega) (kCons (cVar 1) kNil) (fun kV doc pm an cdv ct us ws h1 h2 => match us, ws, h1, h2 with | [], [_], _, _ => rfl) (fun ds es h1 h2 => match ds, es, h1, h2 with | [], [_], _, _ => rfl)) aNil)))) (cVar 8))))) (ssOne (sRet cBool)) ssNil)
  (ssCons (sSetLc 9 [("row", 14)] fm (iSeqC fm (cCall fm P__law_subsets (by omega) (aCons (cLen fm X.b_len (cVar 1)) (aCons (cLen fm X.b_len (cVar 1)) aNil)))) (gNm 14 (Fm.blk fm _)) (tsOne (CW.t (wAnd (tCmp (mNe (Fm.blk fm _)) (cVar 14) (cTup aNil)) (wAnd1 (tCmp (mNe (Fm.blk fm _)) (cIx (Fm.blk fm _) (cCall (Fm.blk fm _) P__law_broken (by omega) (aCons (cGive (oLc [("at", 20)] (Fm.blk fm _) (iSeqC (Fm.blk fm _) (cVar 14)) (gNm 20 (Fm.blk (Fm.blk fm _) _)) tsNil (cIx (Fm.blk (Fm.blk fm _) _) (cVar 1) (cVar 20)) (fun _ => blkOk_by (by kernel_rfl)))) (aCons (cVar 2) aNil))) cInt) (cTup aNil)))))) (cVar 14) (fun _ => blkOk_by (by kernel_rfl)) (hsw := fun _ => sw_true rfl rfl rfl rfl))
  (ssCons (sSet 10 fm (cMinDef fm X.b_min (cGive (oLc [("row", 14)] fm (iSeqC fm (cVar 9)) (gNm 14 (Fm.blk fm _)) tsNil (cLen (Fm.blk fm _) X.b_len (cVar 14)) (fun _ => blkOk_by (by kernel_rfl)))) (kCons cNone kNil)))
  (ssCons (sPar 11 12 fm (aCons (cGive (oLc [("row", 14)] fm (iSeqC fm (cVar 9)) (gNm 14 (Fm.blk fm _)) (tsOne (tCmp (mEq (Fm.blk fm _)) (cLen (Fm.blk fm _) X.b_len (cVar 14)) (cVar 10))) (cVar 14) (fun _ => blkOk_by (by kernel_rfl)))) (aCons (cCall fm P_bundle (by omega) (aCons (cVar 1) (aCons (cVar 2) aNil))) aNil)))
  (ssCons (sIf (CW.t (wOr (tCmp (mNe fm) (cCall fm P_fewest_yarns (by omega) (aCons (cVar 1) (aCons (cVar 2) aNil))) (cVar 10)) (wOr (tCmp (mNe fm) (cCallK0 (ks := ["load", "strengths"]) (is := [1, 0]) fm P_fewest_yarns (by omega) (kCons (cVar 2) (kCons (cVar 1) kNil)) (fun kV doc pm an cdv ct us ws h1 h2 => match us, ws, h1, h2 with | [], [_, _], _, _ => rfl) (fun ds es h1 h2 => match ds, es, h1, h2 with | [], [_, _], _, _ => rfl)) (cVar 10)) (wOr1 (tCmp (mNe fm) (cCmp mIsN (cVar 12) cNone) (cCmp (mEq fm) (cVar 9) (cGive (oLst aNil)))))))) (ssOne (sRet cBool)) ssNil)
  (ssCons (sIf (CW.t (wOr (CW.t (wAnd (tCmp mNotN (cVar 12) cNone) (wAnd1 (tCmp (mNotIn fm) (cVar 12) (cVar 11))))) (wOr1 (tCmp (mNe fm) (cCallK0 (ks := ["load", "strengths"]) (is := [1, 0]) fm P_bundle (by omega) (kCons (cVar 2) (kCons (cVar 1) kNil)) (fun kV doc pm an cdv ct us ws h1 h2 => match us, ws, h1, h2 with | [], [_, _], _, _ => rfl) (fun ds es h1 h2 => match ds, es, h1, h2 with | [], [_, _], _, _ => rfl)) (cVar 12))))) (ssOne (sRet cBool)) ssNil)
  (ssCons (sFor fm fs (iRange1 fm X.b_range cInt) (gNm 13 (vs := [13]) fm) (ssCons (sSet 14 fm (cCallD 0 fm P__law_pick (by omega) (aCons (cAdd fm (cAdd fm (cVar 9) (cVar 11)) (cGive (oLst (aCons (cTup aNil) (aCons cNone (aCons (cVar 12) (aCons (cGive (oLst (aCons cInt aNil))) (aCons (cTup (aCons cInt (aCons cInt aNil))) (aCons (cTup (aCons cInt aNil)) (aCons (cTup (aCons (cLen fm X.b_len (cVar 1)) aNil)) aNil)))))))))) aNil)))
  (ssOne (sIf (tCmp (mNe fm) (cCallK (n := 2) (ks := ["value"]) (is := [0, 1, 2]) fm P_is_bundle (by omega) (aCons (cVar 1) (aCons (cVar 2) aNil)) (kCons (cVar 14) kNil) (fun kV doc pm an cdv ct us ws h1 h2 => match us, ws, h1, h2 with | [_, _], [_], _, _ => rfl) (fun ds es h1 h2 => match ds, es, h1, h2 with | [_, _], [_], _, _ => rfl)) (cAnd (cIsiTup fm X.b_isinstance X.b_tuple (cVar 14)) (cOne (cCmp (mIn fm) (cVar 14) (cVar 11))))) (ssOne (sRet cBool)) ssNil))))
  (ssCons (sAsg (cTup (aCons (cCallD 0 fm P__law_pick (by omega) (aCons (cGive (oLst (aCons cNone (aCons (cTup aNil) (aCons (cTup (aCons cInt aNil)) (aCons (cTup (aCons cInt aNil)) (aCons (cMulT fm (cTup (aCons cInt aNil)) cInt) (aCons (cGive (oLst (aCons cInt aNil))) (aCons (cTup (aCons cBool aNil)) aNil))))))))) aNil)) (aCons (cCallD 0 fm P__law_pick (by omega) (aCons (cGive (oLst (aCons (cNeg cInt) (aCons cInt (aCons cNone (aCons cStr aNil)))))) aNil)) aNil))) (gTp fm (gsC (gNm 15 (vs := [15, 16]) fm) (gsC (gNm 16 (vs := [15, 16]) fm) gsN))))
  (ssCons (sSet 17 fm (cGive (oLst (aCons (cRef (kl := 6) fm R_ref L (by omega) (rCall fm P_breaks_at (by omega) (aCons (cVar 15) (aCons (cVar 16) aNil)))) (aCons (cRef (kl := 6) fm R_ref L (by omega) (rCall fm P_left_at (by omega) (aCons (cVar 1) (aCons (cVar 16) aNil)))) (aCons (cRef (kl := 6) fm R_ref L (by omega) (rCall fm P_bears (by omega) (aCons (cVar 15) aNil))) (aCons (cRef (kl := 6) fm R_ref L (by omega) (rCall fm P_bundle (by omega) (aCons (cVar 1) (aCons (cVar 16) aNil)))) aNil)))))))
  (ssOne (sRet (cCmp (mEq fm) (cAdd fm (cVar 17) (cGive (oLst (aCons (cRef (kl := 6) fm R_ref L (by omega) (rCall fm P_left_beside (by omega) (aCons (cVar 15) (aCons cInt aNil)))) (aCons (cRef (kl := 6) fm R_ref L (by omega) (rCall fm P_is_bundle (by omega) (aCons (cVar 15) (aCons (cVar 16) (aCons cInt aNil))))) (aCons (cRef (kl := 6) fm R_ref L (by omega) (rCall fm P_first_break (by omega) (aCons (cVar 15) aNil))) aNil)))))) (cGive (oLst (aCons cStr (aCons cStr (aCons cStr (aCons cStr (aCons cStr (aCons cStr (aCons cStr aNil))))))))))))))))))))))))))))))))
def m_law : MS := (mSq (mFor (mRng rng1 (mCons (mCallB max2 (mCons (mC (.int 1)) (mCons (mCallB min2 (mCons (mC (.int 6)) (mCons (mScrLen 0) mNil))) mNil))) mNil)) (gSet 1) (mIfS (mNotT (mT (mRight F__law_dice F__law_right 0 (mVar 1)))) (mRet (mC (.bool false))) mNx))
  (mRet (mAnd (mCmp eqO (mCall F_breaks_at (mCons (mTup (mCons (mC (.int 1)) (mCons (mC (.int 9)) (mCons (mC (.int 9)) mNil)))) (mCons (mC (.int 6)) mNil))) (mTup (mCons (mTup (mCons (mC (.int 0)) mNil)) mNil))) (mCmp eqO (mCall F_bears (mCons (mTup (mCons (mC (.int 1)) (mCons (mC (.int 9)) (mCons (mC (.int 9)) mNil)))) mNil)) (mC (.int 18))))))
def F_law : List Int → Out := fnL 2 m_law
theorem p_law {G : Gx} (X : Fct G) : ∃ f, PrF G 10 "law" s_law f ["script"] (spL G F_law) := by
  obtain ⟨f__law_dice, P__law_dice⟩ := p__law_dice X
  obtain ⟨f__law_right, P__law_right⟩ := p__law_right X
  obtain ⟨f_bears, P_bears⟩ := p_bears X
  obtain ⟨f_breaks_at, P_breaks_at⟩ := p_breaks_at X
  obtain ⟨f, F, gm⟩ := X.d_law
  refine ⟨f, okL (N := ["script", "spot"]) (k := 9) F gm ⟨rfl, rfl, rfl, by decide +kernel, rfl, by decide +kernel, by decide +kernel⟩ (fun _ _ _ _ _ _ us hl => match us, hl with | [_], _ => rfl) rfl (by decide) fun E => ?_⟩
  have fm : Fm G 9 (fX G ["script", "spot"] "law" (defScope s_law) f 9 E) := fX_fm (by decide +kernel)
  have fs := fX_fs (G := G) (N := ["script", "spot"]) (qual := "law") (scope := defScope s_law) (f := f) (k := 9) (E := E)
  exact (ssCons (sFor fm fs (iRange1 fm X.b_range (cMax2 fm X.b_max cInt (cMin2 fm X.b_min cInt (cScrLen 0 fm X.b_len)))) (gNm 1 (vs := [1]) fm) (ssOne (sIf (tNot (tVal (cRight 0 fm P__law_dice P__law_right (by omega) (by omega) (cVar 1)))) (ssOne (sRet cBool)) ssNil)))
  (ssOne (sRet (cAnd (cCmp (mEq fm) (cCall fm P_breaks_at (by omega) (aCons (cTup (aCons cInt (aCons cInt (aCons cInt aNil)))) (aCons cInt aNil))) (cTup (aCons (cTup (aCons cInt aNil)) aNil))) (cOne (cCmp (mEq fm) (cCall fm P_bears (by omega) (aCons (cTup (aCons cInt (aCons cInt (aCons cInt aNil)))) aNil)) cInt))))))
end Pm
namespace Pm
open PySem
/-! ### the greatest common divisor by a loop; fractions -/
theorem gcd_step (a b : Int) : Int.gcd b (a % b) = Int.gcd a b := by
  rw [← Int.gcd_add_mul_left_right b (a % b) (a / b), Int.emod_add_mul_ediv, Int.gcd_comm]
theorem whGcd {C : MT} {B : MS} (R : Int → Int → PE0) (hC : ∀ a b, C (R a b) = .ok (decide (0 < b)) (R a b)) (hB : ∀ a b, 0 < b → B (R a b) = .nx (R b (a % b))) :
    ∀ (k n : Nat) (a b : Int), 0 ≤ a → 0 ≤ b → b < 2 ^ k → 2 * k + 1 ≤ n → whGo C B n (R a b) = .nx (R (Int.gcd a b) 0) := by
  have st : ∀ n a b, whGo C B (n + 1) (R a b) = Fl.of (C (R a b)) fun c ρ1 => if c = true then (match B ρ1 with | .nx ρ2 => whGo C B n ρ2 | .ct ρ2 => whGo C B n ρ2 | .bk ρ2 => .nx ρ2 | fl => fl) else .nx ρ1 := fun _ _ _ => rfl
  have z : ∀ (n : Nat) (a : Int), 0 ≤ a → 1 ≤ n → whGo C B n (R a 0) = .nx (R (Int.gcd a 0) 0) := by
    intro n a ha hn
    obtain ⟨n, rfl⟩ : ∃ j, n = j + 1 := ⟨n - 1, by omega⟩
    rw [st, hC, Fl.of_ok, if_neg (by simp), Int.gcd_zero_right, Int.natAbs_of_nonneg ha]
  have p : ∀ (n : Nat) (a b : Int), 0 < b → whGo C B (n + 1) (R a b) = whGo C B n (R b (a % b)) := by
    intro n a b h
    rw [st, hC, Fl.of_ok, if_pos (by simpa using h), hB a b h]
  intro k
  induction k with
  | zero =>
    intro n a b ha hb hk hn
    have : b = 0 := by omega
    subst this
    exact z n a ha (by omega)
  | succ k ih =>
    intro n a b ha hb hk hn
    by_cases h0 : b = 0
    · subst h0
      exact z n a ha (by omega)
    · have hb0 : 0 < b := by omega
      obtain ⟨n, rfl⟩ : ∃ j, n = j + 2 := ⟨n - 2, by omega⟩
      have m0 := Int.emod_nonneg a h0
      have m1 := Int.emod_lt_of_pos a hb0
      rw [p _ _ _ hb0, ← gcd_step a b]
      by_cases h1 : a % b = 0
      · rw [h1]
        exact z _ b hb (by omega)
      · have r0 : 0 < a % b := by omega
        rw [p _ _ _ r0, ← gcd_step b (a % b)]
        have q0 := Int.emod_nonneg b h1
        have q1 := Int.emod_lt_of_pos b r0
        have half : 2 * (b % (a % b)) < b ∨ 2 * (b % (a % b)) = 0 := by
          by_cases hh : 2 * (a % b) ≤ b
          · left; omega
          · left
            have : b % (a % b) = (b - a % b) := by
              have e : b % (a % b) = (b - a % b) % (a % b) := by rw [Int.sub_emod_right]
              rw [e, Int.emod_eq_of_lt (by omega) (by omega)]
            omega
        have pk : (2 : Int) ^ (k + 1) = 2 ^ k * 2 := Int.pow_succ 2 k
        have pp : (0 : Int) < 2 ^ k := Int.pow_pos (by decide)
        exact ih n (a % b) (b % (a % b)) (by omega) q0 (by omega) (by omega)
def qd (q : Rat) : D := .tuple [.int q.num, .int q.den]
theorem rat_num {a b : Int} (hb : 0 < b) : ((a : Rat) / (b : Rat)).num = a / (Int.gcd a b : Int) := by
  rw [← Rat.divInt_eq_div, Rat.num_divInt, Int.sign_eq_one_of_pos hb, Int.one_mul, Int.gcd_comm]
theorem rat_den {a b : Int} (hb : 0 < b) : (((a : Rat) / (b : Rat)).den : Int) = b / (Int.gcd a b : Int) := by
  rw [← Rat.divInt_eq_div, Rat.den_divInt, if_neg (by omega), Int.gcd_comm, Int.natCast_ediv, Int.natAbs_of_nonneg (by omega)]
theorem rat_eq (q : Rat) : (q.num : Rat) / ((q.den : Int) : Rat) = q := by
  rw [← Rat.divInt_eq_div]; exact Rat.num_divInt_den q
/-- what bounds a fraction's parts -/
def Bq (A B : Nat) (q : Rat) : Prop := q.num.natAbs ≤ A ∧ q.den ≤ B
theorem bq_of {a b : Int} {A B : Nat} (hb : 0 < b) (ha : a.natAbs ≤ A) (hb2 : b ≤ B) : Bq A B ((a : Rat) / (b : Rat)) := by
  constructor
  · rw [rat_num hb]
    exact Nat.le_trans (Int.natAbs_ediv_le_natAbs _ _) ha
  · have e := rat_den (a := a) hb
    have : b / (Int.gcd a b : Int) ≤ b := Int.ediv_le_self _ (by omega)
    omega
end Pm

/-! Mw: rules for plain reading that can be used by rw. -/
namespace Pm
open PySem
theorem mSq_nx {u v : MS} {ρ ρ1 : PE0} (h : u ρ = .nx ρ1) : mSq u v ρ = v ρ1 := by rw [mSq_eq, h]
theorem lcGo_T {α : Type} (enc : α → D) {vs : List Nat} {mg : MG} {mt : MT} {me : ME} {ρ : PE0} (b : α → Bool) (f : α → D) : ∀ (as : List α), (∀ a ∈ as, ∃ ρ1, mg (enc a) (wipeP vs ρ) = some ρ1 ∧ mt ρ1 = .ok (b a) ρ1 ∧ (b a = true → me ρ1 = .ok (f a) ρ1) ∧ wipeP vs ρ1 = wipeP vs ρ) →
    ∀ ρ', wipeP vs ρ' = wipeP vs ρ → ∃ ρ2, lcGo vs mg mt me (as.map enc) ρ' = .ok ((as.filter b).map f) ρ2 ∧ wipeP vs ρ2 = wipeP vs ρ
  | [], _, ρ', e => ⟨ρ', rfl, e⟩
  | a :: as, h, ρ', e => by
    obtain ⟨ρ1, h1, h2, h3, h4⟩ := h a List.mem_cons_self
    obtain ⟨ρ2, i1, i2⟩ := lcGo_T enc b f as (fun x hx => h x (List.mem_cons_of_mem _ hx)) ρ1 h4
    rw [List.map_cons]
    unfold lcGo
    rw [e, h1]
    dsimp only
    rw [h2, Re.bind_ok]
    cases hb : b a with
    | true =>
      rw [if_pos rfl, h3 hb, Re.bind_ok, i1, Re.bind_ok]
      exact ⟨ρ2, by rw [List.filter_cons, if_pos hb]; rfl, i2⟩
    | false =>
      rw [if_neg Bool.false_ne_true]
      exact ⟨ρ2, by rw [List.filter_cons, if_neg (by rw [hb]; exact Bool.false_ne_true)]; exact i1, i2⟩
theorem mLcT {α : Type} (enc : α → D) {vs : List Nat} {mi : MA} {mg : MG} {mt : MT} {me : ME} {ρ ρ0 : PE0} {as : List α} (b : α → Bool) (f : α → D) (hi : mi ρ0 = .ok (as.map enc) ρ) (hp : plainAt vs ρ = true)
    (h : ∀ a ∈ as, ∃ ρ1, mg (enc a) (wipeP vs ρ) = some ρ1 ∧ mt ρ1 = .ok (b a) ρ1 ∧ (b a = true → me ρ1 = .ok (f a) ρ1) ∧ wipeP vs ρ1 = wipeP vs ρ) : mLc vs mi mg mt me ρ0 = .ok (.l ((as.filter b).map f)) ρ := by
  obtain ⟨ρ2, h1, h2⟩ := lcGo_T enc b f as h ρ rfl
  unfold mLc
  rw [hi, Re.bind_ok, if_pos hp, h1, Re.bind_ok, h2, back_wipe]
section
variable {α : Type} (enc : α → D) {i j : Nat} {mi : MA} {mt : MT} {me : ME} {ρ : PE0} (as : List α) (b : α → Bool) (f : α → D)
/-- one name, a test -/
theorem lc1 (hi : mi ρ = .ok (as.map enc) ρ) (hp : plainAt [i] ρ = true) (hl : i < ρ.length) (h : ∀ a ∈ as, mt (ρ.set i (.v (enc a))) = .ok (b a) (ρ.set i (.v (enc a))) ∧ (b a = true → me (ρ.set i (.v (enc a))) = .ok (f a) (ρ.set i (.v (enc a))))) :
    mLc [i] mi (gSet i) mt me ρ = .ok (.l ((as.filter b).map f)) ρ := by
  refine mLcT enc b f hi hp fun a ha => ⟨ρ.set i (.v (enc a)), ?_, (h a ha).1, (h a ha).2, ?_⟩
  · show (if i < (ρ.set i .un).length then some ((ρ.set i .un).set i (.v (enc a))) else none) = _
    rw [if_pos (by rw [List.length_set]; exact hl), List.set_set]
  · show (ρ.set i (.v (enc a))).set i .un = ρ.set i .un
    rw [List.set_set]
/-- one name, no test -/
theorem lc1' (hi : mi ρ = .ok (as.map enc) ρ) (hp : plainAt [i] ρ = true) (hl : i < ρ.length) (h : ∀ a ∈ as, me (ρ.set i (.v (enc a))) = .ok (f a) (ρ.set i (.v (enc a)))) :
    mLc [i] mi (gSet i) mYes me ρ = .ok (.l (as.map f)) ρ := by
  have z := lc1 (mt := mYes) enc as (fun _ => true) f hi hp hl fun a ha => ⟨rfl, fun _ => h a ha⟩
  rw [List.filter_eq_self.mpr fun _ _ => rfl] at z
  exact z
/-- a pair of names, a test -/
theorem lc2 (e1 e2 : α → D) (he : ∀ a, enc a = .tuple [e1 a, e2 a]) (hij : i ≠ j) (hi : mi ρ = .ok (as.map enc) ρ) (hp : plainAt [i, j] ρ = true) (hl : i < ρ.length ∧ j < ρ.length)
    (h : ∀ a ∈ as, mt ((ρ.set i (.v (e1 a))).set j (.v (e2 a))) = .ok (b a) ((ρ.set i (.v (e1 a))).set j (.v (e2 a))) ∧ (b a = true → me ((ρ.set i (.v (e1 a))).set j (.v (e2 a))) = .ok (f a) ((ρ.set i (.v (e1 a))).set j (.v (e2 a))))) :
    mLc [i, j] mi (gTupM 2 (gsCons (gSet i) (gsCons (gSet j) gsNil))) mt me ρ = .ok (.l ((as.filter b).map f)) ρ := by
  refine mLcT enc b f hi hp fun a ha => ⟨(ρ.set i (.v (e1 a))).set j (.v (e2 a)), ?_, (h a ha).1, (h a ha).2, ?_⟩
  · have z : wipeP [i, j] ρ = (ρ.set j .un).set i .un := rfl
    rw [he, z]
    simp only [gTupM_eq, List.length_cons, List.length_nil, gsCons_eq, gSet_eq, gsNil_eq, List.length_set, hl.1, hl.2, if_true, Option.bind_some, Nat.zero_add, Nat.reduceAdd, List.set_set]
    rw [List.set_comm _ _ hij, List.set_set, List.set_comm _ _ hij.symm]
  · show (((ρ.set i (.v (e1 a))).set j (.v (e2 a))).set j .un).set i .un = (ρ.set j .un).set i .un
    rw [List.set_set, List.set_comm _ _ hij, List.set_set]
theorem lc2' (e1 e2 : α → D) (he : ∀ a, enc a = .tuple [e1 a, e2 a]) (hij : i ≠ j) (hi : mi ρ = .ok (as.map enc) ρ) (hp : plainAt [i, j] ρ = true) (hl : i < ρ.length ∧ j < ρ.length)
    (h : ∀ a ∈ as, me ((ρ.set i (.v (e1 a))).set j (.v (e2 a))) = .ok (f a) ((ρ.set i (.v (e1 a))).set j (.v (e2 a)))) :
    mLc [i, j] mi (gTupM 2 (gsCons (gSet i) (gsCons (gSet j) gsNil))) mYes me ρ = .ok (.l (as.map f)) ρ := by
  have z := lc2 (mt := mYes) enc as (fun _ => true) f e1 e2 he hij hi hp hl fun a ha => ⟨rfl, fun _ => h a ha⟩
  rw [List.filter_eq_self.mpr fun _ _ => rfl] at z
  exact z
end
/-! ### loops whose slots are told by what was walked -/
def lastS (x : Sl) (ds : List D) : Sl := match ds.getLast? with
  | some d => .v d
  | none => x
theorem forP_go {α : Type} (enc : α → D) (E : List α → Sl → PE0) (as : List α) {mg : MG} {mb : MS} (hg : ∀ pre x a, mg (enc a) (E pre x) = some (E pre (.v (enc a)))) (hb : ∀ pre a post, pre ++ a :: post = as → mb (E pre (.v (enc a))) = .nx (E (pre ++ [a]) (.v (enc a)))) :
    ∀ (rest pre : List α) (x : Sl), pre ++ rest = as → forGo mg mb (rest.map enc) (E pre x) = .nx (E as (lastS x (rest.map enc)))
  | [], pre, x, h => by
    rw [List.append_nil] at h
    subst h
    rfl
  | a :: rest, pre, x, h => by
    have step : forGo mg mb ((a :: rest).map enc) (E pre x) = forGo mg mb (rest.map enc) (E (pre ++ [a]) (.v (enc a))) := by
      rw [List.map_cons]
      conv => lhs; unfold forGo
      rw [hg]
      dsimp only
      rw [hb pre a rest h]
    rw [step, forP_go enc E as hg hb rest (pre ++ [a]) (.v (enc a)) (by rw [List.append_assoc]; exact h)]
    congr 2
    unfold lastS
    cases rest with
    | nil => rfl
    | cons b r =>
      have e : (enc a :: List.map enc (b :: r)).getLast? = (List.map enc (b :: r)).getLast? := by rw [List.map_cons, List.getLast?_cons_cons]
      rw [List.map_cons (a := a), e]
      cases hq : (List.map enc (b :: r)).getLast? with
      | none => simp at hq
      | some d => rfl
theorem forP {α : Type} (enc : α → D) (E : List α → Sl → PE0) (as : List α) (x0 : Sl) {mg : MG} {mb : MS} {ds : List D} {ρ0 : PE0} (hd : ds = as.map enc) (h0 : ρ0 = E [] x0) (hg : ∀ pre x a, mg (enc a) (E pre x) = some (E pre (.v (enc a))))
    (hb : ∀ pre a post, pre ++ a :: post = as → mb (E pre (.v (enc a))) = .nx (E (pre ++ [a]) (.v (enc a)))) : forGo mg mb ds ρ0 = .nx (E as (lastS x0 ds)) := by
  subst hd h0
  exact forP_go enc E as hg hb as [] x0 rfl
/-- the same with two names that are walked -/
def last2 (x : Sl × Sl) (ps : List (D × D)) : Sl × Sl := match ps.getLast? with
  | some p => (.v p.1, .v p.2)
  | none => x
theorem forP2_go {α : Type} (enc e1 e2 : α → D) (E : List α → Sl → Sl → PE0) (as : List α) {mg : MG} {mb : MS} (hg : ∀ pre x y a, mg (enc a) (E pre x y) = some (E pre (.v (e1 a)) (.v (e2 a)))) (hb : ∀ pre a post, pre ++ a :: post = as → mb (E pre (.v (e1 a)) (.v (e2 a))) = .nx (E (pre ++ [a]) (.v (e1 a)) (.v (e2 a)))) :
    ∀ (rest pre : List α) (x y : Sl), pre ++ rest = as → forGo mg mb (rest.map enc) (E pre x y) = .nx (E as (last2 (x, y) (rest.map fun a => (e1 a, e2 a))).1 (last2 (x, y) (rest.map fun a => (e1 a, e2 a))).2)
  | [], pre, x, y, h => by
    rw [List.append_nil] at h
    subst h
    rfl
  | a :: rest, pre, x, y, h => by
    have step : forGo mg mb ((a :: rest).map enc) (E pre x y) = forGo mg mb (rest.map enc) (E (pre ++ [a]) (.v (e1 a)) (.v (e2 a))) := by
      rw [List.map_cons]
      conv => lhs; unfold forGo
      rw [hg]
      dsimp only
      rw [hb pre a rest h]
    rw [step, forP2_go enc e1 e2 E as hg hb rest (pre ++ [a]) (.v (e1 a)) (.v (e2 a)) (by rw [List.append_assoc]; exact h)]
    have : last2 (Sl.v (e1 a), Sl.v (e2 a)) (rest.map fun a => (e1 a, e2 a)) = last2 (x, y) ((a :: rest).map fun a => (e1 a, e2 a)) := by
      unfold last2
      cases rest with
      | nil => rfl
      | cons b r =>
        have e : ((e1 a, e2 a) :: List.map (fun a => (e1 a, e2 a)) (b :: r)).getLast? = (List.map (fun a => (e1 a, e2 a)) (b :: r)).getLast? := by rw [List.map_cons, List.getLast?_cons_cons]
        rw [List.map_cons (a := a), e]
        cases hq : (List.map (fun a => (e1 a, e2 a)) (b :: r)).getLast? with
        | none => simp at hq
        | some d => rfl
    rw [this]
theorem forP2 {α : Type} (enc e1 e2 : α → D) (E : List α → Sl → Sl → PE0) (as : List α) (x0 y0 : Sl) {mg : MG} {mb : MS} {ds : List D} {ρ0 : PE0} (hd : ds = as.map enc) (h0 : ρ0 = E [] x0 y0) (hg : ∀ pre x y a, mg (enc a) (E pre x y) = some (E pre (.v (e1 a)) (.v (e2 a))))
    (hb : ∀ pre a post, pre ++ a :: post = as → mb (E pre (.v (e1 a)) (.v (e2 a))) = .nx (E (pre ++ [a]) (.v (e1 a)) (.v (e2 a)))) : ∃ x y, forGo mg mb ds ρ0 = .nx (E as x y) := by
  subst hd h0
  exact ⟨_, _, forP2_go enc e1 e2 E as hg hb as [] x0 y0 rfl⟩
/-- whatever else changes is a state of its own -/
theorem forF_go {α β : Type} (enc : α → D) (E : List α → β → PE0) (X : β → α → β) (as : List α) {mg : MG} {mb : MS} (hb : ∀ pre a post e, pre ++ a :: post = as → (match mg (enc a) (E pre e) with | some ρ1 => mb ρ1 | none => .bad) = .nx (E (pre ++ [a]) (X e a))) :
    ∀ (rest pre : List α) (e : β), pre ++ rest = as → forGo mg mb (rest.map enc) (E pre e) = .nx (E as (rest.foldl X e))
  | [], pre, e, h => by
    rw [List.append_nil] at h
    subst h
    rfl
  | a :: rest, pre, e, h => by
    have z := hb pre a rest e h
    rw [List.map_cons, List.foldl_cons]
    unfold forGo
    cases q : mg (enc a) (E pre e) with
    | none => rw [q] at z; cases z
    | some ρ1 =>
      rw [q] at z
      dsimp only at z ⊢
      rw [z]
      exact forF_go enc E X as hb rest (pre ++ [a]) (X e a) (by rw [List.append_assoc]; exact h)
theorem forF {α β : Type} (enc : α → D) (E : List α → β → PE0) (X : β → α → β) (as : List α) (e0 : β) {mg : MG} {mb : MS} {ds : List D} {ρ0 : PE0} (hd : ds = as.map enc) (h0 : ρ0 = E [] e0)
    (hb : ∀ pre a post e, pre ++ a :: post = as → (match mg (enc a) (E pre e) with | some ρ1 => mb ρ1 | none => .bad) = .nx (E (pre ++ [a]) (X e a))) : forGo mg mb ds ρ0 = .nx (E as (as.foldl X e0)) := by
  subst hd h0
  exact forF_go enc E X as hb as [] e0 rfl
@[simp] theorem ps0_5 (n : Nat) (a b c d e : D) : ps0 n [a, b, c, d, e] = .v a :: .v b :: .v c :: .v d :: .v e :: List.replicate (n - 5) Sl.un := rfl
/-! ### subscripts -/
theorem ixT_at {ds : List D} {n : Nat} {d : D} (h : ds[n]? = some d) : ixD (.tuple ds) (.int n) = some d := L2.atI_nat h
theorem ixL_at {ds : List D} {n : Nat} {d : D} (h : ds[n]? = some d) : ixD (.list ds) (.int n) = some d := L2.atI_nat h
@[simp] theorem listO_l (ds : List D) : listO [.list ds] = some (.l ds) := rfl
@[simp] theorem listO_t (ds : List D) : listO [.tuple ds] = some (.l ds) := rfl
theorem addD_tup {a b : List D} (h : a.length + b.length ≤ 100000) : addD (.tuple a) (.tuple b) = some (.tuple (a ++ b)) := if_pos (by rw [sizeLine_eq]; omega)
theorem addD_list {a b : List D} (h : a.length + b.length ≤ 100000) : addD (.list a) (.list b) = some (.list (a ++ b)) := if_pos (by rw [sizeLine_eq]; omega)
theorem extD_l {a b : List D} (h : a.length + b.length ≤ 100000) : extD a [.list b] = some (a ++ b) := if_pos (by rw [sizeLine_eq]; omega)
theorem appD_d {a : List D} {d : D} (h : a.length < 100000) : appD a [d] = some (a ++ [d]) := if_pos (by rw [sizeLine_eq]; omega)
end Pm

namespace Pm
open PySem
open PySem
theorem roll_ok {k : Nat} {c : List D} {t : Int} (h : Dc k c) (hk : k ≤ 1000000) (h0 : 0 < t) (h1 : t < 2147483648) : ∃ v c', F__law_roll c [.int t] = .ok (.int v) c' ∧ 0 ≤ v ∧ v < t ∧ Dc (k + 1) c' := by
  obtain ⟨a, b, n, rfl, ha, hb, hb2, hn, hn2⟩ := h
  by_cases z : 0 < a
  · have e1 := modI_int (i := a) h0
    have e2 := divI_int (i := a) h0 (by omega)
    refine ⟨a % t, [.int (a / t), .int b, .int n], ?_, Int.emod_nonneg _ (by omega), Int.emod_lt_of_pos _ h0, a / t, b, n, rfl, Int.ediv_nonneg ha (by omega), hb, hb2, hn, by omega⟩
    simp [F__law_roll, m__law_roll, z, e1, e2]
  · have m1 := mulI_int (i := b) (j := 52501) (by omega) (by decide)
    have nn : (n + 1) * (n + 1) ≤ 1000001 * 1000001 := Int.mul_le_mul (by omega) (by omega) (by omega) (by omega)
    have nn0 : 0 ≤ (n + 1) * (n + 1) := Int.mul_nonneg (by omega) (by omega)
    have m2 := mulI_int (i := n + 1) (j := n + 1) (by omega) (by omega)
    have m3 := mulI_int (i := (n + 1) * (n + 1)) (j := 1009) (by omega) (by decide)
    generalize hs : b * 52501 + (n + 1) * (n + 1) * 1009 + 77 = s
    have e1 := modI_int (i := s) (j := 2147480009) (by decide)
    have e2 := divI_int (i := s % 2147480009) (j := 211) (by decide) (by decide)
    have e3 := modI_int (i := s % 2147480009 / 211) h0
    have g1 : 0 ≤ s % 2147480009 := Int.emod_nonneg _ (by decide)
    have g2 : s % 2147480009 < 2147480009 := Int.emod_lt_of_pos _ (by decide)
    refine ⟨s % 2147480009 / 211 % t, [.int a, .int (s % 2147480009), .int (n + 1)], ?_, Int.emod_nonneg _ (by omega), Int.emod_lt_of_pos _ h0, a, _, n + 1, rfl, ha, g1, g2, by omega, by omega⟩
    simp [F__law_roll, m__law_roll, z, m1, m2, m3, hs, e1, e2, e3]
theorem pick_ok {k : Nat} {c ds : List D} (h : Dc k c) (hk : k ≤ 1000000) (h0 : ds ≠ []) (h1 : ds.length < 1000000) : ∃ d c', d ∈ ds ∧ F__law_pick c [.list ds] = .ok d c' ∧ Dc (k + 1) c' := by
  have hl : 0 < ds.length := List.length_pos_iff.mpr h0
  obtain ⟨v, c', e, v0, v1, hc⟩ := roll_ok (t := (ds.length : Int)) h hk (by omega) (by omega)
  obtain ⟨d, hd, ix, _⟩ := ix_at v0 v1
  refine ⟨d, c', hd, ?_, hc⟩
  simp [F__law_pick, m__law_pick, e, ix]
@[simp] theorem kwG_one (x : D) : kwG [0] [] [x] = [x] := rfl
open PySem
theorem scrAt_0 {ns : List Int} (hl : ns.length ≤ 63) (r : PE0) : scrAt 0 (.scr ns :: r) = some ns := by
  show (if ns.length ≤ 1000 then some ns else none) = some ns
  rw [if_pos (by omega)]
section
variable {ns : List Int} (hl : ns.length ≤ 63) (r : PE0)
include hl
theorem scrLen_0 : mScrLen 0 (.scr ns :: r) = .ok (.int ns.length) (.scr ns :: r) := by
  unfold mScrLen
  rw [scrAt_0 hl]
theorem scrIx_0 (m : ME) : mScrIx 0 m (.scr ns :: r) = (m (.scr ns :: r)).bind fun d ρ1 => Re.opt (ixD (.list (ns.map .int)) d) ρ1 := by
  unfold mScrIx
  rw [scrAt_0 hl]
theorem scrCut_0 (ml mh : PE0 → Re (Option Int)) : mScrCut 0 ml mh (.scr ns :: r) = (ml (.scr ns :: r)).bind fun lo ρ2 => (mh ρ2).bind fun hi ρ3 => .ok (.list (cutD (ns.map .int) lo hi)) ρ3 := by
  unfold mScrCut
  rw [scrAt_0 hl]
theorem right_0 (Fd : List Int → D → Option (List D)) (Fr : List D → List D → OutD) (m : ME) : mRight Fd Fr 0 m (.scr ns :: r) = (m (.scr ns :: r)).bind fun d ρ1 => (match Fd ns d with | some c => (match Fr c [] with | .ok r _ => .ok r ρ1 | _ => .bad) | none => .bad) := by
  unfold mRight
  rw [scrAt_0 hl]
  all_goals rfl
end
theorem cut_ints (ns : List Int) (lo hi : Option Int) : ∃ ms : List Int, cutD (ns.map .int) lo hi = ms.map .int ∧ ms.length ≤ ns.length := by
  refine ⟨(ns.drop (HT.sIx ns.length 0 lo)).take (HT.sIx ns.length ns.length hi - HT.sIx ns.length 0 lo), ?_, ?_⟩
  · unfold cutD
    rw [List.length_map, List.map_take, List.map_drop]
  · rw [List.length_take, List.length_drop]
    omega
theorem dice_ok {ns : List Int} {spot : Int} (hl : ns.length ≤ 63) (h0 : 0 ≤ spot) (h1 : spot ≤ 100) : ∃ c, F__law_dice ns (.int spot) = some c ∧ Dc 0 c := by
  -- the own number
  obtain ⟨own, eO⟩ : ∃ own : Int, ∀ a b c : Sl, mIf (tCmpM ltI (mVar 1) (mScrLen 0)) (mScrIx 0 (mVar 1)) (mOp2 addD (mOp2 mulI (mC (.int 733)) (mVar 1)) (mC (.int 29))) [.scr ns, .v (.int spot), a, b, c] = .ok (.int own) [.scr ns, .v (.int spot), a, b, c] := by
    by_cases z : spot < ns.length
    · obtain ⟨d, hd, ix, _⟩ := ix_at (ds := ns.map .int) h0 (by rw [List.length_map]; exact z)
      obtain ⟨own, _, rfl⟩ := List.mem_map.mp hd
      exact ⟨own, fun a b c => by simp [scrLen_0 hl, scrIx_0 hl, z, ix]⟩
    · have hm := mulI_int (i := 733) (j := spot) (by decide) (by omega)
      exact ⟨733 * spot + 29, fun a b c => by simp [scrLen_0 hl, z, hm]⟩
  have hm2 := mulI_int (i := 7907) (j := spot) (by decide) (by omega)
  obtain ⟨ms, em, hml⟩ := cut_ints ns none (some 6)
  have hsz : ms.length + 1 ≤ sizeLine := by rw [sizeLine_eq]; omega
  -- the loop
  generalize hmb : mSt 3 (mOp2 modI (mCallB intD (mCons (mOp2 addD (mOp2 mulI (mVar 3) (mC (.int 48271))) (mOp2 modI (mCallB intD (mCons (mVar 4) mNil)) (mC (.int 2147480009)))) mNil)) (mC (.int 2147480009))) = mb
  have loop := forGo_rel (mg := gSet 4) (mb := mb) (fun pre ρ => ∃ b s, ρ = [.scr ns, .v (.int spot), .v (.int own), .v (.int b), s] ∧ 0 ≤ b ∧ b < 2147480009) (ms.map PyData.int ++ [.int own]) (ms.map PyData.int ++ [.int own]) [] [.scr ns, .v (.int spot), .v (.int own), .v (.int (910003 + 7907 * spot)), .un] rfl ⟨_, .un, rfl, by omega, by omega⟩ (fun pre x post ρ hp hI => by
    obtain ⟨b, s, rfl, b0, b1⟩ := hI
    obtain ⟨y, rfl⟩ : ∃ y : Int, x = .int y := by
      have hx := mem_mid hp
      rcases List.mem_append.mp hx with hx | hx
      · obtain ⟨y, _, rfl⟩ := List.mem_map.mp hx; exact ⟨y, rfl⟩
      · exact ⟨own, by simpa using hx⟩
    have m1 := mulI_int (i := b) (j := 48271) (by omega) (by decide)
    have m2 := modI_int (i := y) (j := 2147480009) (by decide)
    generalize hs : b * 48271 + y % 2147480009 = s1
    have m3 := modI_int (i := s1) (j := 2147480009) (by decide)
    refine ⟨[.scr ns, .v (.int spot), .v (.int own), .v (.int b), .v (.int y)], [.scr ns, .v (.int spot), .v (.int own), .v (.int (s1 % 2147480009)), .v (.int y)], by simp, ?_, _, _, rfl, Int.emod_nonneg _ (by decide), Int.emod_lt_of_pos _ (by decide)⟩
    subst hmb
    simp [m1, m2, hs, m3])
  obtain ⟨ρ2, e2, b, s, rfl, b0, b1⟩ := loop
  have hpow : powI (.int 10) (.int 16) = some (.int 10000000000000000) := rfl
  obtain ⟨a, ha, ea⟩ : ∃ a : Int, 0 ≤ a ∧ ∀ ρ : PE0, ρ[2]? = some (.v (.int own)) → mIf (mOrT (tCmpM ltI (mVar 2) (mC (.int 0))) (tCmpM geI (mVar 2) (mOp2 powI (mC (.int 10)) (mC (.int 16))))) (mCallB absI (mCons (mVar 2) mNil)) (mC (.int 0)) ρ = .ok (.int a) ρ := by
    by_cases z : own < 0
    · exact ⟨ab own, by unfold ab; rw [if_pos z]; omega, fun ρ h => by simp [h, z]⟩
    · by_cases y : (10000000000000000 : Int) ≤ own
      · exact ⟨ab own, by unfold ab; rw [if_neg z]; omega, fun ρ h => by simp [h, z, hpow, y]⟩
      · exact ⟨0, by decide, fun ρ h => by simp [h, z, hpow, y]⟩
  refine ⟨[.int a, .int b, .int 0], ?_, a, b, 0, rfl, ha, b0, b1, by decide, by decide⟩
  subst hmb
  have st : ∀ {u v : MS} {ρ ρ1 : PE0}, u ρ = .nx ρ1 → mSq u v ρ = v ρ1 := fun h => mSq_nx h
  show outF (m__law_dice [.scr ns, .v (.int spot), .un, .un, .un]) = _
  unfold m__law_dice
  refine (congrArg outF (st (ρ1 := [.scr ns, .v (.int spot), .v (.int own), .un, .un]) ?_)).trans ?_
  · rw [mSt_eq, eO]; rfl
  refine (congrArg outF (st (ρ1 := [.scr ns, .v (.int spot), .v (.int own), .v (.int (910003 + 7907 * spot)), .un]) ?_)).trans ?_
  · simp [hm2]
  refine (congrArg outF (st (ρ1 := [.scr ns, .v (.int spot), .v (.int own), .v (.int b), s]) ?_)).trans ?_
  · simp [scrCut_0 hl, em, addD, hsz, e2]
  · rw [mRetO_eq, mLst_eq, mCons_eq, ea _ rfl]
    simp [outF]
end Pm

namespace Pm
open PySem
theorem ab_nat (a : Int) : ab a = (a.natAbs : Int) := by unfold ab; split <;> omega
theorem gcd_ab (a b : Int) : Int.gcd (ab a) b = Int.gcd a b := by rw [ab_nat]; unfold Int.gcd; rw [Int.natAbs_natCast]
theorem log_le {n k : Nat} (h : n < 2 ^ k) : n.log2 ≤ k := by
  by_cases z : n = 0
  · subst z; simp
  · exact Nat.le_of_lt ((Nat.log2_lt z).mpr h)
theorem mulI_w {i j : Int} {a b : Nat} (hi : i.natAbs < 2 ^ a) (hj : j.natAbs < 2 ^ b) (h : a + b ≤ 8000) : mulI (.int i) (.int j) = some (.int (i * j)) := by
  have := log_le hi
  have := log_le hj
  exact if_pos (by omega)
theorem divI_w {i j : Int} {b : Nat} (h0 : 0 < j) (hj : j.natAbs < 2 ^ b) (h : b ≤ 8000) : divI (.int i) (.int j) = some (.int (i / j)) := by
  have := log_le hj
  exact if_pos ⟨h0, by omega⟩
theorem common_ok {k : Nat} {a b : Int} (ha : 0 ≤ a) (hb : 0 ≤ b) (hb2 : b < 2 ^ k) (hk : k ≤ 8000) : F_common [.int a, .int b] = .ok (.int (Int.gcd a b)) := by
  have e := whGcd (C := tCmpM gtI (mVar 1) (mC (.int 0))) (B := mPar 0 1 (mCons (mVar 1) (mCons (mOp2 modI (mVar 0) (mVar 1)) mNil))) (fun x y => [.v (.int x), .v (.int y)]) (fun x y => by simp) (fun x y h => by simp [modI_int h]) k 100000 a b ha hb hb2 (by omega)
  simp [F_common, m_common, e]
theorem gcd_pos {a b : Int} (hb : 0 < b) : (0 : Int) < (Int.gcd a b : Int) := by
  have := Int.gcd_pos_of_ne_zero_right a (show b ≠ 0 by omega)
  omega
theorem gcd_le {a b : Int} (hb : 0 < b) : (Int.gcd a b : Int) ≤ b := Int.gcd_le_right a hb
theorem qd_of {a b : Int} (hb : 0 < b) : (.tuple [.int (a / (Int.gcd a b : Int)), .int (b / (Int.gcd a b : Int))] : D) = qd ((a : Rat) / (b : Rat)) := by
  unfold qd
  rw [rat_num hb, rat_den hb]
theorem abs_lt {b : Int} {k : Nat} (h0 : 0 < b) (h : b.natAbs < 2 ^ k) : b < 2 ^ k := by
  have e : ((2 ^ k : Nat) : Int) = 2 ^ k := by rw [Int.natCast_pow]; rfl
  rw [← e]
  omega
theorem fraction_ok {k : Nat} {a b : Int} (hb : 0 < b) (hb2 : b.natAbs < 2 ^ k) (hk : k ≤ 8000) : F_fraction [.int a, .int b] = .ok (qd ((a : Rat) / (b : Rat))) := by
  have c := common_ok (a := ab a) (b := b) (by rw [ab_nat]; omega) (by omega) (abs_lt hb hb2) hk
  rw [gcd_ab] at c
  have g0 := gcd_pos (a := a) hb
  have g1 := gcd_le (a := a) hb
  have d1 := divI_w (i := a) (b := k) g0 (by omega) hk
  have d2 := divI_w (i := b) (b := k) g0 (by omega) hk
  rw [← qd_of hb]
  simp [F_fraction, m_fraction, c, d1, d2]
-- no even
theorem qd_int (i : Int) : qd (i : Rat) = .tuple [.int i, .int 1] := by
  unfold qd
  rw [Rat.num_intCast, Rat.den_intCast]
  rfl
theorem den0 (q : Rat) : (0 : Int) < q.den := by have := q.den_pos; omega
theorem rne {a : Int} (h : 0 < a) : (a : Rat) ≠ 0 := by
  intro e
  have := Rat.intCast_eq_zero_iff.mp e
  omega
theorem mul_q (p q : Rat) : ((p.num * q.num : Int) : Rat) / ((p.den * q.den : Int) : Rat) = p * q := by
  have h1 := rne (den0 p)
  have h2 := rne (den0 q)
  conv => rhs; rw [← rat_eq p, ← rat_eq q]
  rw [Rat.intCast_mul, Rat.intCast_mul]
  grind
theorem add_q (p q : Rat) : ((p.num * q.den + q.num * p.den : Int) : Rat) / ((p.den * q.den : Int) : Rat) = p + q := by
  have h1 := rne (den0 p)
  have h2 := rne (den0 q)
  conv => rhs; rw [← rat_eq p, ← rat_eq q]
  rw [Rat.intCast_add, Rat.intCast_mul, Rat.intCast_mul, Rat.intCast_mul]
  grind
/-- both parts below 2^k -/
def Bk (k : Nat) (q : Rat) : Prop := q.num.natAbs < 2 ^ k ∧ q.den < 2 ^ k
theorem bk_of {a b : Int} {k : Nat} (hb : 0 < b) (ha : a.natAbs < 2 ^ k) (hb2 : b.natAbs < 2 ^ k) : Bk k ((a : Rat) / (b : Rat)) := by
  constructor
  · rw [rat_num hb]
    exact Nat.lt_of_le_of_lt (Int.natAbs_ediv_le_natAbs _ _) ha
  · have e := rat_den (a := a) hb
    have : b / (Int.gcd a b : Int) ≤ b := Int.ediv_le_self _ (by omega)
    omega
theorem pw_mul {a b i j : Nat} (h1 : a < 2 ^ i) (h2 : b < 2 ^ j) : a * b < 2 ^ (i + j) := by
  rw [Nat.pow_add]
  exact Nat.mul_lt_mul'' h1 h2
theorem Bk.mono {k l : Nat} {q : Rat} (h : Bk k q) (hl : k ≤ l) : Bk l q := ⟨Nat.lt_of_lt_of_le h.1 (Nat.pow_le_pow_right (by decide) hl), Nat.lt_of_lt_of_le h.2 (Nat.pow_le_pow_right (by decide) hl)⟩
theorem nab_mul (p q : Rat) : ((p.den : Int) * q.den).natAbs = p.den * q.den := by rw [Int.natAbs_mul, Int.natAbs_natCast, Int.natAbs_natCast]
theorem Bk.mul {k l : Nat} {p q : Rat} (hp : Bk k p) (hq : Bk l q) : Bk (k + l) (p * q) := by
  rw [← mul_q]
  exact bk_of (Int.mul_pos (den0 p) (den0 q)) (by rw [Int.natAbs_mul]; exact pw_mul hp.1 hq.1) (by rw [nab_mul]; exact pw_mul hp.2 hq.2)
theorem Bk.add {k l : Nat} {p q : Rat} (hp : Bk k p) (hq : Bk l q) : Bk (k + l + 1) (p + q) := by
  rw [← add_q]
  have e1 : (p.num * q.den).natAbs < 2 ^ (k + l) := by rw [Int.natAbs_mul, Int.natAbs_natCast]; exact pw_mul hp.1 hq.2
  have e2 : (q.num * p.den).natAbs < 2 ^ (k + l) := by rw [Int.natAbs_mul, Int.natAbs_natCast, Nat.add_comm]; exact pw_mul hq.1 hp.2
  have e3 : ((p.den : Int) * q.den).natAbs < 2 ^ (k + l) := by rw [nab_mul]; exact pw_mul hp.2 hq.2
  have e4 : 2 ^ (k + l + 1) = 2 ^ (k + l) * 2 := Nat.pow_succ 2 (k + l)
  exact bk_of (Int.mul_pos (den0 p) (den0 q)) (by omega) (by omega)
theorem multiplied_ok {k l : Nat} {p q : Rat} (hp : Bk k p) (hq : Bk l q) (h : k + l ≤ 7000) : F_multiplied [qd p, qd q] = .ok (qd (p * q)) := by
  have m1 := mulI_w (i := p.num) (j := q.num) hp.1 hq.1 (by omega)
  have m2 := mulI_w (i := p.den) (j := q.den) (a := k) (b := l) hp.2 hq.2 (by omega)
  have f := fraction_ok (k := k + l) (a := p.num * q.num) (b := p.den * q.den) (Int.mul_pos (den0 p) (den0 q)) (by rw [nab_mul]; exact pw_mul hp.2 hq.2) (by omega)
  rw [mul_q] at f
  unfold qd
  simp [F_multiplied, m_multiplied, m1, m2, f]
  rfl
theorem added_ok {k l : Nat} {p q : Rat} (hp : Bk k p) (hq : Bk l q) (h : k + l ≤ 7000) : F_added [qd p, qd q] = .ok (qd (p + q)) := by
  have m1 := mulI_w (i := p.num) (j := q.den) (a := k) (b := l) hp.1 hq.2 (by omega)
  have m3 := mulI_w (i := q.num) (j := p.den) (a := l) (b := k) hq.1 hp.2 (by omega)
  have m2 := mulI_w (i := p.den) (j := q.den) (a := k) (b := l) hp.2 hq.2 (by omega)
  have f := fraction_ok (k := k + l) (a := p.num * q.den + q.num * p.den) (b := p.den * q.den) (Int.mul_pos (den0 p) (den0 q)) (by rw [nab_mul]; exact pw_mul hp.2 hq.2) (by omega)
  rw [add_q] at f
  unfold qd
  simp [F_added, m_added, m1, m2, m3, f]
  rfl
theorem is_less_ok {k l : Nat} {p q : Rat} (hp : Bk k p) (hq : Bk l q) (h : k + l ≤ 7000) : F_is_less [qd p, qd q] = .ok (.bool (decide (p < q))) := by
  have m1 := mulI_w (i := p.num) (j := q.den) (a := k) (b := l) hp.1 hq.2 (by omega)
  have m3 := mulI_w (i := q.num) (j := p.den) (a := l) (b := k) hq.1 hp.2 (by omega)
  have e : decide (p < q) = decide (p.num * q.den < q.num * p.den) := by rw [Bool.eq_iff_iff, decide_eq_true_eq, decide_eq_true_eq]; exact Rat.lt_iff p q
  rw [e]
  unfold qd
  simp [F_is_less, m_is_less, m1, m3]
theorem qd_inj {p q : Rat} (h : qd p = qd q) : p = q := by
  unfold qd at h
  injection h with h
  injection h with h1 h2
  injection h2 with h2
  injection h1 with h1
  injection h2 with h2
  exact Rat.ext h1 (Int.ofNat_inj.mp h2)
theorem sh_qd (q : Rat) : Sh 1 (qd q) := ⟨rfl, by show PyData.depth (.tuple [.int q.num, .int q.den]) ≤ 1; simp [PyData.depth, PyData.depthAll]⟩
end Pm


/-! Mt: data with a Lean type, at the mirrors. -/
namespace Pm
open PySem
open PySem.W (Datum DatumOrd Tup minOf maxOf listLt dataLt dataLe)
abbrev dt {α : Type} [DecidableEq α] [Datum α] (x : α) : D := Datum.toD x
section
variable {α : Type} [DecidableEq α]
section
variable [Datum α]
theorem sh_dt (x : α) : Sh (Datum.depth α) (dt x) := ⟨Datum.plain x, Datum.depth_le x⟩
theorem shp_dt (x : α) (h : Datum.depth α ≤ 64) : shp (dt x) = true := (sh_dt x).shp h
theorem shs_dt (xs : List α) : ∀ d ∈ xs.map dt, Sh (Datum.depth α) d := fun d hd => by
  obtain ⟨x, _, rfl⟩ := List.mem_map.mp hd
  exact sh_dt x
theorem eqO_dt (x y : α) (h : Datum.depth α ≤ 64 := by decide) : eqO (dt x) (dt y) = some (decide (x = y)) := by
  unfold eqO
  rw [shp_dt x h, shp_dt y h, if_pos (show (true && true) = true from rfl), Datum.eqv]
theorem neO_dt (x y : α) (h : Datum.depth α ≤ 64 := by decide) : neO (dt x) (dt y) = some (!decide (x = y)) := by
  unfold neO
  rw [shp_dt x h, shp_dt y h, if_pos (show (true && true) = true from rfl), Datum.eqv]
theorem inO_dl (x : α) (xs : List α) (h : Datum.depth α + 1 ≤ 64 := by decide) : inO (dt x) (.list (xs.map dt)) = some (decide (x ∈ xs)) := by
  unfold inO
  simp only []
  rw [shp_dt x (by omega), (sh_list (shs_dt xs)).shp h, if_pos (show (true && true) = true from rfl), PySem.W.any_datum]
theorem inO_dT (x : α) (xs : List α) (h : Datum.depth α + 1 ≤ 64 := by decide) : inO (dt x) (.tuple (xs.map dt)) = some (decide (x ∈ xs)) := by
  unfold inO
  simp only []
  rw [shp_dt x (by omega), (sh_tup (shs_dt xs)).shp h, if_pos (show (true && true) = true from rfl), PySem.W.any_datum]
theorem notIn_dl (x : α) (xs : List α) (h : Datum.depth α + 1 ≤ 64 := by decide) : notInO (dt x) (.list (xs.map dt)) = some (!decide (x ∈ xs)) := by
  unfold notInO
  rw [inO_dl x xs h]
  rfl
theorem notIn_dT (x : α) (xs : List α) (h : Datum.depth α + 1 ≤ 64 := by decide) : notInO (dt x) (.tuple (xs.map dt)) = some (!decide (x ∈ xs)) := by
  unfold notInO
  rw [inO_dT x xs h]
  rfl
theorem dt_inj {x y : α} (h : dt x = dt y) : x = y := by
  have z := Datum.eqv x y
  have e : PyData.eqv (dt x) (dt y) = true := by
    rw [h]
    exact PySem.SeqAt.eqv_refl_plain _ (Datum.plain y)
  rw [e] at z
  exact of_decide_eq_true z.symm
end
section
variable [DatumOrd α]
theorem lt_irr (x : α) : DatumOrd.lt x x = false := by rw [← DatumOrd.lt_eq]; exact PySem.W.dataLt_self _
theorem lt_neg {x y z : α} (h : DatumOrd.lt x z = true) : DatumOrd.lt x y = true ∨ DatumOrd.lt y z = true := by
  rw [← DatumOrd.lt_eq] at h ⊢
  rw [← DatumOrd.lt_eq]
  exact PyProof.Rows.lex_negTrans _ _ _ h
theorem lt_tr {x y z : α} (h : DatumOrd.lt x y = true) (h2 : DatumOrd.lt y z = true) : DatumOrd.lt x z = true := by
  rw [← DatumOrd.lt_eq] at h h2 ⊢
  exact PyProof.Rows.lex_trans _ _ _ h h2
theorem lt_as {x y : α} (h : DatumOrd.lt x y = true) : DatumOrd.lt y x = false := by
  cases e : DatumOrd.lt y x with
  | false => rfl
  | true =>
    have z := lt_tr h e
    rw [lt_irr] at z
    cases z
theorem minOf_mem (x : α) : ∀ xs : List α, minOf x xs ∈ x :: xs := fun xs => by
  unfold minOf
  induction xs generalizing x with
  | nil => simp
  | cons y ys ih =>
    rw [List.foldl_cons]
    have := ih (if DatumOrd.lt y x = true then y else x)
    split at this <;> rename_i h
    · rw [if_pos h]
      rcases List.mem_cons.mp this with e | e
      · rw [e]; simp
      · simp [e]
    · rw [if_neg h]
      rcases List.mem_cons.mp this with e | e
      · rw [e]; simp
      · simp [e]
theorem minOf_le (x : α) : ∀ xs : List α, ∀ y ∈ x :: xs, DatumOrd.lt y (minOf x xs) = false := fun xs => by
  unfold minOf
  induction xs generalizing x with
  | nil =>
    intro y hy
    rw [List.mem_singleton.mp hy]
    exact lt_irr x
  | cons z zs ih =>
    intro y hy
    rw [List.foldl_cons]
    have h1 := ih (if DatumOrd.lt z x = true then z else x)
    by_cases h : DatumOrd.lt z x = true
    · rw [if_pos h] at h1 ⊢
      rcases List.mem_cons.mp hy with e | e
      · cases q : DatumOrd.lt y (List.foldl (fun a y => if DatumOrd.lt y a = true then y else a) z zs) with
        | false => rfl
        | true =>
          have h2 := h1 z List.mem_cons_self
          rw [e] at q
          have := lt_tr h q
          rw [h2] at this
          cases this
      · exact h1 y e
    · rw [if_neg h] at h1 ⊢
      rcases List.mem_cons.mp hy with e | e
      · exact h1 y (by rw [e]; exact List.mem_cons_self)
      · rcases List.mem_cons.mp e with e | e
        · cases q : DatumOrd.lt y (List.foldl (fun a y => if DatumOrd.lt y a = true then y else a) x zs) with
          | false => rfl
          | true =>
            rw [e] at q
            rcases lt_neg (y := x) q with w | w
            · exact absurd w h
            · rw [h1 x List.mem_cons_self] at w
              cases w
        · exact h1 y (List.mem_cons_of_mem _ e)
theorem cmpB_dt (xs : List α) (h : Datum.depth α ≤ 60) : cmpB (xs.map dt) = true := by
  unfold cmpB
  rw [Bool.and_eq_true, Bool.and_eq_true]
  refine ⟨⟨?_, ?_⟩, ?_⟩
  · rw [List.all_eq_true]
    intro d hd
    obtain ⟨x, _, rfl⟩ := List.mem_map.mp hd
    rw [Bool.and_eq_true, decide_eq_true_eq]
    exact ⟨Datum.plain x, Nat.le_trans (Datum.depth_le x) h⟩
  · rw [List.all_eq_true]
    intro d hd
    rw [List.all_eq_true]
    intro e he
    obtain ⟨x, _, rfl⟩ := List.mem_map.mp hd
    obtain ⟨y, _, rfl⟩ := List.mem_map.mp he
    exact DatumOrd.alike x y
  · rw [List.all_eq_true]
    intro d hd
    obtain ⟨x, _, rfl⟩ := List.mem_map.mp hd
    have := DatumOrd.notNone x
    cases e : dt x with
    | none => exact absurd e this
    | _ => rfl
theorem minL_dt (x : α) (xs : List α) (h : Datum.depth α ≤ 60 := by decide) : minL [.list ((x :: xs).map dt)] = some (dt (minOf x xs)) := by
  have c := cmpB_dt (x :: xs) h
  rw [List.map_cons] at c ⊢
  unfold minL
  simp only []
  rw [if_pos c]
  exact congrArg some (PySem.W.minD_map x xs)
theorem minDef_dt (x : α) (xs : List α) (k : D) (h : Datum.depth α ≤ 60 := by decide) : minDefD [.list ((x :: xs).map dt)] [k] = some (dt (minOf x xs)) := by
  have c := cmpB_dt (x :: xs) h
  rw [List.map_cons] at c ⊢
  unfold minDefD
  simp only []
  rw [if_pos c]
  exact congrArg some (PySem.W.minD_map x xs)
@[simp] theorem minDef_nil (k : D) : minDefD [.list []] [k] = some k := rfl
/-- sorted, with its type -/
def srtT (xs : List α) : List α := xs.mergeSort fun a b => !DatumOrd.lt b a
theorem srt_dt (xs : List α) : srt (xs.map dt) = (srtT xs).map dt := by
  unfold srt srtT
  refine (List.map_mergeSort (f := fun x : α => dt x) (l := xs) fun a _ b _ => ?_).symm
  rw [PySem.W.dataLe_eq]
  show (!DatumOrd.lt b a) = !dataLt (dt b) (dt a)
  rw [DatumOrd.lt_eq]
theorem srtT_perm (xs : List α) : (srtT xs).Perm xs := List.mergeSort_perm _ _
theorem srtT_sorted (xs : List α) : (srtT xs).Pairwise fun a b => DatumOrd.lt b a = false := by
  unfold srtT
  have z := List.pairwise_mergeSort (le := fun a b : α => !DatumOrd.lt b a) (fun a b c h1 h2 => ?_) (fun a b => ?_) xs
  · exact z.imp fun h => by simpa using h
  · cases q : DatumOrd.lt c a with
    | false => rfl
    | true =>
      rcases lt_neg (y := b) q with w | w
      · simp [w] at h2
      · simp [w] at h1
  · cases q : DatumOrd.lt b a with
    | false => rfl
    | true => simp [lt_as q]
theorem perm_map_inv {β γ : Type} {f : β → γ} : ∀ {l k : List γ}, l.Perm k → ∀ r : List β, k = r.map f → ∃ r' : List β, r'.Perm r ∧ l = r'.map f := by
  intro l k h
  induction h with
  | nil => intro r e; exact ⟨[], by rw [List.map_eq_nil_iff.mp e.symm], rfl⟩
  | cons x _ ih =>
    intro r e
    cases r with
    | nil => cases e
    | cons b r =>
      rw [List.map_cons] at e
      obtain ⟨e1, e2⟩ := List.cons.inj e
      obtain ⟨r', h1, h2⟩ := ih r e2
      exact ⟨b :: r', h1.cons b, by rw [List.map_cons, ← h2, e1]⟩
  | swap x y l =>
    intro r e
    cases r with
    | nil => cases e
    | cons b r =>
      cases r with
      | nil => cases e
      | cons c r =>
        rw [List.map_cons, List.map_cons] at e
        obtain ⟨e1, e2⟩ := List.cons.inj e
        obtain ⟨e3, e4⟩ := List.cons.inj e2
        exact ⟨c :: b :: r, .swap _ _ _, by rw [List.map_cons, List.map_cons, e1, e3, e4]⟩
  | trans _ _ ih1 ih2 =>
    intro r e
    obtain ⟨r2, h1, h2⟩ := ih2 r e
    obtain ⟨r1, h3, h4⟩ := ih1 r2 h2
    exact ⟨r1, h3.trans h1, h4⟩
end
end
@[simp] theorem dt_bool (b : Bool) : dt b = PyData.bool b := rfl
@[simp] theorem neO_bool (a b : Bool) : neO (.bool a) (.bool b) = some (!decide (a = b)) := neO_dt a b
@[simp] theorem eqO_bool (a b : Bool) : eqO (.bool a) (.bool b) = some (decide (a = b)) := eqO_dt a b
theorem eqO_dnil {α : Type} [DecidableEq α] [Datum α] (xs : List α) (h : Datum.depth α + 1 ≤ 64 := by decide) : eqO (.list (xs.map dt)) (.list []) = some xs.isEmpty := by
  rw [eqO_nil (shs_dt xs) h]
  cases xs <;> rfl
theorem neO_dnil {α : Type} [DecidableEq α] [Datum α] (xs : List α) (h : Datum.depth α + 1 ≤ 64 := by decide) : neO (.list (xs.map dt)) (.list []) = some !xs.isEmpty := by
  rw [neO_nil (shs_dt xs) h]
  cases xs <;> rfl
@[simp] theorem dt_int (i : Int) : dt i = PyData.int i := rfl
@[simp] theorem dt_pair {α β : Type} [DecidableEq α] [Datum α] [DecidableEq β] [Datum β] (a : α) (b : β) : dt (a, b) = .tuple [dt a, dt b] := rfl
section
variable {α : Type} [DecidableEq α] [Datum α] (t : Tup α)
theorem dt_T : dt t = .tuple (t.items.map dt) := rfl
@[simp] theorem lenD_T : lenD [dt t] = some (.int t.items.length) := by rw [dt_T, lenD_t, List.length_map]
@[simp] theorem itemsD_T : itemsD (dt t) = some (t.items.map dt) := rfl
@[simp] theorem revD_T : revD (dt t) = some (dt (Tup.mk t.items.reverse)) := by rw [dt_T, revD_t, dt_T, List.map_reverse]
@[simp] theorem isiTup_T : isiTup (dt t) = true := rfl
@[simp] theorem listO_T : listO [dt t] = some (.l (t.items.map dt)) := rfl
@[simp] theorem tupleD_T : tupleD [dt t] = some (dt t) := rfl
theorem addD_T (u : Tup α) (h : t.items.length + u.items.length ≤ 100000) : addD (dt t) (dt u) = some (dt (Tup.mk (t.items ++ u.items))) := by
  rw [dt_T, dt_T, dt_T, addD_tup (by rw [List.length_map, List.length_map]; exact h), List.map_append]
end
theorem dt_tup {α : Type} [DecidableEq α] [Datum α] (xs : List α) : dt (Tup.mk xs) = .tuple (xs.map dt) := rfl
end Pm

/-! My: more rules for plain reading. -/
namespace Pm
open PySem
theorem rng1_nat {n : Nat} (h : n ≤ 1000000) : rng1 [.int n] = some ((List.range n).map fun i : Nat => .int i) := by
  unfold rng1 smallI rngD
  dsimp only
  rw [if_pos (by simp; omega), Int.toNat_natCast]
  simp
theorem rng2_nat {a b : Nat} (ha : a ≤ 1000000) (hb : b ≤ 1000000) : rng2 [.int a, .int b] = some ((List.range (b - a)).map fun i : Nat => .int ((a + i : Nat) : Int)) := by
  unfold rng2 smallI rngD
  dsimp only
  rw [if_pos (by simp; omega)]
  have e : ((b : Int) - a).toNat = b - a := by omega
  rw [e]
  simp
end Pm

/-! Mz: sets and sums, with their types. -/
namespace Pm
open PySem
open PySem.W (Datum DatumOrd Tup)
/-- each once, as met first -/
def distT {α : Type} [DecidableEq α] (xs : List α) : List α := xs.foldl (fun acc x => if x ∈ acc then acc else acc ++ [x]) []
section
variable {α : Type} [DecidableEq α]
theorem distT_go (xs acc : List α) (h : acc.Nodup) : (xs.foldl (fun acc x => if x ∈ acc then acc else acc ++ [x]) acc).Nodup ∧ ∀ k, k ∈ xs.foldl (fun acc x => if x ∈ acc then acc else acc ++ [x]) acc ↔ k ∈ acc ∨ k ∈ xs := by
  induction xs generalizing acc with
  | nil => exact ⟨h, fun k => by simp⟩
  | cons n ns ih =>
    rw [List.foldl_cons]
    by_cases c : n ∈ acc
    · rw [if_pos c]
      obtain ⟨h1, h2⟩ := ih acc h
      refine ⟨h1, fun k => ?_⟩
      rw [h2, List.mem_cons]
      constructor
      · rintro (z | z)
        · exact .inl z
        · exact .inr (.inr z)
      · rintro (z | z | z)
        · exact .inl z
        · exact .inl (by rw [z]; exact c)
        · exact .inr z
    · rw [if_neg c]
      obtain ⟨h1, h2⟩ := ih (acc ++ [n]) (by
        rw [List.nodup_append]
        exact ⟨h, by simp, fun a ha b hb z => c (by rw [List.mem_singleton] at hb; rw [← hb, ← z]; exact ha)⟩)
      refine ⟨h1, fun k => ?_⟩
      rw [h2, List.mem_append, List.mem_singleton, List.mem_cons]
      exact or_assoc
theorem distT_nodup (xs : List α) : (distT xs).Nodup := (distT_go xs [] List.nodup_nil).1
theorem distT_mem (xs : List α) (k : α) : k ∈ distT xs ↔ k ∈ xs := by
  unfold distT
  rw [(distT_go xs [] List.nodup_nil).2]
  simp
theorem distT_perm {xs ys : List α} (h : ∀ k, k ∈ xs ↔ k ∈ ys) : (distT xs).Perm (distT ys) :=
  (List.perm_ext_iff_of_nodup (distT_nodup xs) (distT_nodup ys)).mpr fun k => by rw [distT_mem, distT_mem]; exact h k
theorem distK_dt [Datum α] (xs : List α) : distK (xs.map dt) = (distT xs).map dt := by
  unfold distK distT
  have go : ∀ xs acc : List α, (xs.map dt).foldl stepK (acc.map dt) = (xs.foldl (fun acc x => if x ∈ acc then acc else acc ++ [x]) acc).map dt := fun xs => by
    induction xs with
    | nil => exact fun _ => rfl
    | cons x xs ih =>
      intro acc
      rw [List.map_cons, List.foldl_cons, List.foldl_cons, ← ih]
      congr 1
      unfold stepK
      have e : ((acc.map dt).any fun e => PyData.eqv e (dt x)) = decide (x ∈ acc) := by
        rw [List.any_map, Bool.eq_iff_iff, List.any_eq_true, decide_eq_true_eq]
        constructor
        · rintro ⟨y, hy, z⟩
          have z : PyData.eqv (dt y) (dt x) = true := z
          rw [Datum.eqv, decide_eq_true_eq] at z
          rw [← z]; exact hy
        · intro h
          refine ⟨x, h, ?_⟩
          show PyData.eqv (dt x) (dt x) = true
          rw [Datum.eqv, decide_eq_true_eq]
      rw [e]
      by_cases c : x ∈ acc
      · rw [if_pos c, if_pos (decide_eq_true c)]
      · rw [if_neg c, if_neg (by simpa using c), List.map_append]; rfl
  exact go xs []
end
section
variable {α : Type} [DecidableEq α] [DatumOrd α]
theorem nkT_dt (xs : List α) (h : xs.length < 299) (hk : ∀ x : α, nkB (dt x) = true ∧ tupB (dt x) = true) (hd : Datum.depth α ≤ 8) : nkT (xs.map dt) = true := by
  unfold nkT
  rw [List.length_map, Bool.and_eq_true, decide_eq_true_eq]
  refine ⟨List.all_eq_true.mpr fun d hm => ?_, h⟩
  obtain ⟨x, _, rfl⟩ := List.mem_map.mp hm
  simp only [Bool.and_eq_true, decide_eq_true_eq]
  exact ⟨⟨⟨(hk x).2, (hk x).1⟩, Datum.plain x⟩, Nat.le_trans (Datum.depth_le x) hd⟩
theorem srtB_dt (xs : List α) (hk : ∀ x : α, tupB (dt x) = true) (hd : Datum.depth α ≤ 60) : srtB (xs.map dt) = true := by
  have h1 : ((xs.map dt).all fun d => d.plain && decide (d.depth ≤ 60)) = true := List.all_eq_true.mpr fun d hm => by
    obtain ⟨x, _, rfl⟩ := List.mem_map.mp hm
    rw [Bool.and_eq_true, decide_eq_true_eq]
    exact ⟨Datum.plain x, Nat.le_trans (Datum.depth_le x) hd⟩
  have h2 : ((xs.map dt).all fun d => (xs.map dt).all fun e => PySem.W.alike d e) = true := List.all_eq_true.mpr fun d hm => List.all_eq_true.mpr fun e he => by
    obtain ⟨x, _, rfl⟩ := List.mem_map.mp hm
    obtain ⟨y, _, rfl⟩ := List.mem_map.mp he
    exact DatumOrd.alike x y
  have h3 : (xs.map dt).all tupB = true := List.all_eq_true.mpr fun d hm => by
    obtain ⟨x, _, rfl⟩ := List.mem_map.mp hm
    exact hk x
  unfold srtB
  rw [h1, h2, h3]
  cases h4 : (xs.map dt).all fullT with
  | false => simp
  | true =>
    have : ((xs.map dt).all fun d => tupB d && fullT d) = true := List.all_eq_true.mpr fun d hm => by
      rw [List.all_eq_true.mp h3 d hm, List.all_eq_true.mp h4 d hm]; rfl
    rw [this]
    simp
theorem sortSetN_dt (xs : List α) (h : xs.length < 299) (hk : ∀ x : α, nkB (dt x) = true ∧ tupB (dt x) = true) (hd : Datum.depth α ≤ 8) : sortSetN [.list (xs.map dt)] = some (.l ((srtT (distT xs)).map dt)) := by
  unfold sortSetN
  dsimp only
  rw [distK_dt, nkT_dt xs h hk hd, srtB_dt _ (fun x => (hk x).2) (by omega), srt_dt]
  rfl
theorem lenSetN_dt (xs : List α) (h : xs.length < 299) (hk : ∀ x : α, nkB (dt x) = true ∧ tupB (dt x) = true) (hd : Datum.depth α ≤ 8) : lenSetN [.list (xs.map dt)] = some (.int (distT xs).length) := by
  unfold lenSetN
  dsimp only
  rw [distK_dt, nkT_dt xs h hk hd, List.length_map]
  rfl
end
theorem nkBs_ints : ∀ ns : List Int, nkBs (ns.map .int) = true
  | [] => by rw [List.map_nil, nkBs]
  | n :: ns => by rw [List.map_cons, nkBs, nkB, nkBs_ints ns]; rfl
theorem nk_row (r : Tup Int) : nkB (dt r) = true ∧ tupB (dt r) = true := ⟨by rw [dt_T, nkB]; exact nkBs_ints r.items, rfl⟩
@[simp] theorem sumA_t (ns : List Int) : sumA [.tuple (ns.map .int)] = some (.int ns.sum) := by
  unfold sumA
  simp [seqD, intsOf_map]
@[simp] theorem sumA_l (ns : List Int) : sumA [.list (ns.map .int)] = some (.int ns.sum) := by
  unfold sumA
  simp [seqD, intsOf_map]
theorem ix_last (ds : List D) (d : D) : ixD (.tuple (ds ++ [d])) (.int (-1)) = some d := L2.atI_last ds d
end Pm

/-! Mv: the program's own looks at values -/
namespace Pm
open PySem
def inB (lo hi : Int) : D → Bool
  | .int i => decide (lo ≤ i) && decide (i ≤ hi)
  | _ => false
@[simp] theorem inB_int (lo hi i : Int) : inB lo hi (.int i) = (decide (lo ≤ i) && decide (i ≤ hi)) := rfl
theorem is_in_ok (d : D) (lo hi : Int) : F_is_in [d, .int lo, .int hi] = .ok (.bool (inB lo hi d)) := by
  cases d with
  | int i =>
    simp [F_is_in, m_is_in, isiInt, isiBool]
    by_cases h : lo ≤ i <;> simp [h]
  | _ => simp [F_is_in, m_is_in, isiInt, isiBool, inB]
theorem allL_map {α : Type} (l : List α) (p : α → Bool) : allL [.list (l.map fun a => .bool (p a))] = some (.bool (l.all p)) := by
  have e : (l.map fun a => PyData.bool (p a)) = (l.map p).map .bool := by rw [List.map_map]; rfl
  rw [e, allL_bools, List.all_map]
  rfl
theorem anyL_map {α : Type} (l : List α) (p : α → Bool) : anyL [.list (l.map fun a => .bool (p a))] = some (.bool (l.any p)) := by
  have e : (l.map fun a => PyData.bool (p a)) = (l.map p).map .bool := by rw [List.map_map]; rfl
  rw [e, anyL_bools, List.any_map]
  rfl
def areIn (d : D) (a b lo hi : Int) : Bool := match d with
  | .tuple ds => decide (a ≤ ds.length) && (decide ((ds.length : Int) ≤ b) && ds.all (inB lo hi))
  | _ => false
theorem are_in_ok (d : D) (a b lo hi : Int) : F_are_in [d, .int a, .int b, .int lo, .int hi] = .ok (.bool (areIn d a b lo hi)) := by
  cases d with
  | tuple ds =>
    by_cases h1 : a ≤ ds.length
    · by_cases h2 : (ds.length : Int) ≤ b
      · simp [F_are_in, m_are_in, isiTup, h1, h2, areIn]
        rw [lc1' (fun d => d) ds (fun d => .bool (inB lo hi d)) ?_ ?_ ?_ ?_]
        · simp [allL_map]
        · simp
        · simp [plainAt, Sl.plain]
        · simp
        · intro d hd; simp [is_in_ok]
      · simp [F_are_in, m_are_in, isiTup, h1, h2, areIn]
    · simp [F_are_in, m_are_in, isiTup, h1, areIn]
  | _ => simp [F_are_in, m_are_in, isiTup, areIn]
/-- each less than the next -/
def asc : List Int → Bool
  | a :: b :: r => decide (a < b) && asc (b :: r)
  | _ => true
theorem cut_from {ds : List D} (n : Nat) : cutD ds (some (n : Int)) none = ds.drop n := by
  unfold cutD
  rw [HT.sIx_nat, HT.sIx_none]
  by_cases h : n ≤ ds.length
  · rw [Nat.min_eq_left h, List.take_of_length_le (by rw [List.length_drop]; omega)]
  · rw [Nat.min_eq_right (by omega), List.drop_eq_nil_of_le (Nat.le_refl _), List.drop_eq_nil_of_le (by omega), List.take_nil]
theorem cut_to {ds : List D} (n : Nat) : cutD ds none (some (n : Int)) = ds.take n := by
  unfold cutD
  rw [HT.sIx_nat, HT.sIx_none, List.drop_zero, Nat.sub_zero]
  by_cases h : n ≤ ds.length
  · rw [Nat.min_eq_left h]
  · rw [Nat.min_eq_right (by omega), List.take_of_length_le (Nat.le_refl _), List.take_of_length_le (by omega)]
@[simp] theorem cut_1 (ds : List D) : cutD ds (some 1) none = ds.drop 1 := cut_from 1
theorem asc_zip : ∀ ns : List Int, asc ns = (ns.zip (ns.drop 1)).all fun p => decide (p.1 < p.2)
  | [] => rfl
  | [a] => rfl
  | a :: b :: r => by
    rw [asc, asc_zip (b :: r)]
    rfl
theorem is_ascending_ok (ns : List Int) : F_is_ascending [.tuple (ns.map .int)] = .ok (.bool (asc ns)) := by
  simp [F_is_ascending, m_is_ascending]
  rw [lc2' (fun p : Int × Int => .tuple [.int p.1, .int p.2]) (ns.zip (ns.drop 1)) (fun p => .bool (decide (p.1 < p.2))) (fun p => .int p.1) (fun p => .int p.2) (fun _ => rfl) (by decide) ?_ ?_ ?_ ?_]
  · simp [allL_map, asc_zip]
  · simp [sliceD, zipB, seqD]
    rw [← List.map_tail, List.zip_map, List.map_map]
    rfl
  · simp [plainAt, Sl.plain]
  · simp
  · intro p hp; simp
end Pm

namespace Pm
open PySem
open PySem.W (Datum DatumOrd Tup listLt maxOf minOf)
abbrev Gp := Tup Int
def subsL (xs : List Int) : List (List Int) := xs.foldl (fun rows x => rows ++ rows.map fun r => r ++ [x]) [[]]
/-! ### sorting that can be reckoned -/
section
variable {α : Type} [DecidableEq α] [DatumOrd α]
def ins (x : α) : List α → List α
  | [] => [x]
  | y :: ys => if DatumOrd.lt y x = true then y :: ins x ys else x :: y :: ys
def isT : List α → List α
  | [] => []
  | x :: xs => ins x (isT xs)
theorem ins_perm (x : α) : ∀ ys : List α, (ins x ys).Perm (x :: ys)
  | [] => .refl _
  | y :: ys => by
    unfold ins
    split
    · exact ((ins_perm x ys).cons y).trans (.swap x y ys)
    · exact .refl _
theorem isT_perm : ∀ xs : List α, (isT xs).Perm xs
  | [] => .refl _
  | x :: xs => (ins_perm x (isT xs)).trans ((isT_perm xs).cons x)
theorem ins_sorted (x : α) : ∀ {ys : List α}, (ys.Pairwise fun a b => DatumOrd.lt b a = false) → (ins x ys).Pairwise fun a b => DatumOrd.lt b a = false
  | [], _ => List.pairwise_singleton _ _
  | y :: ys, h => by
    rw [List.pairwise_cons] at h
    unfold ins
    split
    · rename_i c
      refine List.pairwise_cons.mpr ⟨fun z hz => ?_, ins_sorted x h.2⟩
      rcases List.mem_cons.mp ((ins_perm x ys).mem_iff.mp hz) with rfl | hz
      · exact lt_as c
      · exact h.1 z hz
    · rename_i c
      have c : DatumOrd.lt y x = false := by simpa using c
      refine List.pairwise_cons.mpr ⟨fun z hz => ?_, List.pairwise_cons.mpr h⟩
      rcases List.mem_cons.mp hz with rfl | hz
      · exact c
      · cases q : DatumOrd.lt z x with
        | false => rfl
        | true =>
          rcases lt_neg (y := y) q with w | w
          · rw [h.1 z hz] at w; cases w
          · rw [c] at w; cases w
theorem isT_sorted : ∀ xs : List α, (isT xs).Pairwise fun a b => DatumOrd.lt b a = false
  | [] => List.Pairwise.nil
  | x :: xs => ins_sorted x (isT_sorted xs)
/-- where two that neither is less are the same -/
theorem srtT_isT (tri : ∀ a b : α, DatumOrd.lt a b = false → DatumOrd.lt b a = false → a = b) (xs : List α) : srtT xs = isT xs :=
  List.Perm.eq_of_pairwise (le := fun a b : α => DatumOrd.lt b a = false) (fun a b _ _ h1 h2 => tri a b h2 h1) (srtT_sorted xs) (isT_sorted xs) ((srtT_perm xs).trans (isT_perm xs).symm)
end
theorem tri_int (a b : Int) (h1 : DatumOrd.lt a b = false) (h2 : DatumOrd.lt b a = false) : a = b := by
  have h1 : decide (a < b) = false := h1
  have h2 : decide (b < a) = false := h2
  simp at h1 h2
  omega
theorem tri_tup {α : Type} [DecidableEq α] [DatumOrd α] (tri : ∀ a b : α, DatumOrd.lt a b = false → DatumOrd.lt b a = false → a = b) (a b : Tup α) (h1 : DatumOrd.lt a b = false) (h2 : DatumOrd.lt b a = false) : a = b := by
  have go : ∀ x y : List α, listLt x y = false → listLt y x = false → x = y := fun x => by
    induction x with
    | nil => intro y h1 h2; cases y with | nil => rfl | cons b y => simp [listLt] at h1
    | cons a x ih =>
      intro y h1 h2
      cases y with
      | nil => simp [listLt] at h2
      | cons b y =>
        rw [listLt] at h1 h2
        by_cases e : a = b
        · subst e
          rw [if_pos rfl] at h1 h2
          rw [ih y h1 h2]
        · rw [if_neg e] at h1
          rw [if_neg (fun z => e z.symm)] at h2
          exact absurd (tri a b h1 h2) e
  cases a
  cases b
  exact congrArg Tup.mk (go _ _ h1 h2)
theorem tri_pair {α β : Type} [DecidableEq α] [DatumOrd α] [DecidableEq β] [DatumOrd β] (t1 : ∀ a b : α, DatumOrd.lt a b = false → DatumOrd.lt b a = false → a = b) (t2 : ∀ a b : β, DatumOrd.lt a b = false → DatumOrd.lt b a = false → a = b) (a b : α × β) (h1 : DatumOrd.lt a b = false) (h2 : DatumOrd.lt b a = false) : a = b := by
  have h1 : (if a.1 = b.1 then DatumOrd.lt a.2 b.2 else DatumOrd.lt a.1 b.1) = false := h1
  have h2 : (if b.1 = a.1 then DatumOrd.lt b.2 a.2 else DatumOrd.lt b.1 a.1) = false := h2
  by_cases e : a.1 = b.1
  · rw [if_pos e] at h1
    rw [if_pos e.symm] at h2
    exact Prod.ext e (t2 _ _ h1 h2)
  · rw [if_neg e] at h1
    rw [if_neg (fun z => e z.symm)] at h2
    exact absurd (t1 _ _ h1 h2) e
@[simp] theorem demand_t (x : Str) : F_demand [.bool true, .str x] = .ok .none := by simp [F_demand, m_demand]
@[simp] theorem demand_f (x : Str) : F_demand [.bool false, .str x] = .exc x := by simp [F_demand, m_demand]
def rg (n : Nat) : List Int := (List.range n).map fun i : Nat => (i : Int)
theorem rg_mem {n : Nat} {i : Int} : i ∈ rg n ↔ 0 ≤ i ∧ i < n := by
  unfold rg
  rw [List.mem_map]
  constructor
  · rintro ⟨j, hj, rfl⟩
    rw [List.mem_range] at hj
    omega
  · rintro ⟨h1, h2⟩
    exact ⟨i.toNat, List.mem_range.mpr (by omega), by omega⟩
theorem rg_asc (n : Nat) : (rg n).Pairwise (· < ·) := by
  unfold rg
  refine List.pairwise_map.mpr (List.Pairwise.imp (fun {a b} h => ?_) List.pairwise_lt_range)
  omega
theorem subsL_snoc (xs : List Int) (x : Int) : subsL (xs ++ [x]) = subsL xs ++ (subsL xs).map fun r => r ++ [x] := by unfold subsL; rw [List.foldl_append]; rfl
theorem snocI {P : List Int → Prop} (h0 : P []) (h1 : ∀ ns p, P ns → P (ns ++ [p])) (ns : List Int) : P ns := by
  have : ∀ m : List Int, P m.reverse := fun m => by
    induction m with
    | nil => exact h0
    | cons x m ih => rw [List.reverse_cons]; exact h1 _ _ ih
  rw [← List.reverse_reverse ns]
  exact this _
theorem subsL_mem (xs : List Int) : ∀ S, S ∈ subsL xs ↔ S.Sublist xs := by
  refine snocI (P := fun xs => ∀ S, S ∈ subsL xs ↔ S.Sublist xs) (fun S => ?_) (fun xs x ih S => ?_) xs
  · show S ∈ [[]] ↔ _
    rw [List.mem_singleton, List.sublist_nil]
  · rw [subsL_snoc, List.mem_append, List.mem_map, List.sublist_append_iff]
    constructor
    · rintro (h | ⟨r, hr, rfl⟩)
      · exact ⟨S, [], by simp, (ih S).mp h, List.nil_sublist _⟩
      · exact ⟨r, [x], rfl, (ih r).mp hr, List.Sublist.refl _⟩
    · rintro ⟨a, c, rfl, h1, h2⟩
      cases c with
      | nil => exact .inl (by rw [List.append_nil]; exact (ih a).mpr h1)
      | cons y c =>
        have hl := h2.length_le
        have : c = [] := by cases c with | nil => rfl | cons z c => simp at hl
        subst this
        have hy : y ∈ [x] := h2.subset List.mem_cons_self
        rw [List.mem_singleton.mp hy]
        exact .inr ⟨a, (ih a).mpr h1, rfl⟩
theorem subsL_len (xs : List Int) : (subsL xs).length = 2 ^ xs.length := by
  refine snocI (P := fun xs => (subsL xs).length = 2 ^ xs.length) rfl (fun xs x ih => ?_) xs
  rw [subsL_snoc, List.length_append, List.length_map, ih, List.length_append, List.length_singleton, Nat.pow_succ]
  omega
def sbs (n : Nat) : List Gp := (subsL (rg n)).map Tup.mk
theorem subsets_ok {n : Nat} (hn : 1 ≤ n ∧ n ≤ 6) : F__law_subsets [.int n, .int n] = .ok (.list ((srtT (sbs n)).map dt)) := by
  rw [← srt_dt]
  have h1 : n = 1 ∨ n = 2 ∨ n = 3 ∨ n = 4 ∨ n = 5 ∨ n = 6 := by omega
  rcases h1 with rfl | rfl | rfl | rfl | rfl | rfl <;> kernel_rfl
theorem sbs_mem {n : Nat} (r : Gp) : r ∈ sbs n ↔ r.items.Sublist (rg n) := by
  unfold sbs
  rw [List.mem_map]
  constructor
  · rintro ⟨S, hS, rfl⟩
    exact (subsL_mem _ S).mp hS
  · intro h
    exact ⟨r.items, (subsL_mem _ _).mpr h, rfl⟩
theorem asc_sub {n : Nat} {S : List Int} (h1 : S.Pairwise (· < ·)) (h2 : ∀ i ∈ S, 0 ≤ i ∧ i < n) : S.Sublist (rg n) := by
  have e : S = (rg n).filter fun i => decide (i ∈ S) := strict_ext h1 ((rg_asc n).filter _) fun k => by
    rw [List.mem_filter, decide_eq_true_eq, rg_mem]
    exact ⟨fun h => ⟨h2 k h, h⟩, fun h => h.2⟩
  rw [e]
  exact List.filter_sublist
def val (ps : List Int) (i : Int) : Int := ps.getD i.toNat 0
section
variable {ps : List Int}
theorem ix_val {i : Int} (h : 0 ≤ i ∧ i < ps.length) : ixD (.tuple (ps.map .int)) (.int i) = some (.int (val ps i)) := by
  have hl : i.toNat < ps.length := by omega
  have e : (ps.map PyData.int)[i.toNat]? = some (.int (val ps i)) := by
    rw [List.getElem?_map, List.getElem?_eq_getElem hl]
    unfold val
    rw [List.getD_eq_getElem?_getD, List.getElem?_eq_getElem hl]
    rfl
  have z := ixT_at e
  rw [Int.toNat_of_nonneg h.1] at z
  exact z
end
/-- a loop that may end with an answer -/
theorem forR {α : Type} (enc : α → D) (E : List α → PE0 → Prop) (c : α → Bool) (v : α → D) (as : List α) {mg : MG} {mb : MS}
    (hb : ∀ pre a post ρ, pre ++ a :: post = as → E pre ρ → ∃ ρ1, mg (enc a) ρ = some ρ1 ∧ (c a = true → ∃ ρ2, mb ρ1 = .rt (v a) ρ2) ∧ (c a = false → ∃ ρ2, mb ρ1 = .nx ρ2 ∧ E (pre ++ [a]) ρ2)) :
    ∀ (rest pre : List α) (ρ : PE0), pre ++ rest = as → E pre ρ → (match rest.find? c with | some a => ∃ ρ2, forGo mg mb (rest.map enc) ρ = .rt (v a) ρ2 | none => ∃ ρ2, forGo mg mb (rest.map enc) ρ = .nx ρ2 ∧ E as ρ2)
  | [], pre, ρ, h, hE => ⟨ρ, rfl, by rw [List.append_nil] at h; rw [← h]; exact hE⟩
  | a :: rest, pre, ρ, h, hE => by
    obtain ⟨ρ1, e1, e2, e3⟩ := hb pre a rest ρ h hE
    have st : forGo mg mb ((a :: rest).map enc) ρ = (match mb ρ1 with | .nx ρ2 => forGo mg mb (rest.map enc) ρ2 | .ct ρ2 => forGo mg mb (rest.map enc) ρ2 | .bk ρ2 => .nx ρ2 | fl => fl) := by
      rw [List.map_cons]
      conv => lhs; unfold forGo
      rw [e1]
      all_goals rfl
    cases q : c a with
    | true =>
      obtain ⟨ρ2, e4⟩ := e2 q
      rw [List.find?_cons, q]
      exact ⟨ρ2, by rw [st, e4]⟩
    | false =>
      obtain ⟨ρ2, e4, e5⟩ := e3 q
      have ih := forR enc E c v as hb rest (pre ++ [a]) ρ2 (by rw [List.append_assoc]; exact h) e5
      rw [List.find?_cons, q]
      rw [st, e4]
      exact ih
theorem rng2_1 {n : Nat} (h : n ≤ 900000) : rng2 [.int 1, .int ((n : Int) + 1)] = some ((List.range n).map fun i : Nat => PyData.int ((1 + i : Nat) : Int)) := by
  unfold rng2 smallI rngD
  dsimp only
  rw [if_pos (by simp; omega)]
  have e : ((n : Int) + 1 - 1).toNat = n := by omega
  rw [e]
  simp
theorem rng_n1 (f : List D → Option (List D)) (ds : List D) (r : PE0) : mRng f (mCons (mC (.int 1)) (mCons (mOp2 addD (mCallB lenD (mCons (mVar 0) mNil)) (mC (.int 1))) mNil)) (.v (.tuple ds) :: r) = Re.opt (f [.int 1, .int ((ds.length : Int) + 1)]) (.v (.tuple ds) :: r) := rfl
theorem perm_sum {l m : List Int} (h : l.Perm m) : l.sum = m.sum := by
  induction h with
  | nil => rfl
  | cons x _ ih => rw [List.sum_cons, List.sum_cons, ih]
  | swap x y l => simp only [List.sum_cons]; omega
  | trans _ _ h1 h2 => exact h1.trans h2
theorem mSq_for {mi : MA} {mg : MG} {mb b : MS} {ρ : PE0} {ds : List D} (hi : mi ρ = .ok ds ρ) : mSq (mFor mi mg mb) b ρ = (match forGo mg mb ds ρ with | .nx ρ1 => b ρ1 | fl => fl) := by
  rw [mSq_eq, mFor_eq, hi, Fl.of_ok]
  all_goals (cases forGo mg mb ds ρ <;> rfl)
theorem numd_zip {α : Type} (f : α → D) : ∀ (xs : List α) (n : Nat), numd n (xs.map f) = (xs.zipIdx n).map fun p => .tuple [.int (p.2 : Nat), f p.1]
  | [], _ => rfl
  | x :: xs, n => by
    rw [List.map_cons, numd, List.zipIdx_cons, List.map_cons, numd_zip f xs (n + 1)]
theorem sorted_ints (ns : List Int) : sortedO [.list (ns.map PyData.int)] = some (.l ((srtT ns).map .int)) := by
  have e : ns.map PyData.int = ns.map dt := rfl
  rw [e]
  have h1 : ((ns.map dt).all fun d : D => d.plain && decide (d.depth ≤ 60)) = true := List.all_eq_true.mpr fun d hm => by
    obtain ⟨x, _, rfl⟩ := List.mem_map.mp hm
    show (true && decide (PyData.depth (.int x) ≤ 60)) = true
    simp [PyData.depth]
  have h2 : ((ns.map dt).all fun d => (ns.map dt).all fun e => PySem.W.alike d e) = true := List.all_eq_true.mpr fun d hm => List.all_eq_true.mpr fun e he => by
    obtain ⟨x, _, rfl⟩ := List.mem_map.mp hm
    obtain ⟨y, _, rfl⟩ := List.mem_map.mp he
    exact DatumOrd.alike x y
  have h3 : (ns.map dt).all atomB = true := List.all_eq_true.mpr fun d hm => by
    obtain ⟨x, _, rfl⟩ := List.mem_map.mp hm
    rfl
  have hb : srtB (ns.map dt) = true := by
    unfold srtB
    rw [h1, h2, h3]
    rfl
  unfold sortedO
  dsimp only
  rw [if_pos hb, srt_dt]
  rfl
/-- a loop over typed things, its states told by a relation -/
theorem forT {α : Type} (enc : α → D) (E : List α → PE0 → Prop) (as : List α) {mg : MG} {mb : MS}
    (hb : ∀ pre a post ρ, pre ++ a :: post = as → E pre ρ → ∃ ρ1 ρ2, mg (enc a) ρ = some ρ1 ∧ mb ρ1 = .nx ρ2 ∧ E (pre ++ [a]) ρ2) :
    ∀ (rest pre : List α) (ρ : PE0), pre ++ rest = as → E pre ρ → ∃ ρ2, forGo mg mb (rest.map enc) ρ = .nx ρ2 ∧ E as ρ2
  | [], pre, ρ, h, hE => ⟨ρ, rfl, by rw [List.append_nil] at h; rw [← h]; exact hE⟩
  | a :: rest, pre, ρ, h, hE => by
    obtain ⟨ρ1, ρ2, e1, e2, e3⟩ := hb pre a rest ρ h hE
    obtain ⟨ρ3, e4, e5⟩ := forT enc E as hb rest (pre ++ [a]) ρ2 (by rw [List.append_assoc]; exact h) e3
    refine ⟨ρ3, ?_, e5⟩
    rw [List.map_cons]
    unfold forGo
    rw [e1]
    dsimp only
    rw [e2]
    exact e4
@[simp] theorem isN_nn : isN .none .none = some true := rfl
@[simp] theorem notN_nn : notN .none .none = some false := rfl
/-! ### greatest ones -/
section
variable {α : Type} [DecidableEq α] [DatumOrd α]
theorem maxA_l (x : α) (xs : List α) (h : Datum.depth α ≤ 60 := by decide) : maxA [.list ((x :: xs).map dt)] = some (dt (maxOf x xs)) := by
  have c := cmpB_dt (x :: xs) h
  rw [List.map_cons] at c ⊢
  unfold maxA
  simp only []
  rw [if_pos c]
  exact congrArg some (PySem.W.maxD_map x xs)
theorem maxA_t (x : α) (xs : List α) (h : Datum.depth α ≤ 60 := by decide) : maxA [.tuple ((x :: xs).map dt)] = some (dt (maxOf x xs)) := by
  have c := cmpB_dt (x :: xs) h
  rw [List.map_cons] at c ⊢
  unfold maxA
  simp only []
  rw [if_pos c]
  exact congrArg some (PySem.W.maxD_map x xs)
end
theorem maxI_go (xs : List Int) : ∀ x : Int, maxOf x xs ∈ x :: xs ∧ ∀ y ∈ x :: xs, y ≤ maxOf x xs := by
  unfold maxOf
  induction xs with
  | nil => exact fun x => ⟨List.mem_cons_self, fun y hy => by rw [List.mem_singleton.mp hy]; exact Int.le_refl _⟩
  | cons z zs ih =>
    intro x
    rw [List.foldl_cons]
    have e : (DatumOrd.lt x z = true) = (x < z) := by
      show (decide (x < z) = true) = (x < z)
      rw [decide_eq_true_eq]
    obtain ⟨h1, h2⟩ := ih (if DatumOrd.lt x z = true then z else x)
    by_cases c : x < z
    · rw [if_pos (e ▸ c)] at h1 h2 ⊢
      refine ⟨List.mem_cons_of_mem _ h1, fun y hy => ?_⟩
      rcases List.mem_cons.mp hy with rfl | hy
      · have := h2 z List.mem_cons_self; omega
      · exact h2 y hy
    · rw [if_neg (by rw [e]; exact c)] at h1 h2 ⊢
      refine ⟨?_, fun y hy => ?_⟩
      · rcases List.mem_cons.mp h1 with h | h
        · rw [h]; exact List.mem_cons_self
        · exact List.mem_cons_of_mem _ (List.mem_cons_of_mem _ h)
      · rcases List.mem_cons.mp hy with rfl | hy
        · exact h2 _ List.mem_cons_self
        · rcases List.mem_cons.mp hy with rfl | hy
          · have := h2 x List.mem_cons_self; omega
          · exact h2 y (List.mem_cons_of_mem _ hy)
theorem eqO_nilT {α : Type} [DecidableEq α] [Datum α] (xs : List α) (h : Datum.depth α ≤ 60 := by decide) : eqO (.list (xs.map dt)) (.list []) = some xs.isEmpty := by
  unfold eqO
  rw [(sh_list (shs_dt xs)).shp (by omega)]
  rw [show shp (.list []) = true from rfl, if_pos (show (true && true) = true from rfl)]
  cases xs <;> rfl
end Pm

namespace Pm
open PySem
open PySem.W (Datum DatumOrd Tup listLt maxOf minOf)
/-! ### yarns that break round by round -/
theorem rgs_len (n : Nat) : (rg n).length = n := by unfold rg; rw [List.length_map, List.length_range]
theorem rg_nodup (n : Nat) : (rg n).Nodup := (rg_asc n).imp fun h => by omega
def weak (xs : List Int) (ld : Int) (m : Nat) (i : Int) : Bool := decide (val xs i * m < ld)
def wk (xs : List Int) (ld : Int) (l : List Int) : List Int := l.filter (weak xs ld l.length)
def nx (xs : List Int) (ld : Int) (l : List Int) : List Int := l.filter fun i => decide (i ∉ wk xs ld l)
def rds (xs : List Int) (ld : Int) : Nat → List Int → List (List Int) × List Int
  | 0, l => ([], l)
  | k + 1, l => if wk xs ld l = [] then ([], l) else (wk xs ld l :: (rds xs ld k (nx xs ld l)).1, (rds xs ld k (nx xs ld l)).2)
section
variable {xs : List Int} {ld : Int}
theorem mem_nx {l : List Int} {i : Int} : i ∈ nx xs ld l ↔ i ∈ l ∧ weak xs ld l.length i = false := by
  unfold nx wk
  rw [List.mem_filter, decide_eq_true_eq, List.mem_filter]
  constructor
  · rintro ⟨h1, h2⟩
    refine ⟨h1, ?_⟩
    cases q : weak xs ld l.length i with
    | false => rfl
    | true => exact absurd ⟨h1, q⟩ h2
  · rintro ⟨h1, h2⟩
    exact ⟨h1, fun z => by rw [h2] at z; exact absurd z.2 (by decide)⟩
theorem nx_lt {l : List Int} (h : wk xs ld l ≠ []) : (nx xs ld l).length < l.length := by
  obtain ⟨i, hi⟩ := List.exists_mem_of_ne_nil _ h
  have h1 : i ∈ l := (List.mem_filter.mp hi).1
  unfold nx
  refine List.length_filter_lt_length_iff_exists.mpr ⟨i, h1, ?_⟩
  simp [hi]
theorem rds_wk : ∀ (k : Nat) (l : List Int), l.length ≤ k → wk xs ld (rds xs ld k l).2 = []
  | 0, l, h => by
    have : l = [] := List.length_eq_zero_iff.mp (by omega)
    subst this
    rfl
  | k + 1, l, h => by
    unfold rds
    by_cases c : wk xs ld l = []
    · rw [if_pos c]; exact c
    · rw [if_neg c]
      have := nx_lt c
      exact rds_wk k _ (by omega)
theorem rds_sub : ∀ (k : Nat) (l : List Int), (rds xs ld k l).2.Sublist l
  | 0, l => List.Sublist.refl _
  | k + 1, l => by
    unfold rds
    by_cases c : wk xs ld l = []
    · rw [if_pos c]; exact List.Sublist.refl _
    · rw [if_neg c]; exact (rds_sub k _).trans List.filter_sublist
theorem rds_stay {T : List Int} (h0 : ∀ i ∈ T, 0 ≤ val xs i) (h1 : ∀ i ∈ T, ld ≤ val xs i * T.length) : ∀ (k : Nat) (l : List Int), T.Sublist l → T.Sublist (rds xs ld k l).2
  | 0, l, h => h
  | k + 1, l, h => by
    unfold rds
    by_cases c : wk xs ld l = []
    · rw [if_pos c]; exact h
    · rw [if_neg c]
      refine rds_stay h0 h1 k _ ?_
      have e : T = T.filter fun i => decide (i ∉ wk xs ld l) := by
        refine (List.filter_eq_self.mpr fun i hi => ?_).symm
        rw [decide_eq_true_eq]
        intro z
        have z := (List.mem_filter.mp z).2
        have z : val xs i * l.length < ld := of_decide_eq_true z
        have a := h0 i hi
        have b := h1 i hi
        have hl : (T.length : Int) ≤ l.length := by have := h.length_le; omega
        have := Int.mul_le_mul_of_nonneg_left hl a
        omega
      rw [e]
      exact h.filter _
theorem hold_iff (hp : ∀ x ∈ xs, 1 ≤ x) : (rds xs ld xs.length (rg xs.length)).2 ≠ [] ↔ ∃ T, T ≠ [] ∧ T.Sublist (rg xs.length) ∧ ∀ i ∈ T, ld ≤ val xs i * T.length := by
  constructor
  · intro h
    refine ⟨_, h, rds_sub _ _, fun i hi => ?_⟩
    have w := rds_wk (xs := xs) (ld := ld) xs.length (rg xs.length) (by rw [rgs_len]; exact Nat.le_refl _)
    unfold wk at w
    rw [List.filter_eq_nil_iff] at w
    have z := w i hi
    unfold weak at z
    rw [decide_eq_true_eq] at z
    omega
  · rintro ⟨T, h1, h2, h3⟩
    have hv : ∀ i ∈ T, 0 ≤ val xs i := fun i hi => by
      have := rg_mem.mp (h2.subset hi)
      have hl : i.toNat < xs.length := by omega
      unfold val
      rw [List.getD_eq_getElem?_getD, List.getElem?_eq_getElem hl]
      have := hp _ (List.getElem_mem hl)
      show 0 ≤ xs[i.toNat]
      omega
    have := rds_stay hv h3 xs.length (rg xs.length) h2
    intro z
    rw [z] at this
    exact h1 (List.sublist_nil.mp this)
end
theorem map_val (xs : List Int) : (rg xs.length).map (val xs) = xs := by
  apply List.ext_getElem?
  intro i
  unfold rg
  rw [List.map_map, List.getElem?_map]
  by_cases h : i < xs.length
  · rw [List.getElem?_range h, List.getElem?_eq_getElem h]
    show some (val xs (i : Int)) = _
    unfold val
    rw [Int.toNat_natCast, List.getD_eq_getElem?_getD, List.getElem?_eq_getElem h]
    rfl
  · rw [List.getElem?_eq_none (by simp; omega), List.getElem?_eq_none (by omega)]
    rfl
/-! ### the greatest load -/
def mbL (xs : List Int) : List Int := (srtT xs).zipIdx.map fun p => p.1 * ((xs.length : Int) - (p.2 : Int))
theorem srt_le {xs : List Int} : (srtT xs).Pairwise (· ≤ ·) := (srtT_sorted xs).imp fun {a b} h => by
  have h : decide (b < a) = false := h
  simpa using h
theorem srt_len (xs : List Int) : (srtT xs).length = xs.length := (srtT_perm xs).length_eq
theorem mbL_mem {xs : List Int} {y : Int} : y ∈ mbL xs ↔ ∃ (j : Nat) (hj : j < (srtT xs).length), y = (srtT xs)[j] * ((xs.length : Int) - j) := by
  unfold mbL
  rw [List.mem_map]
  constructor
  · rintro ⟨⟨x, j⟩, h, rfl⟩
    rw [List.mk_mem_zipIdx_iff_getElem?] at h
    obtain ⟨hj, e⟩ := List.getElem?_eq_some_iff.mp h
    exact ⟨j, hj, by rw [e]⟩
  · rintro ⟨j, hj, rfl⟩
    exact ⟨((srtT xs)[j], j), List.mk_mem_zipIdx_iff_getElem?.mpr (List.getElem?_eq_getElem hj), rfl⟩
theorem hold_mb {xs : List Int} {ld : Int} (hp : ∀ x ∈ xs, 1 ≤ x) : (rds xs ld xs.length (rg xs.length)).2 ≠ [] ↔ ∃ y ∈ mbL xs, ld ≤ y := by
  rw [hold_iff hp]
  obtain ⟨o, ho⟩ : ∃ o, o = srtT xs := ⟨_, rfl⟩
  have ol : o.length = xs.length := by rw [ho]; exact srt_len xs
  have os : o.Pairwise (· ≤ ·) := by rw [ho]; exact srt_le
  have op : o.Perm xs := by rw [ho]; exact srtT_perm xs
  constructor
  · rintro ⟨T, h1, h2, h3⟩
    have hl := h2.length_le
    rw [rgs_len] at hl
    have h0 : 0 < T.length := List.length_pos_iff.mpr h1
    have hj : xs.length - T.length < o.length := by omega
    -- one of them is not above the place
    have key : ∃ i ∈ T, val xs i ≤ o[xs.length - T.length] := by
      by_cases c : ∃ i ∈ T, val xs i ≤ o[xs.length - T.length]
      · exact c
      · exfalso
        have c : ∀ i ∈ T, o[xs.length - T.length] < val xs i := fun i hi => by
          by_cases q : o[xs.length - T.length] < val xs i
          · exact q
          · exact absurd ⟨i, hi, by omega⟩ c
        have s1 : (T.map (val xs)).Sublist xs := by have := h2.map (val xs); rw [map_val] at this; exact this
        have s2 := s1.filter fun v => decide (o[xs.length - T.length] < v)
        rw [List.filter_eq_self.mpr (fun v hv => by
          obtain ⟨i, hi, rfl⟩ := List.mem_map.mp hv
          exact decide_eq_true (c i hi))] at s2
        have s3 := s2.length_le
        rw [List.length_map, ← (op.filter _).length_eq] at s3
        have e : o = o.take (xs.length - T.length + 1) ++ o.drop (xs.length - T.length + 1) := (List.take_append_drop _ _).symm
        have z : (o.take (xs.length - T.length + 1)).filter (fun v => decide (o[xs.length - T.length] < v)) = [] := by
          rw [List.filter_eq_nil_iff]
          intro v hv
          obtain ⟨a, ha, rfl⟩ := List.mem_take_iff_getElem.mp hv
          rw [decide_eq_true_eq]
          have : o[a] ≤ o[xs.length - T.length] := by
            by_cases q : a = xs.length - T.length
            · subst q; exact Int.le_refl _
            · exact List.pairwise_iff_getElem.mp os a _ (by omega) hj (by omega)
          omega
        have len : (o.filter fun v => decide (o[xs.length - T.length] < v)).length ≤ T.length - 1 := by
          have e2 : (o.filter fun v => decide (o[xs.length - T.length] < v)) = (o.drop (xs.length - T.length + 1)).filter fun v => decide (o[xs.length - T.length] < v) := by
            have := congrArg (List.filter fun v => decide (o[xs.length - T.length] < v)) e
            rw [List.filter_append, z, List.nil_append] at this
            exact this
          rw [e2]
          refine Nat.le_trans (List.length_filter_le _ _) ?_
          rw [List.length_drop]
          omega
        omega
    obtain ⟨i, hi, hv⟩ := key
    refine ⟨_, mbL_mem.mpr ⟨xs.length - T.length, by rw [← ho]; exact hj, rfl⟩, ?_⟩
    have e1 : ((xs.length : Int) - ((xs.length - T.length : Nat) : Int)) = T.length := by omega
    rw [e1]
    have a := h3 i hi
    have b := Int.mul_le_mul_of_nonneg_right hv (show (0 : Int) ≤ T.length by omega)
    have e3 : (srtT xs)[xs.length - T.length]'(by rw [← ho]; exact hj) = o[xs.length - T.length] := by subst ho; rfl
    rw [e3]
    omega
  · rintro ⟨y, hy, hld⟩
    obtain ⟨j, hj, rfl⟩ := mbL_mem.mp hy
    have hj2 : j < xs.length := by rw [← srt_len xs]; exact hj
    obtain ⟨v, ev⟩ : ∃ v, v = (srtT xs)[j] := ⟨_, rfl⟩
    rw [← ev] at hld
    have hv : 1 ≤ v := by rw [ev]; exact hp _ ((srtT_perm xs).mem_iff.mp (List.getElem_mem hj))
    refine ⟨(rg xs.length).filter fun i => decide (v ≤ val xs i), ?_, List.filter_sublist, ?_⟩
    all_goals
      have cnt : xs.length - j ≤ ((rg xs.length).filter fun i => decide (v ≤ val xs i)).length := by
        have e : ((rg xs.length).filter fun i => decide (v ≤ val xs i)).length = (xs.filter fun x => decide (v ≤ x)).length := by
          have : (xs.filter fun x => decide (v ≤ x)) = ((rg xs.length).filter fun i => decide (v ≤ val xs i)).map (val xs) := by
            conv => lhs; rw [← map_val xs, List.filter_map]
            rfl
          rw [this, List.length_map]
        rw [e, ← ((srtT_perm xs).filter _).length_eq]
        have e2 : srtT xs = (srtT xs).take j ++ (srtT xs).drop j := (List.take_append_drop _ _).symm
        have e3 := congrArg (fun l => (List.filter (fun x => decide (v ≤ x)) l).length) e2
        simp only [List.filter_append, List.length_append] at e3
        have e4 : ((srtT xs).drop j).filter (fun x => decide (v ≤ x)) = (srtT xs).drop j := by
          refine List.filter_eq_self.mpr fun x hx => ?_
          obtain ⟨a, ha, rfl⟩ := List.mem_drop_iff_getElem.mp hx
          rw [decide_eq_true_eq, ev]
          by_cases q : a = 0
          · subst q; simp
          · exact List.pairwise_iff_getElem.mp srt_le j (j + a) hj (by omega) (by omega)
        rw [e4, List.length_drop, srt_len] at e3
        omega
    · intro z
      rw [z] at cnt
      simp at cnt
      omega
    · intro i hi
      have hi := of_decide_eq_true (List.mem_filter.mp hi).2
      have c2 : ((xs.length : Int) - j) ≤ ((rg xs.length).filter fun i => decide (v ≤ val xs i)).length := by omega
      have a := Int.mul_le_mul_of_nonneg_left c2 (show 0 ≤ v by omega)
      have b := Int.mul_le_mul_of_nonneg_right hi (show (0 : Int) ≤ ((rg xs.length).filter fun i => decide (v ≤ val xs i)).length by omega)
      omega
theorem sum_ge {v : Int} : ∀ {l : List Int}, (∀ x ∈ l, v ≤ x) → v * l.length ≤ l.sum
  | [], _ => by simp
  | x :: l, h => by
    have h1 := h x List.mem_cons_self
    have h2 := sum_ge (v := v) (l := l) fun y hy => h y (List.mem_cons_of_mem _ hy)
    rw [List.sum_cons, List.length_cons]
    have : v * ((l.length + 1 : Nat) : Int) = v * l.length + v := by rw [Int.natCast_add]; rw [Int.mul_add]; simp
    omega
theorem sum_nn : ∀ {l : List Int}, (∀ x ∈ l, 0 ≤ x) → 0 ≤ l.sum
  | [], _ => by simp
  | x :: l, h => by
    have h1 := h x List.mem_cons_self
    have h2 := sum_nn (l := l) fun y hy => h y (List.mem_cons_of_mem _ hy)
    rw [List.sum_cons]
    omega
theorem mb_le {xs : List Int} (hp : ∀ x ∈ xs, 1 ≤ x) {y : Int} (h : y ∈ mbL xs) : y ≤ xs.sum ∧ 0 ≤ y := by
  obtain ⟨j, hj, rfl⟩ := mbL_mem.mp h
  have hj2 : j < xs.length := by rw [← srt_len xs]; exact hj
  have hv : 1 ≤ (srtT xs)[j] := hp _ ((srtT_perm xs).mem_iff.mp (List.getElem_mem hj))
  have e2 : srtT xs = (srtT xs).take j ++ (srtT xs).drop j := (List.take_append_drop _ _).symm
  have e3 := congrArg List.sum e2
  rw [List.sum_append, perm_sum (srtT_perm xs)] at e3
  have h1 := sum_nn (l := (srtT xs).take j) fun x hx => by have := hp _ ((srtT_perm xs).mem_iff.mp (List.mem_of_mem_take hx)); omega
  have h2 := sum_ge (v := (srtT xs)[j]) (l := (srtT xs).drop j) fun x hx => by
    obtain ⟨a, ha, rfl⟩ := List.mem_drop_iff_getElem.mp hx
    by_cases q : a = 0
    · subst q; simp
    · exact List.pairwise_iff_getElem.mp srt_le j (j + a) hj (by omega) (by omega)
  rw [List.length_drop, srt_len] at h2
  have e4 : ((xs.length - j : Nat) : Int) = (xs.length : Int) - j := by omega
  rw [e4] at h2
  refine ⟨by omega, Int.mul_nonneg (by omega) (by omega)⟩
end Pm

namespace Pm
open PySem
open PySem.W (Datum DatumOrd Tup listLt maxOf minOf)
open L2 (Key)
/-- a list or a tuple of numbers -/
def sq (b : Bool) (xs : List Int) : D := if b then .tuple (xs.map .int) else .list (xs.map .int)
@[simp] theorem len_sq (b : Bool) (xs : List Int) : lenD [sq b xs] = some (.int xs.length) := by cases b <;> simp [sq]
theorem ixl_val {ps : List Int} {i : Int} (h : 0 ≤ i ∧ i < ps.length) : ixD (.list (ps.map .int)) (.int i) = some (.int (val ps i)) := by
  have hl : i.toNat < ps.length := by omega
  have e : (ps.map PyData.int)[i.toNat]? = some (.int (val ps i)) := by
    rw [List.getElem?_map, List.getElem?_eq_getElem hl]
    unfold val
    rw [List.getD_eq_getElem?_getD, List.getElem?_eq_getElem hl]
    rfl
  have z := ixL_at e
  rw [Int.toNat_of_nonneg h.1] at z
  exact z
theorem val_bd {xs : List Int} {B : Int} (h : ∀ x ∈ xs, 1 ≤ x ∧ x ≤ B) {i : Int} (hi : 0 ≤ i ∧ i < xs.length) : 1 ≤ val xs i ∧ val xs i ≤ B := by
  have hl : i.toNat < xs.length := by omega
  unfold val
  rw [List.getD_eq_getElem?_getD, List.getElem?_eq_getElem hl]
  exact h _ (List.getElem_mem hl)
def rowsD (f : List (List Int)) : List D := f.map fun r => dt (⟨r⟩ : Gp)
theorem rowsD_len (f : List (List Int)) : (rowsD f).length = f.length := List.length_map _
theorem rowsD_snoc (f : List (List Int)) (r : List Int) : rowsD (f ++ [r]) = rowsD f ++ [.tuple (r.map .int)] := by unfold rowsD; rw [List.map_append]; rfl
@[simp] theorem rowsD_nil : rowsD [] = [] := rfl
structure Yn (xs : List Int) : Prop where
  pos : ∀ x ∈ xs, 1 ≤ x ∧ x ≤ 99
  n0 : 1 ≤ xs.length
  n6 : xs.length ≤ 6
section
variable {xs : List Int} {ld : Int} (hy : Yn xs) (hd : 0 ≤ ld ∧ ld ≤ 1000)
theorem wk_ok (ρ : PE0) (l : List Int) (hl : ∀ i ∈ l, 0 ≤ i ∧ i < xs.length) (hy : Yn xs) (h0 : ρ[0]? = some (.v (.tuple (xs.map .int)))) (h1 : ρ[1]? = some (.v (.int ld))) (h2 : ρ[2]? = some (.v (.list (l.map .int)))) (hp : plainAt [5] ρ = true) (h5 : 5 < ρ.length) (ll : l.length ≤ 6) :
    mLc [5] (mItems (mVar 2)) (gSet 5) (tCmpM ltI (mOp2 mulI (mOp2 ixD (mVar 0) (mVar 5)) (mCallB lenD (mCons (mVar 2) mNil))) (mVar 1)) (mVar 5) ρ = .ok (.l ((wk xs ld l).map .int)) ρ := by
  refine lc1 PyData.int l (weak xs ld l.length) PyData.int ?_ hp h5 fun i hi => ?_
  · simp [h2]
  · have v := val_bd hy.pos (hl i hi)
    have m := mulI_int (i := val xs i) (j := (l.length : Int)) (by omega) (by omega)
    simp [h0, h1, h2, h5, ix_val (hl i hi), m, weak]
theorem nx_ok (ρ : PE0) (l b : List Int) (h2 : ρ[2]? = some (.v (.list (l.map .int)))) (h4 : ρ[4]? = some (.v (.list (b.map .int)))) (hp : plainAt [5] ρ = true) (h5 : 5 < ρ.length) :
    mLc [5] (mItems (mVar 2)) (gSet 5) (tCmpM notInO (mVar 5) (mVar 4)) (mVar 5) ρ = .ok (.l ((l.filter fun i => decide (i ∉ b)).map .int)) ρ := by
  refine lc1 PyData.int l (fun i => decide (i ∉ b)) PyData.int ?_ hp h5 fun i hi => ?_
  · simp [h2]
  · have z := notIn_dl i b
    rw [show b.map dt = b.map PyData.int from rfl, show (dt i : D) = .int i from rfl] at z
    simp [h4, h5, z]
abbrev stR (xs : List Int) (ld : Int) (l : List Int) (f : List (List Int)) (b : List Int) : PE0 := [.v (.tuple (xs.map .int)), .v (.int ld), .v (.list (l.map .int)), .own (.l (rowsD f)), .v (.list (b.map .int)), .un]
theorem rounds_wh {C : MT} {B : MS} (hC : ∀ l f b, C (stR xs ld l f b) = .ok (decide (0 < b.length)) (stR xs ld l f b)) (hB : ∀ l f, (∀ i : Int, i ∈ l → 0 ≤ i ∧ i < xs.length) → l.length ≤ 6 → f.length ≤ 100 → B (stR xs ld l f (wk xs ld l)) = .nx (stR xs ld (nx xs ld l) (f ++ [wk xs ld l]) (wk xs ld (nx xs ld l)))) :
    ∀ (k N : Nat) (l : List Int) (f : List (List Int)), l.length ≤ k → k < N → (∀ i : Int, i ∈ l → 0 ≤ i ∧ i < xs.length) → l.length ≤ 6 → f.length + k ≤ 100 → whGo C B N (stR xs ld l f (wk xs ld l)) = .nx (stR xs ld (rds xs ld k l).2 (f ++ (rds xs ld k l).1) []) := by
  intro k
  induction k with
  | zero =>
    intro N l f hl hN hr h6 hf
    obtain ⟨N, rfl⟩ : ∃ M, N = M + 1 := ⟨N - 1, by omega⟩
    have : l = [] := List.length_eq_zero_iff.mp (by omega)
    subst this
    unfold whGo
    rw [hC]
    simp [wk, rds]
  | succ k ih =>
    intro N l f hl hN hr h6 hf
    obtain ⟨N, rfl⟩ : ∃ M, N = M + 1 := ⟨N - 1, by omega⟩
    unfold whGo
    rw [hC]
    by_cases c : wk xs ld l = []
    · unfold rds
      rw [if_pos c, c]
      simp
    · have hw : 0 < (wk xs ld l).length := List.length_pos_iff.mpr c
      have h1 := nx_lt c
      have e : rds xs ld (k + 1) l = (wk xs ld l :: (rds xs ld k (nx xs ld l)).1, (rds xs ld k (nx xs ld l)).2) := by conv => lhs; unfold rds; rw [if_neg c]
      have z := ih N (nx xs ld l) (f ++ [wk xs ld l]) (by omega) (by omega) (fun i hi => hr i (mem_nx.mp hi).1) (by omega) (by rw [List.length_append, List.length_singleton]; omega)
      rw [e, Fl.of_ok]
      rw [if_pos (by simp [hw]), hB l f hr h6 (by omega)]
      dsimp only
      rw [z, List.append_assoc]
      rfl
include hy hd
theorem rounds_ok : F_rounds_of [.tuple (xs.map .int), .int ld] = .ok (.tuple [.list (rowsD (rds xs ld xs.length (rg xs.length)).1), .list ((rds xs ld xs.length (rg xs.length)).2.map .int)]) := by
  have n6 := hy.n6
  have hrg : ∀ i ∈ rg xs.length, 0 ≤ i ∧ i < xs.length := fun i hi => rg_mem.mp hi
  have hlr : lstRgO [.int (xs.length : Int)] = some (.l ((rg xs.length).map .int)) := by
    have h1 : xs.length = 1 ∨ xs.length = 2 ∨ xs.length = 3 ∨ xs.length = 4 ∨ xs.length = 5 ∨ xs.length = 6 := by have := hy.n0; omega
    rcases h1 with h | h | h | h | h | h <;> rw [h] <;> rfl
  show outOf (m_rounds_of (ps0 6 [.tuple (xs.map .int), .int ld])) = _
  unfold m_rounds_of
  refine (congrArg outOf (mSq_nx (ρ1 := [.v (.tuple (xs.map .int)), .v (.int ld), .v (.list ((rg xs.length).map .int)), .own (.l []), .un, .un]) ?_)).trans ?_
  · simp [hlr]
  refine (congrArg outOf (mSq_nx (ρ1 := stR xs ld (rg xs.length) [] (wk xs ld (rg xs.length))) ?_)).trans ?_
  · have e := wk_ok (ld := ld) [.v (.tuple (xs.map .int)), .v (.int ld), .v (.list ((rg xs.length).map .int)), .own (.l []), .un, .un] (rg xs.length) hrg hy rfl rfl rfl (by simp [plainAt, Sl.plain]) (by simp) (by rw [rgs_len]; exact n6)
    simp only [List.map_cons, List.map_nil] at e ⊢
    simp [e]
  refine (congrArg outOf (mSq_nx (ρ1 := stR xs ld (rds xs ld xs.length (rg xs.length)).2 (rds xs ld xs.length (rg xs.length)).1 []) ?_)).trans ?_
  · have z := rounds_wh (xs := xs) (ld := ld) (C := tCmpM gtI (mCallB lenD (mCons (mVar 4) mNil)) (mC (.int 0))) (B := mSq (mMeth 3 appD (mCons (mCallB tupleD (mCons (mVar 4) mNil)) mNil))
      (mSq (mSt 2 (mGive (mLc (List.map (fun q : Str × Nat => q.2) [("at", 5)]) (mItems (mVar 2)) (gSet 5) (tCmpM notInO (mVar 5) (mVar 4)) (mVar 5))))
      (mSt 4 (mGive (mLc (List.map (fun q : Str × Nat => q.2) [("at", 5)]) (mItems (mVar 2)) (gSet 5) (tCmpM ltI (mOp2 mulI (mOp2 ixD (mVar 0) (mVar 5)) (mCallB lenD (mCons (mVar 2) mNil))) (mVar 1)) (mVar 5))))))
      (fun l f b => by simp) (fun l f hr h6 hf => by
        refine (mSq_nx (ρ1 := [.v (.tuple (xs.map .int)), .v (.int ld), .v (.list (l.map .int)), .own (.l (rowsD (f ++ [wk xs ld l]))), .v (.list ((wk xs ld l).map .int)), .un]) ?_).trans ?_
        · have ha := appD_d (a := rowsD f) (d := dt (⟨wk xs ld l⟩ : Gp)) (by rw [rowsD_len]; omega)
          rw [show dt (⟨wk xs ld l⟩ : Gp) = .tuple ((wk xs ld l).map .int) from rfl] at ha
          rw [rowsD_snoc]
          simp [ha]
        refine (mSq_nx (ρ1 := [.v (.tuple (xs.map .int)), .v (.int ld), .v (.list ((nx xs ld l).map .int)), .own (.l (rowsD (f ++ [wk xs ld l]))), .v (.list ((wk xs ld l).map .int)), .un]) ?_).trans ?_
        · have e := nx_ok [.v (.tuple (xs.map .int)), .v (.int ld), .v (.list (l.map .int)), .own (.l (rowsD (f ++ [wk xs ld l]))), .v (.list ((wk xs ld l).map .int)), .un] l (wk xs ld l) rfl rfl (by simp [plainAt, Sl.plain]) (by simp)
          simp only [List.map_cons, List.map_nil] at e ⊢
          unfold nx
          simp [e]
        · have e := wk_ok (ld := ld) [.v (.tuple (xs.map .int)), .v (.int ld), .v (.list ((nx xs ld l).map .int)), .own (.l (rowsD (f ++ [wk xs ld l]))), .v (.list ((wk xs ld l).map .int)), .un] (nx xs ld l) (fun i hi => hr i (mem_nx.mp hi).1) hy rfl rfl rfl (by simp [plainAt, Sl.plain]) (by simp) (Nat.le_trans (List.length_filter_le _ _) h6)
          simp only [List.map_cons, List.map_nil] at e ⊢
          simp [e])
      xs.length 100000 (rg xs.length) [] (by rw [rgs_len]; exact Nat.le_refl _) (by omega) hrg (by rw [rgs_len]; exact n6) (by simp; omega)
    rw [List.nil_append] at z
    exact z
  · simp
end
end Pm

namespace Pm
open PySem
open PySem.W (Datum DatumOrd Tup listLt maxOf minOf)
open L2 (Key)
/-! ### the law's dict -/
def kvs (xs : List Int) (l : List Int) : List (Key × D) := l.map fun i => (Sum.inl i, .int (val xs i))
theorem kvs_len (xs l : List Int) : (kvs xs l).length = l.length := List.length_map _
theorem kvs_get {xs : List Int} : ∀ {l : List Int} {i : Int}, i ∈ l → dval (kvs xs l) (Sum.inl i) = some (.int (val xs i))
  | j :: l, i, h => by
    unfold dval kvs
    rw [List.map_cons, List.find?_cons]
    by_cases e : j = i
    · subst e; simp
    · have : decide ((Sum.inl j : Key) = Sum.inl i) = false := by
        rw [decide_eq_false_iff_not]
        intro z
        exact e (by injection z)
      simp only [this]
      rcases List.mem_cons.mp h with h | h
      · exact absurd h.symm e
      · exact kvs_get h
theorem kvs_ints (xs : List Int) : ∀ l : List Int, intKeys (kvs xs l) = some l
  | [] => rfl
  | i :: l => by
    have := kvs_ints xs l
    unfold kvs at this ⊢
    rw [List.map_cons]
    unfold intKeys
    simp [this]
theorem isrt_asc {l : List Int} (h : l.Pairwise (· < ·)) : isrt l = l := (isrt_of (ns := l) (ys := l) (.refl _) (h.imp fun z => by omega)).symm
theorem enK_rg (xs : List Int) : enK (xs.map PyData.int) = kvs xs (rg xs.length) := by
  apply List.ext_getElem?
  intro i
  unfold enK kvs rg
  rw [List.getElem?_map, List.getElem?_zipIdx, List.getElem?_map, List.map_map, List.getElem?_map]
  by_cases h : i < xs.length
  · rw [List.getElem?_range h, List.getElem?_eq_getElem h]
    show some ((Sum.inl ((0 + i : Nat) : Int) : Key), PyData.int xs[i]) = some (Sum.inl ((i : Nat) : Int), .int (val xs ((i : Nat) : Int)))
    unfold val
    rw [Int.toNat_natCast, List.getD_eq_getElem?_getD, List.getElem?_eq_getElem h, Nat.zero_add]
    rfl
  · rw [List.getElem?_eq_none (l := xs) (by omega), List.getElem?_eq_none (l := List.range xs.length) (by rw [List.length_range]; omega)]
    rfl
theorem prs_kvs (xs : List Int) : ∀ l : List Int, prs (l.map fun i => PyData.tuple [.int i, .int (val xs i)]) = some (kvs xs l)
  | [] => rfl
  | i :: l => by
    rw [List.map_cons]
    unfold prs
    rw [prs_kvs xs l]
    rfl
theorem kvs_nodup {xs l : List Int} (h : l.Nodup) : ((kvs xs l).map (·.1)).Nodup := by
  unfold kvs
  rw [List.map_map]
  exact List.pairwise_map.mpr (h.imp fun {a b} z e => z (by injection e))
section
variable {xs : List Int} {ld : Int} (hy : Yn xs) (hd : 0 ≤ ld ∧ ld ≤ 1000)
abbrev stL (a : D) (ld : Int) (w : Ow) (f : List (List Int)) (s4 s5 : Sl) : PE0 := [.v a, .v (.int ld), .own w, .own (.l (rowsD f)), s4, s5, .un, .un]
abbrev brB : MS := mSq (mSt 5 (mCallB tupleD (mCons (mGive (mLc (List.map (fun q : Str × Nat => q.2) [("at", 6)]) (mItems (mGive (mOdsort 2))) (gSet 6) (tCmpM ltI (mOp2 mulI (mOdget 2 (mVar 6)) (mOdlen 2)) (mVar 1)) (mVar 6))) mNil)))
  (mSq (mIfS (tCmpM eqO (mVar 5) (mTup mNil)) (fun ρ => .bk ρ) mNx)
  (mSq (mMeth 3 appD (mCons (mVar 5) mNil))
  (mStO 2 (mCallO dictPr (mCons (mGive (mLc (List.map (fun q : Str × Nat => q.2) [("at", 6), ("strength", 7)]) (mOitemsK 2) (gTupM 2 (gsCons (gSet 6) (gsCons (gSet 7) gsNil))) (tCmpM notInO (mVar 6) (mVar 5)) (mTup (mCons (mVar 6) (mCons (mVar 7) mNil))))) mNil)))))
include hy hd
theorem br_gone {a : D} {l : List Int} {f : List (List Int)} {s4 s5 : Sl} (hr : ∀ i : Int, i ∈ l → 0 ≤ i ∧ i < xs.length) (h6 : l.length ≤ 6) (hs : l.Pairwise (· < ·)) :
    mSt 5 (mCallB tupleD (mCons (mGive (mLc (List.map (fun q : Str × Nat => q.2) [("at", 6)]) (mItems (mGive (mOdsort 2))) (gSet 6) (tCmpM ltI (mOp2 mulI (mOdget 2 (mVar 6)) (mOdlen 2)) (mVar 1)) (mVar 6))) mNil)) (stL a ld (.dk (kvs xs l)) f s4 s5) = .nx (stL a ld (.dk (kvs xs l)) f s4 (.v (dt (⟨wk xs ld l⟩ : Gp)))) := by
  have e : mLc [6] (mItems (mGive (mOdsort 2))) (gSet 6) (tCmpM ltI (mOp2 mulI (mOdget 2 (mVar 6)) (mOdlen 2)) (mVar 1)) (mVar 6) (stL a ld (.dk (kvs xs l)) f s4 s5) = .ok (.l ((wk xs ld l).map .int)) (stL a ld (.dk (kvs xs l)) f s4 s5) := by
    refine lc1 PyData.int l (weak xs ld l.length) PyData.int ?_ ?_ ?_ fun i hi => ?_
    · have h64 : l.length < 64 := by omega
      simp [kvs_ints, isrt_asc hs, h64]
    · simp [plainAt, Sl.plain]
    · simp
    · have v := val_bd hy.pos (hr i hi)
      have m := mulI_int (i := val xs i) (j := (l.length : Int)) (by omega) (by omega)
      have g : dgetO (.dk (kvs xs l)) (.int i) = some (some (.int (val xs i))) := congrArg some (kvs_get hi)
      simp [g, kvs_len, m, weak]
  simp only [List.map_cons, List.map_nil] at e ⊢
  simp [e, dt_tup]
theorem br_step {a : D} {l : List Int} {f : List (List Int)} {s4 s5 : Sl} (hr : ∀ i : Int, i ∈ l → 0 ≤ i ∧ i < xs.length) (h6 : l.length ≤ 6) (hs : l.Pairwise (· < ·)) (hf : f.length ≤ 100) :
    brB (stL a ld (.dk (kvs xs l)) f s4 s5) = if wk xs ld l = [] then .bk (stL a ld (.dk (kvs xs l)) f s4 (.v (dt (⟨wk xs ld l⟩ : Gp)))) else .nx (stL a ld (.dk (kvs xs (nx xs ld l))) (f ++ [wk xs ld l]) s4 (.v (dt (⟨wk xs ld l⟩ : Gp)))) := by
  refine (mSq_nx (br_gone hy hd hr h6 hs)).trans ?_
  have q := eqO_dt (⟨wk xs ld l⟩ : Gp) ⟨[]⟩
  rw [show dt (⟨[]⟩ : Gp) = .tuple [] from rfl] at q
  by_cases c : wk xs ld l = []
  · rw [if_pos c]
    have q' : eqO (dt (⟨wk xs ld l⟩ : Gp)) (.tuple []) = some true := q.trans (by rw [c]; rfl)
    rw [mSq_eq]
    simp [q']
  · rw [if_neg c]
    have q' : eqO (dt (⟨wk xs ld l⟩ : Gp)) (.tuple []) = some false := q.trans (congrArg some (decide_eq_false fun z => c (congrArg Tup.items z)))
    refine (mSq_nx (ρ1 := stL a ld (.dk (kvs xs l)) f s4 (.v (dt (⟨wk xs ld l⟩ : Gp)))) (by simp [q'])).trans ?_
    refine (mSq_nx (ρ1 := stL a ld (.dk (kvs xs l)) (f ++ [wk xs ld l]) s4 (.v (dt (⟨wk xs ld l⟩ : Gp)))) ?_).trans ?_
    · have ha := appD_d (a := rowsD f) (d := dt (⟨wk xs ld l⟩ : Gp)) (by rw [rowsD_len]; omega)
      have e2 : rowsD (f ++ [wk xs ld l]) = rowsD f ++ [dt (⟨wk xs ld l⟩ : Gp)] := rowsD_snoc f (wk xs ld l)
      simp [ha, e2]
    · have e : mLc [6, 7] (mOitemsK 2) (gTupM 2 (gsCons (gSet 6) (gsCons (gSet 7) gsNil))) (tCmpM notInO (mVar 6) (mVar 5)) (mTup (mCons (mVar 6) (mCons (mVar 7) mNil))) (stL a ld (.dk (kvs xs l)) (f ++ [wk xs ld l]) s4 (.v (dt (⟨wk xs ld l⟩ : Gp)))) = .ok (.l ((nx xs ld l).map fun i => .tuple [.int i, .int (val xs i)])) [.v a, .v (.int ld), .un, .own (.l (rowsD (f ++ [wk xs ld l]))), s4, .v (dt (⟨wk xs ld l⟩ : Gp)), .un, .un] := by
        refine mLcT (fun i : Int => PyData.tuple [.int i, .int (val xs i)]) (as := l) (ρ := [.v a, .v (.int ld), .un, .own (.l (rowsD (f ++ [wk xs ld l]))), s4, .v (dt (⟨wk xs ld l⟩ : Gp)), .un, .un]) (fun i => decide (i ∉ wk xs ld l)) (fun i => .tuple [.int i, .int (val xs i)]) ?_ ?_ fun i hi => ?_
        · have e2 : (kvs xs l).map (fun p => PyData.tuple [keyD p.1, p.2]) = l.map fun i => PyData.tuple [.int i, .int (val xs i)] := by unfold kvs; rw [List.map_map]; rfl
          have hl : (kvs xs l).length ≤ sizeLine := by rw [kvs_len, sizeLine_eq]; omega
          simp [hl, e2]
        · simp [plainAt, Sl.plain]
        · have z := notIn_dT i (wk xs ld l)
          rw [show PyData.tuple ((wk xs ld l).map dt) = dt (⟨wk xs ld l⟩ : Gp) from rfl, show (dt i : D) = .int i from rfl] at z
          exact ⟨[.v a, .v (.int ld), .un, .own (.l (rowsD (f ++ [wk xs ld l]))), s4, .v (dt (⟨wk xs ld l⟩ : Gp)), .v (.int i), .v (.int (val xs i))], by simp [wipeP], by simp [z], fun _ => by simp, by simp [wipeP]⟩
      have nd : (nx xs ld l).Nodup := List.Nodup.sublist List.filter_sublist (hs.imp fun z => by omega)
      have hpr : dictPr [.list ((nx xs ld l).map fun i => .tuple [.int i, .int (val xs i)])] = some (.dk (kvs xs (nx xs ld l))) := by
        unfold dictPr
        simp only [prs_kvs, Option.bind_some, kvs_nodup nd, if_true]
      simp only [List.map_cons, List.map_nil] at e ⊢
      generalize ((nx xs ld l).map fun i => PyData.tuple [.int i, .int (val xs i)]) = X at e hpr
      simp [e, hpr]
end
end Pm

namespace Pm
open PySem
open PySem.W (Datum DatumOrd Tup listLt maxOf minOf)
open L2 (Key)
section
variable {xs : List Int} {ld : Int} (hy : Yn xs) (hd : 0 ≤ ld ∧ ld ≤ 1000)
include hy hd
theorem br_loop {a : D} : ∀ (ds : List D) (l : List Int) (f : List (List Int)) (s4 s5 : Sl), (∀ i : Int, i ∈ l → 0 ≤ i ∧ i < xs.length) → l.length ≤ 6 → l.Pairwise (· < ·) → f.length + ds.length ≤ 100 →
    ∃ t4 t5, forGo (gSet 4) brB ds (stL a ld (.dk (kvs xs l)) f s4 s5) = .nx (stL a ld (.dk (kvs xs (rds xs ld ds.length l).2)) (f ++ (rds xs ld ds.length l).1) t4 t5)
  | [], l, f, s4, s5, _, _, _, _ => ⟨s4, s5, by rw [List.length_nil]; unfold rds forGo; rw [List.append_nil]⟩
  | d :: ds, l, f, s4, s5, hr, h6, hs, hf => by
    rw [List.length_cons] at hf
    have st := br_step (a := a) (s4 := .v d) (s5 := s5) hy hd hr h6 hs (f := f) (by omega)
    have e : forGo (gSet 4) brB (d :: ds) (stL a ld (.dk (kvs xs l)) f s4 s5) = (match brB (stL a ld (.dk (kvs xs l)) f (.v d) s5) with | .nx ρ2 => forGo (gSet 4) brB ds ρ2 | .ct ρ2 => forGo (gSet 4) brB ds ρ2 | .bk ρ2 => .nx ρ2 | fl => fl) := by
      conv => lhs; unfold forGo
      rw [show gSet 4 d (stL a ld (.dk (kvs xs l)) f s4 s5) = some (stL a ld (.dk (kvs xs l)) f (.v d) s5) from rfl]
      all_goals rfl
    rw [e, st, List.length_cons]
    by_cases c : wk xs ld l = []
    · unfold rds
      rw [if_pos c, if_pos c]
      exact ⟨_, _, by rw [List.append_nil]⟩
    · unfold rds
      rw [if_neg c, if_neg c]
      obtain ⟨t4, t5, z⟩ := br_loop ds (nx xs ld l) (f ++ [wk xs ld l]) (.v d) (.v (dt (⟨wk xs ld l⟩ : Gp))) (fun i hi => hr i (mem_nx.mp hi).1) (Nat.le_trans (List.length_filter_le _ _) h6) (List.Pairwise.sublist List.filter_sublist hs) (by rw [List.length_append, List.length_singleton]; omega)
      refine ⟨t4, t5, ?_⟩
      dsimp only
      rw [z, List.append_assoc]
      rfl
theorem broken_ok (b : Bool) : F__law_broken [sq b xs, .int ld] = .ok (.tuple [.tuple (rowsD (rds xs ld xs.length (rg xs.length)).1), dt (⟨(rds xs ld xs.length (rg xs.length)).2⟩ : Gp)]) := by
  have n6 := hy.n6
  have hde : dictEn (sq b xs) = some (.dk (kvs xs (rg xs.length))) := by
    cases b
    · exact congrArg (fun z => some (Ow.dk z)) (enK_rg xs)
    · exact congrArg (fun z => some (Ow.dk z)) (enK_rg xs)
  have hr1 : rng1 [.int (xs.length : Int)] = some (rngD 0 xs.length) := by
    have h1 : xs.length = 1 ∨ xs.length = 2 ∨ xs.length = 3 ∨ xs.length = 4 ∨ xs.length = 5 ∨ xs.length = 6 := by have := hy.n0; omega
    rcases h1 with h | h | h | h | h | h <;> rw [h] <;> rfl
  have hdl : (rngD 0 xs.length).length = xs.length := by unfold rngD; rw [List.length_map, List.length_range]
  show outOf (m__law_broken (ps0 8 [sq b xs, .int ld])) = _
  unfold m__law_broken
  refine (congrArg outOf (mSq_nx (ρ1 := stL (sq b xs) ld (.dk (kvs xs (rg xs.length))) [] .un .un) ?_)).trans ?_
  · simp [hde]
  obtain ⟨t4, t5, z⟩ := br_loop (a := sq b xs) hy hd (rngD 0 xs.length) (rg xs.length) [] .un .un (fun i hi => rg_mem.mp hi) (by rw [rgs_len]; exact n6) (rg_asc _) (by rw [hdl]; simp; omega)
  rw [hdl, List.nil_append] at z
  have hi : mRng rng1 (mCons (mCallB lenD (mCons (mVar 0) mNil)) mNil) (stL (sq b xs) ld (.dk (kvs xs (rg xs.length))) [] .un .un) = .ok (rngD 0 xs.length) (stL (sq b xs) ld (.dk (kvs xs (rg xs.length))) [] .un .un) := by
    generalize kvs xs (rg xs.length) = X
    simp [hr1]
  rw [mSq_for hi, z]
  have hs : (rds xs ld xs.length (rg xs.length)).2.Sublist (rg xs.length) := rds_sub _ _
  have h64 : (rds xs ld xs.length (rg xs.length)).2.length < 64 := by have := hs.length_le; rw [rgs_len] at this; omega
  have ha := isrt_asc (List.Pairwise.sublist hs (rg_asc _))
  generalize (rds xs ld xs.length (rg xs.length)).2 = L at h64 ha ⊢
  simp [kvs_ints, ha, h64]
  rfl
end
/-! ### the greatest load -/
def mb (xs : List Int) : Int := match mbL xs with
  | [] => 0
  | y :: ys => maxOf y ys
theorem mb_ok {xs : List Int} (h : xs ≠ []) : mb xs ∈ mbL xs ∧ ∀ y ∈ mbL xs, y ≤ mb xs := by
  unfold mb
  cases e : mbL xs with
  | nil =>
    exfalso
    have := congrArg List.length e
    unfold mbL at this
    rw [List.length_map, List.length_zipIdx, srt_len] at this
    exact h (List.length_eq_zero_iff.mp this)
  | cons y ys => exact maxI_go ys y
theorem borne_ok {xs : List Int} (hy : Yn xs) (b : Bool) : F_most_borne [sq b xs] = .ok (.int (mb xs)) := by
  have n6 := hy.n6
  have n0 := hy.n0
  have hso : sortedA [sq b xs] = some (.l ((srtT xs).map .int)) := by
    have e := sorted_ints xs
    unfold sortedO at e
    dsimp only at e
    cases b <;> exact e
  have hen : enumD [.list ((srtT xs).map .int)] = some ((srtT xs).zipIdx.map fun p => .tuple [.int (p.2 : Nat), .int p.1]) := congrArg some (numd_zip PyData.int (srtT xs) 0)
  have hmx : maxA [.list ((mbL xs).map .int)] = some (.int (mb xs)) := by
    unfold mb
    cases e : mbL xs with
    | nil =>
      exfalso
      have := congrArg List.length e
      unfold mbL at this
      rw [List.length_map, List.length_zipIdx, srt_len] at this
      simp at this
      rw [this] at n0
      simp at n0
    | cons y ys => exact maxA_l y ys
  show outOf (m_most_borne (ps0 4 [sq b xs])) = _
  unfold m_most_borne
  refine (congrArg outOf (mSq_nx (ρ1 := [.v (sq b xs), .v (.list ((srtT xs).map .int)), .un, .un]) ?_)).trans ?_
  · simp [hso]
  have e : mLc [2, 3] (mRng enumD (mCons (mVar 1) mNil)) (gTupM 2 (gsCons (gSet 2) (gsCons (gSet 3) gsNil))) mYes (mOp2 mulI (mVar 3) (mOp2 subI (mCallB lenD (mCons (mVar 1) mNil)) (mVar 2))) [.v (sq b xs), .v (.list ((srtT xs).map .int)), .un, .un] = .ok (.l ((mbL xs).map .int)) [.v (sq b xs), .v (.list ((srtT xs).map .int)), .un, .un] := by
    have e2 : (mbL xs).map PyData.int = (srtT xs).zipIdx.map fun p => PyData.int (p.1 * ((xs.length : Int) - (p.2 : Int))) := by unfold mbL; rw [List.map_map]; rfl
    rw [e2]
    refine lc2' (fun p : Int × Nat => .tuple [.int (p.2 : Nat), .int p.1]) (srtT xs).zipIdx (fun p => .int (p.1 * ((xs.length : Int) - (p.2 : Int)))) (fun p => .int (p.2 : Nat)) (fun p => .int p.1) (fun _ => rfl) (by decide) ?_ ?_ ?_ ?_
    · simp [hen]
    · simp [plainAt, Sl.plain]
    · simp
    · intro p hp
      obtain ⟨x, j⟩ := p
      have hm := List.mk_mem_zipIdx_iff_getElem?.mp hp
      obtain ⟨hj, e3⟩ := List.getElem?_eq_some_iff.mp hm
      rw [srt_len] at hj
      have hx := hy.pos x ((srtT_perm xs).mem_iff.mp (List.mem_of_getElem? hm))
      have m := mulI_int (i := x) (j := (xs.length : Int) - j) (by omega) (by omega)
      simp [srt_len, m]
  simp only [List.map_cons, List.map_nil] at e ⊢
  simp [e, hmx]
theorem hold_le {xs : List Int} (hy : Yn xs) {ld : Int} : (rds xs ld xs.length (rg xs.length)).2 ≠ [] ↔ ld ≤ mb xs := by
  have hx : xs ≠ [] := fun z => by have := hy.n0; rw [z] at this; simp at this
  rw [hold_mb fun x hx => (hy.pos x hx).1]
  obtain ⟨h1, h2⟩ := mb_ok hx
  constructor
  · rintro ⟨y, hy, h⟩
    have := h2 y hy
    omega
  · intro h
    exact ⟨_, h1, h⟩
theorem mb_bd {xs : List Int} (hy : Yn xs) : 0 ≤ mb xs ∧ mb xs ≤ xs.sum := by
  have hx : xs ≠ [] := fun z => by have := hy.n0; rw [z] at this; simp at this
  have := mb_le (fun x hx => (hy.pos x hx).1) (mb_ok hx).1
  omega
theorem sum_le99 : ∀ {xs : List Int}, (∀ x ∈ xs, 1 ≤ x ∧ x ≤ 99) → 0 ≤ xs.sum ∧ xs.sum ≤ 99 * xs.length
  | [], _ => by simp
  | x :: xs, h => by
    have h1 := h x List.mem_cons_self
    have h2 := sum_le99 fun y hy => h y (List.mem_cons_of_mem _ hy)
    rw [List.sum_cons, List.length_cons]
    omega
/-! ### the greatest of a range -/
theorem max_range {N : Nat} {M : Int} {p : Nat → Bool} (h0 : 0 ≤ M) (h1 : M < N) (hp : ∀ w : Nat, w < N → (p w = true ↔ (w : Int) ≤ M)) : maxA [.list (((List.range N).filter p).map fun w : Nat => PyData.int w)] = some (.int M) := by
  obtain ⟨ls, hls⟩ : ∃ ls : List Int, ls = ((List.range N).filter p).map fun w : Nat => (w : Int) := ⟨_, rfl⟩
  have e : (((List.range N).filter p).map fun w : Nat => PyData.int w) = ls.map dt := by rw [hls, List.map_map]; rfl
  have m1 : M ∈ ls := by
    rw [hls]
    refine List.mem_map.mpr ⟨M.toNat, List.mem_filter.mpr ⟨List.mem_range.mpr (by omega), (hp _ (by omega)).mpr (by omega)⟩, by omega⟩
  have m2 : ∀ y ∈ ls, y ≤ M := fun y hy => by
    rw [hls] at hy
    obtain ⟨w, hw, rfl⟩ := List.mem_map.mp hy
    obtain ⟨a, b⟩ := List.mem_filter.mp hw
    exact (hp w (List.mem_range.mp a)).mp b
  rw [e]
  cases hl : ls with
  | nil => rw [hl] at m1; cases m1
  | cons x xs =>
    rw [maxA_l x xs]
    obtain ⟨g1, g2⟩ := maxI_go xs x
    rw [← hl] at g1 g2
    have a := m2 _ g1
    have b := g2 _ m1
    show some (PyData.int (maxOf x xs)) = some (.int _)
    rw [show maxOf x xs = M by omega]
/-! ### the program's answers -/
section
variable {xs : List Int} {ld : Int} (hy : Yn xs) (hd : 0 ≤ ld ∧ ld ≤ 999)
include hy
theorem are_ok : areIn (.tuple (xs.map .int)) 1 8 1 99 = true := by
  have := hy.n0
  have := hy.n6
  unfold areIn
  dsimp only
  rw [Bool.and_eq_true, Bool.and_eq_true, decide_eq_true_eq, decide_eq_true_eq, List.length_map]
  refine ⟨by omega, by omega, List.all_eq_true.mpr fun d hd => ?_⟩
  obtain ⟨p, hp, rfl⟩ := List.mem_map.mp hd
  have := hy.pos p hp
  simp [this]
theorem demS : F_demand_strengths [.tuple (xs.map .int)] = .ok .none := by
  have e := are_in_ok (.tuple (xs.map .int)) 1 8 1 99
  rw [are_ok hy] at e
  simp [F_demand_strengths, m_demand_strengths, e]
theorem bears_ok : F_bears [.tuple (xs.map .int)] = .ok (.int (mb xs)) := by
  have e := borne_ok hy true
  rw [show sq true xs = .tuple (xs.map .int) from rfl] at e
  simp [F_bears, m_bears, demS hy, e]
include hd
theorem demL : F_demand_load [.tuple (xs.map .int), .int ld] = .ok .none := by
  simp [F_demand_load, m_demand_load, demS hy, is_in_ok, hd]
theorem breaks_ok : F_breaks_at [.tuple (xs.map .int), .int ld] = .ok (.tuple (rowsD (rds xs ld xs.length (rg xs.length)).1)) := by
  have e := rounds_ok hy (ld := ld) (by omega)
  simp [F_breaks_at, m_breaks_at, demL hy hd, e]
theorem left_ok : F_left_at [.tuple (xs.map .int), .int ld] = .ok (dt (⟨(rds xs ld xs.length (rg xs.length)).2⟩ : Gp)) := by
  have e := rounds_ok hy (ld := ld) (by omega)
  have i1 : ∀ a b : D, ixD (.tuple [a, b]) (.int 1) = some b := fun a b => rfl
  simp [F_left_at, m_left_at, demL hy hd, e, i1]
  rfl
end
/-! ### no yarn breaks -/
def mn (xs : List Int) : Int := match xs with
  | [] => 0
  | x :: r => minOf x r
theorem minI_go (xs : List Int) (x : Int) : minOf x xs ∈ x :: xs ∧ ∀ y ∈ x :: xs, minOf x xs ≤ y := by
  refine ⟨minOf_mem x xs, fun y hy => ?_⟩
  have z : decide (y < minOf x xs) = false := minOf_le x xs y hy
  simpa using z
theorem first_ok {xs : List Int} (hy : Yn xs) : F_first_break [.tuple (xs.map .int)] = .ok (.int (mn xs * xs.length)) ∧ 0 ≤ mn xs * xs.length ∧ mn xs * xs.length ≤ xs.sum ∧ ∀ ld : Int, (rds xs ld xs.length (rg xs.length)).1 = [] ↔ ld ≤ mn xs * xs.length := by
  cases xs with
  | nil => have := hy.n0; simp at this
  | cons x r =>
    obtain ⟨h1, h2⟩ := minI_go r x
    have hp := hy.pos _ h1
    have n6 := hy.n6
    have m := mulI_int (i := minOf x r) (j := ((x :: r).length : Int)) (by omega) (by omega)
    have hmin : minA [.tuple ((x :: r).map .int)] = some (.int (minOf x r)) := by
      have c := cmpB_dt (x :: r) (by decide)
      rw [show (x :: r).map dt = (x :: r).map PyData.int from rfl, List.map_cons] at c
      rw [List.map_cons]
      unfold minA
      simp only []
      rw [if_pos c]
      exact congrArg some (PySem.W.minD_map x r)
    refine ⟨?_, Int.mul_nonneg (show 0 ≤ minOf x r by omega) (by omega), sum_ge fun y hy => h2 y hy, fun ld => ?_⟩
    · simp only [List.map_cons, List.length_cons] at hmin m
      simp [F_first_break, m_first_break, hmin, mn, ← List.map_cons]
      have e := demS hy
      simp only [List.map_cons] at e
      simp [e, hmin]
      simp at m
      simp [m]
    · have e : (rds (x :: r) ld (x :: r).length (rg (x :: r).length)).1 = [] ↔ wk (x :: r) ld (rg (x :: r).length) = [] := by
        rw [show (x :: r).length = r.length + 1 from rfl]
        conv => lhs; unfold rds
        by_cases c : wk (x :: r) ld (rg (r.length + 1)) = []
        · rw [if_pos c]; simp [c]
        · rw [if_neg c]; simp [c]
      rw [e]
      unfold wk
      rw [List.filter_eq_nil_iff]
      constructor
      · intro h
        obtain ⟨i, hi, e2⟩ := List.mem_map.mp (show minOf x r ∈ (rg (x :: r).length).map (val (x :: r)) by rw [map_val]; exact h1)
        have z := h i hi
        unfold weak at z
        rw [decide_eq_true_eq, rgs_len, e2] at z
        show ld ≤ minOf x r * _
        omega
      · intro h i hi
        have h : ld ≤ minOf x r * ((x :: r).length : Int) := h
        unfold weak
        rw [decide_eq_true_eq, rgs_len]
        have hv := h2 (val (x :: r) i) (by have z : val (x :: r) i ∈ (rg (x :: r).length).map (val (x :: r)) := List.mem_map.mpr ⟨i, hi, rfl⟩; rw [map_val] at z; exact z)
        have := Int.mul_le_mul_of_nonneg_right hv (show (0 : Int) ≤ ((x :: r).length : Int) by omega)
        omega
end Pm

namespace Pm
open PySem
open PySem.W (Datum DatumOrd Tup listLt maxOf minOf)
/-! ### the ring, in whole parts -/
def addAt (f : List Int) (o x : Int) : List Int := f.set o.toNat (val f o + x)
def seqN (n : Nat) (a st : Int) : List Int := (List.range (n - 1)).map fun k : Nat => (a + st * ((k : Int) + 1)) % n
def near (n : Nat) (l : List Int) (a st : Int) : Int := (((seqN n a st).filter fun i => decide (i ∈ l)).head?).getD 0
theorem seq_back {n : Nat} (hn : 1 ≤ n ∧ n ≤ 6) {a : Int} : seqN n a ((n : Int) - 1) = seqN n a (-1) := by
  unfold seqN
  refine List.map_congr_left fun k hk => ?_
  have e : a + ((n : Int) - 1) * ((k : Int) + 1) = a + -1 * ((k : Int) + 1) + (n : Int) * ((k : Int) + 1) := by
    rw [Int.sub_mul]
    omega
  rw [e, Int.add_mul_emod_self_left]
theorem seq_all {n : Nat} (hn : 1 ≤ n ∧ n ≤ 6) {a i st : Int} (ha : 0 ≤ a ∧ a < n) (hi : 0 ≤ i ∧ i < n) (hne : a ≠ i) (hs : st = 1 ∨ st = -1) : i ∈ seqN n a st := by
  unfold seqN
  rw [List.mem_map]
  have h1 : n = 1 ∨ n = 2 ∨ n = 3 ∨ n = 4 ∨ n = 5 ∨ n = 6 := by omega
  rcases hs with rfl | rfl
  · refine ⟨((i - a) % n - 1).toNat, ?_, ?_⟩
    · rw [List.mem_range]
      rcases h1 with rfl | rfl | rfl | rfl | rfl | rfl <;> omega
    · rcases h1 with rfl | rfl | rfl | rfl | rfl | rfl <;> omega
  · refine ⟨((a - i) % n - 1).toNat, ?_, ?_⟩
    · rw [List.mem_range]
      rcases h1 with rfl | rfl | rfl | rfl | rfl | rfl <;> omega
    · rcases h1 with rfl | rfl | rfl | rfl | rfl | rfl <;> omega
theorem near_mem {n : Nat} (hn : 1 ≤ n ∧ n ≤ 6) {l : List Int} {a st : Int} (ha : 0 ≤ a ∧ a < n) (hl : ∀ i : Int, i ∈ l → 0 ≤ i ∧ i < n) (h0 : l ≠ []) (hal : a ∉ l) (hs : st = 1 ∨ st = -1) : near n l a st ∈ l := by
  obtain ⟨i, hi⟩ := List.exists_mem_of_ne_nil _ h0
  have hm := seq_all hn ha (hl i hi) (fun z => hal (by rw [z]; exact hi)) hs
  unfold near
  cases e : (seqN n a st).filter fun i => decide (i ∈ l) with
  | nil =>
    rw [List.filter_eq_nil_iff] at e
    exact absurd hi (by have := e i hm; simpa using this)
  | cons x r =>
    have : x ∈ (seqN n a st).filter fun i => decide (i ∈ l) := by rw [e]; exact List.mem_cons_self
    simpa using (List.mem_filter.mp this).2
theorem val_set {f : List Int} {a i x : Int} (ha : 0 ≤ a ∧ a < f.length) (hi : 0 ≤ i) : val (f.set a.toNat x) i = if i = a then x else val f i := by
  unfold val
  rw [List.getD_eq_getElem?_getD, List.getD_eq_getElem?_getD, List.getElem?_set]
  by_cases c : i = a
  · subst c
    have : i.toNat < f.length := by omega
    simp [this]
  · rw [if_neg (by omega), if_neg c]
theorem sum_set : ∀ {f : List Int} {j : Nat} {x : Int}, j < f.length → (f.set j x).sum = f.sum - f.getD j 0 + x
  | y :: f, 0, x, _ => by simp [List.sum_cons]; omega
  | y :: f, j + 1, x, h => by
    have := sum_set (f := f) (j := j) (x := x) (by simpa using h)
    simp only [List.set_cons_succ, List.sum_cons, List.getD_cons_succ, this]
    omega
theorem sum_addAt {f : List Int} {o x : Int} (h : 0 ≤ o ∧ o < f.length) : (addAt f o x).sum = f.sum + x := by
  unfold addAt
  rw [sum_set (by omega)]
  unfold val
  omega
theorem len_addAt (f : List Int) (o x : Int) : (addAt f o x).length = f.length := List.length_set
theorem val_addAt {f : List Int} {o i x : Int} (h : 0 ≤ o ∧ o < f.length) (hi : 0 ≤ i) : val (addAt f o x) i = if i = o then val f o + x else val f i := val_set h hi
def giveL (n : Nat) (l sh f : List Int) (a : Int) : List Int := addAt (addAt (f.set a.toNat 0) (near n l a 1) (val sh a)) (near n l a (-1)) (val sh a)
def giveP (n : Nat) (l sh f : List Int) (a : Int) : List Int := (addAt (addAt f (near n l a (-1)) (val sh a)) (near n l a 1) (val sh a)).set a.toNat 0
theorem ext_val {f g : List Int} {n : Nat} (hf : f.length = n) (hg : g.length = n) (h : ∀ i : Int, 0 ≤ i ∧ i < n → val f i = val g i) : f = g := by
  apply List.ext_getElem?
  intro i
  by_cases c : i < n
  · have z := h i (by omega)
    unfold val at z
    rw [Int.toNat_natCast, List.getD_eq_getElem?_getD, List.getD_eq_getElem?_getD, List.getElem?_eq_getElem (by omega), List.getElem?_eq_getElem (by omega)] at z
    rw [List.getElem?_eq_getElem (by omega), List.getElem?_eq_getElem (by omega)]
    exact congrArg some z
  · rw [List.getElem?_eq_none (by omega), List.getElem?_eq_none (by omega)]
theorem give_eq {n : Nat} {l sh f : List Int} {a : Int} (hf : f.length = n) (ha : 0 ≤ a ∧ a < n) (h1 : 0 ≤ near n l a 1 ∧ near n l a 1 < n) (h2 : 0 ≤ near n l a (-1) ∧ near n l a (-1) < n) (n1 : near n l a 1 ≠ a) (n2 : near n l a (-1) ≠ a) : giveP n l sh f a = giveL n l sh f a := by
  unfold giveP giveL
  refine ext_val (n := n) (by rw [List.length_set, len_addAt, len_addAt]; exact hf) (by rw [len_addAt, len_addAt, List.length_set]; exact hf) fun i hi => ?_
  rw [val_set (by rw [len_addAt, len_addAt, hf]; exact ha) hi.1, val_addAt (by rw [len_addAt, hf]; exact h1) hi.1, val_addAt (by rw [hf]; exact h2) hi.1, val_addAt (by rw [len_addAt, List.length_set, hf]; exact h2) hi.1, val_addAt (by rw [List.length_set, hf]; exact h1) hi.1, val_set (by rw [hf]; exact ha) hi.1, val_addAt (by rw [hf]; exact h2) h1.1, val_addAt (by rw [List.length_set, hf]; exact h1) h2.1, val_set (by rw [hf]; exact ha) h1.1, val_set (by rw [hf]; exact ha) h2.1]
  rw [if_neg n1, if_neg n2]
  by_cases c1 : i = a
  · subst c1
    rw [if_pos rfl, if_neg (Ne.symm n2), if_neg (Ne.symm n1), if_pos rfl]
  · rw [if_neg c1]
    by_cases c2 : i = near n l a 1
    · subst c2
      rw [if_pos rfl]
      by_cases c3 : near n l a 1 = near n l a (-1)
      · rw [← c3]
        simp
      · rw [if_neg c3, if_neg c3, if_pos rfl]
    · rw [if_neg c2]
      by_cases c3 : i = near n l a (-1)
      · subst c3
        rw [if_pos rfl, if_pos rfl, if_neg c2]
      · rw [if_neg c3, if_neg c3, if_neg c2, if_neg c1]
/-- what the law does with the ones that break -/
def giveX (n : Nat) (l sh f : List Int) (a : Int) : List Int := if l = [] then f.set a.toNat 0 else giveL n l sh f a
def shR (n : Nat) (l b sh : List Int) : List Int := b.foldl (giveX n l sh) (sh.map fun s => s * 2)
def wr (xs sh : List Int) (u : Int) (l : List Int) : List Int := l.filter fun i => decide (val xs i * u < val sh i)
def ring (xs : List Int) : Nat → List Int → List Int → Int → List (List Int) × List Int
  | 0, l, _, _ => ([], l)
  | k + 1, l, sh, u => if wr xs sh u l = [] then ([], l) else
      (wr xs sh u l :: (ring xs k (l.filter fun i => decide (i ∉ wr xs sh u l)) (shR xs.length (l.filter fun i => decide (i ∉ wr xs sh u l)) (wr xs sh u l) sh) (u * 2)).1, (ring xs k (l.filter fun i => decide (i ∉ wr xs sh u l)) (shR xs.length (l.filter fun i => decide (i ∉ wr xs sh u l)) (wr xs sh u l) sh) (u * 2)).2)
theorem ring_nil (xs sh : List Int) (u : Int) : ∀ k, ring xs k [] sh u = ([], [])
  | 0 => rfl
  | k + 1 => by unfold ring; rw [if_pos (show wr xs sh u [] = [] from rfl)]
theorem wr_lt {xs sh : List Int} {u : Int} {l : List Int} (h : wr xs sh u l ≠ []) : (l.filter fun i => decide (i ∉ wr xs sh u l)).length < l.length := by
  obtain ⟨i, hi⟩ := List.exists_mem_of_ne_nil _ h
  refine List.length_filter_lt_length_iff_exists.mpr ⟨i, (List.mem_filter.mp hi).1, ?_⟩
  simp [hi]
/-! ### nothing is lost -/
structure Rg (xs : List Int) (ld : Int) (l sh : List Int) (u : Int) : Prop where
  len : sh.length = xs.length
  sub : l.Sublist (rg xs.length)
  nn : ∀ i : Int, 0 ≤ i ∧ i < xs.length → 0 ≤ val sh i
  sum : l ≠ [] → sh.sum = ld * u
  out : l ≠ [] → ∀ i : Int, 0 ≤ i ∧ i < xs.length → i ∉ l → val sh i = 0
  up : 0 < u
theorem val_map2 (sh : List Int) (i : Int) : val (sh.map fun s => s * 2) i = val sh i * 2 := by
  unfold val
  rw [List.getD_eq_getElem?_getD, List.getD_eq_getElem?_getD, List.getElem?_map]
  cases sh[i.toNat]? <;> simp
theorem sum_map2 (sh : List Int) : (sh.map fun s => s * 2).sum = sh.sum * 2 := by
  induction sh with
  | nil => rfl
  | cons s sh ih => rw [List.map_cons, List.sum_cons, List.sum_cons, ih]; omega
/-- one that breaks after the other -/
theorem give_all {n : Nat} (hn : 1 ≤ n ∧ n ≤ 6) {l sh : List Int} (hl : ∀ i : Int, i ∈ l → 0 ≤ i ∧ i < n) (h0 : l ≠ []) (hnn : ∀ i : Int, 0 ≤ i ∧ i < n → 0 ≤ val sh i) :
    ∀ (b : List Int) (f : List Int), b.Nodup → (∀ i ∈ b, (0 ≤ i ∧ i < n) ∧ i ∉ l) → f.length = n → (∀ i : Int, 0 ≤ i ∧ i < n → 0 ≤ val f i) → (∀ i ∈ b, val f i = val sh i * 2) →
      (b.foldl (giveX n l sh) f).length = n ∧ (b.foldl (giveX n l sh) f).sum = f.sum ∧ (∀ i : Int, 0 ≤ i ∧ i < n → 0 ≤ val (b.foldl (giveX n l sh) f) i) ∧ ∀ i : Int, 0 ≤ i ∧ i < n → i ∉ l → val (b.foldl (giveX n l sh) f) i = if i ∈ b then 0 else val f i
  | [], f, _, _, hf, hnf, _ => ⟨hf, rfl, hnf, fun i _ _ => by rw [if_neg (by simp)]; rfl⟩
  | a :: b, f, nd, hb, hf, hnf, h2 => by
    obtain ⟨ha, hal⟩ := hb a List.mem_cons_self
    have m1 := near_mem hn ha hl h0 hal (.inl rfl)
    have m2 := near_mem hn ha hl h0 hal (.inr rfl)
    have r1 := hl _ m1
    have r2 := hl _ m2
    have ne1 : near n l a 1 ≠ a := fun z => hal (by rw [← z]; exact m1)
    have ne2 : near n l a (-1) ≠ a := fun z => hal (by rw [← z]; exact m2)
    have eg : giveX n l sh f a = giveL n l sh f a := if_neg h0
    have gl : (giveL n l sh f a).length = n := by unfold giveL; rw [len_addAt, len_addAt, List.length_set]; exact hf
    have gv : ∀ i : Int, 0 ≤ i → val (giveL n l sh f a) i = (if i = near n l a (-1) then val sh a else 0) + (if i = near n l a 1 then val sh a else 0) + if i = a then 0 else val f i := fun i hi => by
      unfold giveL
      rw [val_addAt (by rw [len_addAt, List.length_set, hf]; exact r2) hi, val_addAt (by rw [List.length_set, hf]; exact r1) hi, val_addAt (by rw [List.length_set, hf]; exact r1) r2.1, val_set (by rw [hf]; exact ha) hi, val_set (by rw [hf]; exact ha) r1.1, val_set (by rw [hf]; exact ha) r2.1]
      rw [if_neg ne1, if_neg ne2]
      by_cases c2 : i = near n l a (-1)
      · subst c2
        rw [if_pos rfl, if_pos rfl, if_neg ne2]
        by_cases c3 : near n l a (-1) = near n l a 1
        · rw [if_pos c3, if_pos c3, ← c3]
          omega
        · rw [if_neg c3, if_neg c3]
          omega
      · rw [if_neg c2, if_neg c2]
        by_cases c1 : i = near n l a 1
        · subst c1
          rw [if_pos rfl, if_pos rfl, if_neg ne1]
          omega
        · rw [if_neg c1, if_neg c1]
          omega
    have gs : (giveL n l sh f a).sum = f.sum := by
      unfold giveL
      rw [sum_addAt (by rw [len_addAt, List.length_set, hf]; exact r2), sum_addAt (by rw [List.length_set, hf]; exact r1), sum_set (by omega)]
      have := h2 a List.mem_cons_self
      unfold val at this ⊢
      omega
    have hsa := hnn a ha
    rw [List.nodup_cons] at nd
    rw [List.foldl_cons, eg]
    obtain ⟨i1, i2, i3, i4⟩ := give_all hn hl h0 hnn b (giveL n l sh f a) nd.2 (fun i hi => hb i (List.mem_cons_of_mem _ hi)) gl (fun i hi => by
      rw [gv i hi.1]
      have := hnf i hi
      split <;> split <;> split <;> omega) (fun i hi => by
      obtain ⟨hi1, hi2⟩ := hb i (List.mem_cons_of_mem _ hi)
      rw [gv i hi1.1, if_neg (fun z => hi2 (by rw [z]; exact m2)), if_neg (fun z => hi2 (by rw [z]; exact m1)), if_neg (fun z => nd.1 (by rw [← z]; exact hi)), h2 i (List.mem_cons_of_mem _ hi)]
      omega)
    refine ⟨i1, by rw [i2, gs], i3, fun i hi hil => ?_⟩
    have g := gv i hi.1
    rw [if_neg (show ¬ i = near n l a (-1) from fun z => hil (by rw [z]; exact m2)), if_neg (show ¬ i = near n l a 1 from fun z => hil (by rw [z]; exact m1))] at g
    rw [i4 i hi hil, g]
    by_cases c : i = a
    · subst c
      rw [if_neg nd.1, if_pos (show i ∈ i :: b from List.mem_cons_self), if_pos rfl]
      rfl
    · rw [if_neg c]
      by_cases c2 : i ∈ b
      · rw [if_pos c2, if_pos (List.mem_cons_of_mem _ c2)]
      · rw [if_neg c2, if_neg (show ¬ i ∈ a :: b from fun z => (List.mem_cons.mp z).elim c c2)]
        omega
theorem zero_all {n : Nat} {sh : List Int} : ∀ (b f : List Int), (∀ i ∈ b, (0 ≤ i ∧ i < n)) → f.length = n → (∀ i : Int, 0 ≤ i ∧ i < n → 0 ≤ val f i) → (b.foldl (giveX n [] sh) f).length = n ∧ ∀ i : Int, 0 ≤ i ∧ i < n → 0 ≤ val (b.foldl (giveX n [] sh) f) i
  | [], f, _, hf, hnf => ⟨hf, hnf⟩
  | a :: b, f, hb, hf, hnf => by
    rw [List.foldl_cons]
    have eg : giveX n [] sh f a = f.set a.toNat 0 := if_pos rfl
    rw [eg]
    refine zero_all b _ (fun i hi => hb i (List.mem_cons_of_mem _ hi)) (by rw [List.length_set]; exact hf) fun i hi => ?_
    rw [val_set (by rw [hf]; exact hb a List.mem_cons_self) hi.1]
    split
    · exact Int.le_refl _
    · exact hnf i hi
section
variable {xs : List Int} {ld : Int} (hn : 1 ≤ xs.length ∧ xs.length ≤ 6)
include hn
theorem Rg.step {l sh : List Int} {u : Int} (R : Rg xs ld l sh u) : Rg xs ld (l.filter fun i => decide (i ∉ wr xs sh u l)) (shR xs.length (l.filter fun i => decide (i ∉ wr xs sh u l)) (wr xs sh u l) sh) (u * 2) := by
  have hr : ∀ i : Int, i ∈ l → 0 ≤ i ∧ i < xs.length := fun i hi => rg_mem.mp (R.sub.subset hi)
  have nd : l.Nodup := List.Nodup.sublist R.sub (rg_nodup _)
  have hb : ∀ i ∈ wr xs sh u l, (0 ≤ i ∧ i < (xs.length : Int)) ∧ i ∉ l.filter fun i => decide (i ∉ wr xs sh u l) := fun i hi => ⟨hr i (List.mem_filter.mp hi).1, fun z => by
    have := of_decide_eq_true (List.mem_filter.mp z).2
    exact this hi⟩
  have bn : (wr xs sh u l).Nodup := List.Nodup.sublist List.filter_sublist nd
  generalize hb2 : wr xs sh u l = b at hb bn ⊢
  generalize hl2 : (l.filter fun i => decide (i ∉ b)) = l2 at hb ⊢
  have hl2s : l2.Sublist l := by rw [← hl2]; exact List.filter_sublist
  have l2m : ∀ i, i ∈ l2 ↔ i ∈ l ∧ i ∉ b := fun i => by rw [← hl2, List.mem_filter, decide_eq_true_eq]
  have hf0 : (sh.map fun s => s * 2).length = xs.length := by rw [List.length_map]; exact R.len
  have hn0 : ∀ i : Int, 0 ≤ i ∧ i < xs.length → 0 ≤ val (sh.map fun s => s * 2) i := fun i hi => by rw [val_map2]; have := R.nn i hi; omega
  by_cases c : l2 = []
  · subst c
    obtain ⟨z1, z2⟩ := zero_all (n := xs.length) (sh := sh) b _ (fun i hi => (hb i hi).1) hf0 hn0
    exact ⟨z1, by simp, z2, fun z => absurd rfl z, fun z => absurd rfl z, by have := R.up; omega⟩
  · obtain ⟨z1, z2, z3, z4⟩ := give_all hn (l := l2) (sh := sh) (fun i hi => hr i (hl2s.subset hi)) c R.nn b _ bn hb hf0 hn0 (fun i hi => val_map2 sh i)
    have hl : l ≠ [] := fun z => by
      rw [z] at hl2s
      exact c (List.sublist_nil.mp hl2s)
    refine ⟨z1, hl2s.trans R.sub, z3, fun _ => ?_, fun _ i hi hil => ?_, by have := R.up; omega⟩
    · have e : (shR xs.length l2 b sh).sum = (sh.map fun s => s * 2).sum := z2
      rw [e, sum_map2, R.sum hl, Int.mul_assoc]
    · have e : val (shR xs.length l2 b sh) i = _ := z4 i hi hil
      rw [e]
      by_cases ci : i ∈ b
      · rw [if_pos ci]
      · rw [if_neg ci, val_map2, R.out hl i hi fun z => hil ((l2m i).mpr ⟨z, ci⟩)]
        rfl
theorem val_le_sum {f : List Int} (hnn : ∀ i : Int, 0 ≤ i ∧ i < f.length → 0 ≤ val f i) {i : Int} (hi : 0 ≤ i ∧ i < f.length) : val f i ≤ f.sum := by
  have h := sum_set (f := f) (j := i.toNat) (x := 0) (by omega)
  have h2 : 0 ≤ (f.set i.toNat 0).sum := sum_nn fun x hx => by
    obtain ⟨j, hj, e⟩ := List.getElem_of_mem hx
    rw [List.getElem_set] at e
    split at e
    · omega
    · have := hnn j (by rw [List.length_set] at hj; omega)
      unfold val at this
      rw [List.length_set] at hj
      rw [Int.toNat_natCast, List.getD_eq_getElem?_getD, List.getElem?_eq_getElem hj] at this
      have this : 0 ≤ f[j] := this
      omega
  unfold val
  omega
theorem sum_pt {f g : List Int} {u : Int} (hl : f.length = g.length) (h : ∀ i : Int, 0 ≤ i ∧ i < f.length → val f i ≤ val g i * u) : f.sum ≤ g.sum * u := by
  have go : ∀ (f g : List Int), f.length = g.length → (∀ j : Nat, j < f.length → f.getD j 0 ≤ g.getD j 0 * u) → f.sum ≤ g.sum * u := fun f => by
    induction f with
    | nil => intro g hl _; cases g with | nil => simp | cons y g => simp at hl
    | cons x f ih =>
      intro g hl h
      cases g with
      | nil => simp at hl
      | cons y g =>
        have h0 := h 0 (by simp)
        have h1 := ih g (by simpa using hl) fun j hj => by have := h (j + 1) (by simpa using hj); simpa using this
        simp at h0
        rw [List.sum_cons, List.sum_cons, Int.add_mul]
        omega
  exact go f g hl fun j hj => by have := h j (by omega); unfold val at this; simpa using this
theorem ring_hold (hx : ∀ x ∈ xs, 1 ≤ x) : ∀ (k : Nat) (l sh : List Int) (u : Int), Rg xs ld l sh u → l.length ≤ k → (ring xs k l sh u).2 ≠ [] → ld ≤ xs.sum
  | 0, l, sh, u, R, hl, h => absurd (show l = [] from List.length_eq_zero_iff.mp (by omega)) h
  | k + 1, l, sh, u, R, hl, h => by
    unfold ring at h
    by_cases c : wr xs sh u l = []
    · rw [if_pos c] at h
      have h : l ≠ [] := h
      have up := R.up
      have z := sum_pt hn (u := u) R.len fun i hi => by
        rw [R.len] at hi
        have vx : 1 ≤ val xs i := by
          have hl : i.toNat < xs.length := by omega
          unfold val
          rw [List.getD_eq_getElem?_getD, List.getElem?_eq_getElem hl]
          exact hx _ (List.getElem_mem hl)
        by_cases ci : i ∈ l
        · unfold wr at c
          rw [List.filter_eq_nil_iff] at c
          have := c i ci
          rw [decide_eq_true_eq] at this
          omega
        · rw [R.out h i hi ci]
          exact Int.mul_nonneg (by omega) (by omega)
      rw [R.sum h] at z
      exact Int.le_of_mul_le_mul_right z up
    · rw [if_neg c] at h
      have := wr_lt c
      exact ring_hold hx k _ _ _ (R.step hn) (by omega) h
end
end Pm

namespace Pm
open PySem
open PySem.W (Datum DatumOrd Tup listLt maxOf minOf)
/-! ### the next yarn that holds -/
theorem near_wh {n : Nat} {l : List Int} {a st : Int} {C : MT} {B : MS} (R : Int → PE0) (hC : ∀ h, C (R h) = .ok (!decide (h ∈ l)) (R h)) (hB : ∀ h, B (R h) = .nx (R ((h + st) % n))) :
    ∀ (m j N : Nat) (x : Int), (((List.range' j m).map fun k : Nat => (a + st * ((k : Int) + 1)) % (n : Int)).filter fun i => decide (i ∈ l)).head? = some x → m < N → whGo C B N (R ((a + st * ((j : Int) + 1)) % n)) = .nx (R x)
  | 0, j, N, x, h, _ => by simp at h
  | m + 1, j, N, x, h, hN => by
    obtain ⟨N, rfl⟩ : ∃ M, N = M + 1 := ⟨N - 1, by omega⟩
    unfold whGo
    rw [hC, Fl.of_ok]
    rw [List.range'_succ, List.map_cons, List.filter_cons] at h
    by_cases c : (a + st * ((j : Int) + 1)) % (n : Int) ∈ l
    · rw [if_pos (decide_eq_true c)] at h
      simp at h
      rw [decide_eq_true c, ← h]
      rfl
    · rw [if_neg (by simp [c])] at h
      rw [decide_eq_false c, if_pos (show (!false) = true from rfl), hB]
      dsimp only
      have e : ((a + st * ((j : Int) + 1)) % (n : Int) + st) % (n : Int) = (a + st * (((j + 1 : Nat) : Int) + 1)) % (n : Int) := by
        rw [Int.emod_add_emod]
        congr 1
        rw [show (((j + 1 : Nat) : Int) + 1) = ((j : Int) + 1) + 1 by omega, Int.mul_add st ((j : Int) + 1) 1]
        omega
      rw [e]
      exact near_wh R hC hB m (j + 1) N x h (by omega)
theorem nearest_ok {n : Nat} (hn : 1 ≤ n ∧ n ≤ 6) {l : List Int} {a st : Int} (ha : 0 ≤ a ∧ a < n) (hl : ∀ i : Int, i ∈ l → 0 ≤ i ∧ i < n) (h0 : l ≠ []) (hal : a ∉ l) (hs : st = 1 ∨ st = -1) : F_nearest [.list (l.map .int), .int a, .int st, .int n] = .ok (.int (near n l a st)) := by
  have hm : ∀ z : Int, modI (.int z) (.int (n : Int)) = some (.int (z % n)) := fun z => modI_int (by omega)
  have hh : ((seqN n a st).filter fun i => decide (i ∈ l)).head? = some (near n l a st) := by
    have z := near_mem hn ha hl h0 hal hs
    obtain ⟨i, hi⟩ := List.exists_mem_of_ne_nil _ h0
    have hq := seq_all hn ha (hl i hi) (fun z => hal (by rw [z]; exact hi)) hs
    unfold near
    cases e : (seqN n a st).filter fun i => decide (i ∈ l) with
    | nil =>
      rw [List.filter_eq_nil_iff] at e
      exact absurd hi (by have := e i hq; simpa using this)
    | cons x r => rfl
  unfold seqN at hh
  rw [List.range_eq_range'] at hh
  have w := near_wh (n := n) (l := l) (a := a) (st := st) (C := tCmpM notInO (mVar 4) (mVar 0)) (B := mSt 4 (mOp2 modI (mOp2 addD (mVar 4) (mVar 2)) (mVar 3))) (fun h => [.v (.list (l.map .int)), .v (.int a), .v (.int st), .v (.int n), .v (.int h)])
    (fun h => by
      have z := notIn_dl h l
      rw [show l.map dt = l.map PyData.int from rfl, show (dt h : D) = .int h from rfl] at z
      simp [z]) (fun h => by simp [hm]) (n - 1) 0 100000 _ hh (by omega)
  show outOf (m_nearest (ps0 5 [.list (l.map .int), .int a, .int st, .int n])) = _
  unfold m_nearest
  refine (congrArg outOf (mSq_nx (ρ1 := [.v (.list (l.map .int)), .v (.int a), .v (.int st), .v (.int n), .v (.int ((a + st) % n))]) ?_)).trans ?_
  · simp [hm]
  refine (congrArg outOf (mSq_nx (ρ1 := [.v (.list (l.map .int)), .v (.int a), .v (.int st), .v (.int n), .v (.int (near n l a st))]) ?_)).trans ?_
  · rw [show (a + st * (((0 : Nat) : Int) + 1)) = a + st by simp] at w
    exact w
  · simp
/-! ### shares as fractions -/
def fq (u s : Int) : D := qd ((s : Rat) / (u : Rat))
def fr (u : Int) (sh : List Int) : List D := sh.map (fq u)
theorem fq_bk {u s : Int} (hu : 0 < u ∧ u < 2 ^ 20) (hs : 0 ≤ s ∧ s < 2 ^ 40) : Bk 40 ((s : Rat) / (u : Rat)) := bk_of hu.1 (by omega) (by omega)
theorem half_q {u s : Int} (hu : 0 < u) : (s : Rat) / (u : Rat) * ((1 : Int) : Rat) / ((2 : Int) : Rat) = (s : Rat) / ((u * 2 : Int) : Rat) := by
  have h1 := rne hu
  rw [Rat.intCast_mul]
  grind
theorem half_ok {u s : Int} (hu : 0 < u ∧ u < 2 ^ 19) (hs : 0 ≤ s ∧ s < 2 ^ 40) : F_multiplied [fq u s, .tuple [.int 1, .int 2]] = .ok (fq (u * 2) s) := by
  have e : (.tuple [.int 1, .int 2] : D) = qd (((1 : Int) : Rat) / ((2 : Int) : Rat)) := qd_of (a := 1) (b := 2) (by decide)
  have z := multiplied_ok (fq_bk (s := s) (u := u) (by omega) hs) (bk_of (a := 1) (b := 2) (k := 3) (by decide) (by decide) (by decide)) (by decide)
  rw [e]
  unfold fq
  rw [z]
  congr 2
  have h1 := rne hu.1
  have h2 := rne (a := 2) (by decide)
  rw [Rat.intCast_mul]
  grind
theorem added_fq {u s t : Int} (hu : 0 < u ∧ u < 2 ^ 20) (hs : 0 ≤ s ∧ s < 2 ^ 40) (ht : 0 ≤ t ∧ t < 2 ^ 40) : F_added [fq u s, fq u t] = .ok (fq u (s + t)) := by
  have z := added_ok (fq_bk hu hs) (fq_bk hu ht) (by decide)
  unfold fq
  rw [z]
  congr 2
  have h1 := rne hu.1
  rw [Rat.intCast_add]
  grind
theorem dbl_fq {u s : Int} (hu : 0 < u) : fq (u * 2) (s * 2) = fq u s := by
  unfold fq
  congr 1
  have h1 := rne hu
  have h2 := rne (a := 2) (by decide)
  rw [Rat.intCast_mul, Rat.intCast_mul]
  grind
theorem fq_zero {u : Int} (hu : 0 < u) : fq u 0 = .tuple [.int 0, .int 1] := by
  unfold fq
  have e : ((0 : Int) : Rat) / (u : Rat) = ((0 : Int) : Rat) := by
    have h1 := rne hu
    grind
  rw [e]
  exact qd_int 0
theorem less_fq {u s v : Int} (hu : 0 < u ∧ u < 2 ^ 20) (hs : 0 ≤ s ∧ s < 2 ^ 40) (hv : 0 ≤ v ∧ v < 2 ^ 40) : F_is_less [.tuple [.int v, .int 1], fq u s] = .ok (.bool (decide (v * u < s))) := by
  rw [← qd_int v]
  have b1 : Bk 41 ((v : Int) : Rat) := ⟨by show (v : Int).natAbs < _; omega, by show 1 < _; decide⟩
  have z := is_less_ok b1 (fq_bk hu hs) (by decide)
  unfold fq
  rw [z]
  congr 2
  refine decide_eq_decide.mpr ?_
  have h1 : (0 : Rat) < (u : Rat) := by exact_mod_cast hu.1
  rw [Rat.lt_div_iff h1]
  rw [← Rat.intCast_mul]
  exact Rat.intCast_lt_intCast
theorem init_fq {ld : Int} {n : Nat} (hn : 1 ≤ n ∧ n ≤ 6) : F_fraction [.int ld, .int n] = .ok (fq n ld) := fraction_ok (k := 10) (by omega) (by omega) (by decide)
theorem fr_get {u : Int} {sh : List Int} {i : Int} (h : 0 ≤ i ∧ i < sh.length) : ixD (.list (fr u sh)) (.int i) = some (fq u (val sh i)) := by
  have hl : i.toNat < sh.length := by omega
  have e : (fr u sh)[i.toNat]? = some (fq u (val sh i)) := by
    unfold fr val
    rw [List.getElem?_map, List.getElem?_eq_getElem hl, List.getD_eq_getElem?_getD, List.getElem?_eq_getElem hl]
    rfl
  have z := ixL_at e
  rw [Int.toNat_of_nonneg h.1] at z
  exact z
theorem fr_set {u : Int} {sh : List Int} {j : Nat} {x : Int} : (fr u sh).set j (fq u x) = fr u (sh.set j x) := by
  unfold fr
  rw [List.map_set]
end Pm

namespace Pm
open PySem
open PySem.W (Datum DatumOrd Tup listLt maxOf minOf)
theorem ixN_ok {n : Nat} {i : Int} (h : 0 ≤ i ∧ i < n) : L2.ixN n i = some i.toNat := by
  unfold L2.ixN
  rw [if_pos h.1, if_pos h.2]
theorem for2 {mg : MG} {mb : MS} {a b : D} {ρ ρa ρ1 ρb ρ2 : PE0} (h1 : mg a ρ = some ρa) (h2 : mb ρa = .nx ρ1) (h3 : mg b ρ1 = some ρb) (h4 : mb ρb = .nx ρ2) : forGo mg mb [a, b] ρ = .nx ρ2 := by
  unfold forGo
  rw [h1]
  dsimp only
  rw [h2]
  dsimp only
  unfold forGo
  rw [h3]
  dsimp only
  rw [h4]
  rfl
theorem fr_len (u : Int) (sh : List Int) : (fr u sh).length = sh.length := List.length_map _
section
variable {n : Nat} (hn : 1 ≤ n ∧ n ≤ 6) {l sh b : List Int} {u : Int} (hu : 0 < u ∧ u < 2 ^ 18) (hsl : sh.length = n) (hnn : ∀ i : Int, 0 ≤ i ∧ i < n → 0 ≤ val sh i) (hl : ∀ i : Int, i ∈ l → 0 ≤ i ∧ i < n) (h0 : l ≠ []) (hsum : sh.sum ≤ 2 ^ 30)
abbrev stS (n : Nat) (u : Int) (sh b l : List Int) (f : List Int) (s5 s6 s7 s8 : Sl) : PE0 := [.v (.list (fr u sh)), .v (.list (b.map .int)), .v (.list (l.map .int)), .v (.int n), .own (.l (fr (u * 2) f)), s5, s6, s7, s8]
abbrev shI : MS := mSq (mSt 8 (mCall F_nearest (mCons (mVar 2) (mCons (mVar 5) (mCons (mVar 7) (mCons (mVar 3) mNil)))))) (mOset 4 (mVar 8) (mCall F_added (mCons (mOix 4 (mVar 8)) (mCons (mVar 6) mNil))))
include hn hu hsl hnn hl h0
theorem sh_in {a st x : Int} {f : List Int} {s8 : Sl} (ha : 0 ≤ a ∧ a < n) (hal : a ∉ l) (hs : st = 1 ∨ st = -1) (hf : f.length = n) (hx : 0 ≤ x ∧ x < 2 ^ 40) (hfb : ∀ i : Int, 0 ≤ i ∧ i < n → 0 ≤ val f i ∧ val f i < 2 ^ 40) :
    shI (stS n u sh b l f (.v (.int a)) (.v (fq (u * 2) x)) (.v (.int st)) s8) = .nx (stS n u sh b l (addAt f (near n l a st) x) (.v (.int a)) (.v (fq (u * 2) x)) (.v (.int st)) (.v (.int (near n l a st)))) := by
  have e1 := nearest_ok hn ha hl h0 hal hs
  have ho := hl _ (near_mem hn ha hl h0 hal hs)
  refine (mSq_nx (ρ1 := stS n u sh b l f (.v (.int a)) (.v (fq (u * 2) x)) (.v (.int st)) (.v (.int (near n l a st)))) (by simp [e1])).trans ?_
  have hg := fr_get (u := u * 2) (sh := f) (i := near n l a st) (by rw [hf]; exact ho)
  have had := added_fq (u := u * 2) (by omega) (hfb _ ho) hx
  have hix := ixN_ok (n := n) ho
  have hset : (fr (u * 2) f).set (near n l a st).toNat (fq (u * 2) (val f (near n l a st) + x)) = fr (u * 2) (addAt f (near n l a st) x) := fr_set
  have hln : (fr (u * 2) f).length = n := by rw [fr_len]; exact hf
  simp [listAt, ownAt, hg, had, hln, hix, hset]
include hsum
theorem shared_ok (bn : b.Nodup) (hb : ∀ i ∈ b, (0 ≤ i ∧ i < (n : Int)) ∧ i ∉ l) : F_shared_out [.list (fr u sh), .list (b.map .int), .list (l.map .int)] = .ok (.list (fr (u * 2) (shR n l b sh))) := by
  have eD : fr (u * 2) (sh.map fun s => s * 2) = fr u sh := by
    unfold fr
    rw [List.map_map]
    exact List.map_congr_left fun s _ => dbl_fq hu.1
  have hsn : 0 ≤ sh.sum := sum_nn fun x hx => by
    obtain ⟨j, hj, e⟩ := List.getElem_of_mem hx
    have := hnn j (by omega)
    unfold val at this
    rw [Int.toNat_natCast, List.getD_eq_getElem?_getD, List.getElem?_eq_getElem hj] at this
    rw [← e]
    exact this
  have pre_ok : ∀ (pre post : List Int), pre ++ post = b → (pre.foldl (giveX n l sh) (sh.map fun s => s * 2)).length = n ∧ ∀ i : Int, 0 ≤ i ∧ i < n → 0 ≤ val (pre.foldl (giveX n l sh) (sh.map fun s => s * 2)) i ∧ val (pre.foldl (giveX n l sh) (sh.map fun s => s * 2)) i ≤ 2 ^ 31 := fun pre post hpp => by
    have sp : pre.Sublist b := by rw [← hpp]; exact List.sublist_append_left _ _
    obtain ⟨z1, z2, z3, z4⟩ := give_all hn hl h0 hnn pre (sh.map fun s => s * 2) (List.Nodup.sublist sp bn) (fun i hi => hb i (sp.subset hi)) (by rw [List.length_map]; exact hsl) (fun i hi => by rw [val_map2]; have := hnn i hi; omega) (fun i hi => val_map2 sh i)
    refine ⟨z1, fun i hi => ⟨z3 i hi, ?_⟩⟩
    have z5 := val_le_sum (xs := List.replicate n 0) (by rw [List.length_replicate]; exact hn) (f := pre.foldl (giveX n l sh) (sh.map fun s => s * 2)) (by rw [z1]; exact z3) (i := i) (by rw [z1]; exact hi)
    rw [z2, sum_map2] at z5
    omega
  have sv : ∀ a : Int, 0 ≤ a ∧ a < n → val sh a ≤ 2 ^ 30 := fun a ha => by
    have z5 := val_le_sum (xs := List.replicate n 0) (by rw [List.length_replicate]; exact hn) (f := sh) (by rw [hsl]; exact hnn) (i := a) (by rw [hsl]; exact ha)
    omega
  show outOf (m_shared_out (ps0 9 [.list (fr u sh), .list (b.map .int), .list (l.map .int)])) = _
  unfold m_shared_out
  refine (congrArg outOf (mSq_nx (ρ1 := stS n u sh b l (sh.map fun s => s * 2) .un .un .un .un) ?_)).trans ?_
  · have hl2 : listO [.list (fr u sh)] = some (.l (fr u sh)) := rfl
    have hln : (fr u sh).length = n := by rw [fr_len]; exact hsl
    simp [hln, eD]
  obtain ⟨ρ2, e, s5, s6, s7, s8, rfl⟩ := forT (mg := gSet 5) (mb := (mSq (mSt 6 (mCall F_multiplied (mCons (mOp2 ixD (mVar 0) (mVar 5)) (mCons (mTup (mCons (mC (.int 1)) (mCons (mC (.int 2)) mNil))) mNil))))
    (mSq (mFor (mItems (mTup (mCons (mOp1 negI (mC (.int 1))) (mCons (mC (.int 1)) mNil)))) (gSet 7) shI)
    (mOset 4 (mVar 5) (mTup (mCons (mC (.int 0)) (mCons (mC (.int 1)) mNil))))))) PyData.int (fun pre ρ => ∃ s5 s6 s7 s8, ρ = stS n u sh b l (pre.foldl (giveX n l sh) (sh.map fun s => s * 2)) s5 s6 s7 s8) b
    (fun pre a post ρ hpp hE => by
      obtain ⟨s5, s6, s7, s8, rfl⟩ := hE
      have hab : a ∈ b := mem_mid hpp
      obtain ⟨ha, hal⟩ := hb a hab
      obtain ⟨f, hf⟩ : ∃ f, f = pre.foldl (giveX n l sh) (sh.map fun s => s * 2) := ⟨_, rfl⟩
      obtain ⟨p1, p2⟩ := pre_ok pre (a :: post) hpp
      rw [← hf] at p1 p2
      have sva := sv a ha
      have sna := hnn a ha
      have m1 := hl _ (near_mem hn ha hl h0 hal (.inl rfl))
      have m2 := hl _ (near_mem hn ha hl h0 hal (.inr rfl))
      have n1 : near n l a 1 ≠ a := fun z => hal (by rw [← z]; exact near_mem hn ha hl h0 hal (.inl rfl))
      have n2 : near n l a (-1) ≠ a := fun z => hal (by rw [← z]; exact near_mem hn ha hl h0 hal (.inr rfl))
      have hmu := half_ok (u := u) (s := val sh a) (by omega) ⟨sna, by omega⟩
      have hg := fr_get (u := u) (sh := sh) (i := a) (by rw [hsl]; exact ha)
      have i1 := sh_in (b := b) hn hu hsl hnn hl h0 (x := val sh a) (f := f) (s8 := s8) ha hal (.inr rfl) p1 ⟨sna, by omega⟩ (fun i hi => by have := p2 i hi; omega)
      have q1 : (addAt f (near n l a (-1)) (val sh a)).length = n := by rw [len_addAt]; exact p1
      have i2 := sh_in (b := b) hn hu hsl hnn hl h0 (x := val sh a) (f := addAt f (near n l a (-1)) (val sh a)) (s8 := .v (.int (near n l a (-1)))) ha hal (.inl rfl) q1 ⟨sna, by omega⟩ (fun i hi => by
        rw [val_addAt (by rw [p1]; exact m2) hi.1]
        have := p2 i hi
        have := p2 _ m2
        split <;> omega)
      have eg : giveX n l sh f a = (addAt (addAt f (near n l a (-1)) (val sh a)) (near n l a 1) (val sh a)).set a.toNat 0 := by
        have z := give_eq (n := n) (l := l) (sh := sh) (f := f) (a := a) p1 ha m1 m2 n1 n2
        unfold giveX
        rw [if_neg h0, ← z]
        rfl
      refine ⟨stS n u sh b l f (.v (.int a)) s6 s7 s8, stS n u sh b l (giveX n l sh f a) (.v (.int a)) (.v (fq (u * 2) (val sh a))) (.v (.int 1)) (.v (.int (near n l a 1))), by rw [hf]; simp, ?_, _, _, _, _, by rw [List.foldl_append, ← hf]; rfl⟩
      refine (mSq_nx (ρ1 := stS n u sh b l f (.v (.int a)) (.v (fq (u * 2) (val sh a))) s7 s8) ?_).trans ?_
      · simp [hg, hmu]
      refine (mSq_nx (ρ1 := stS n u sh b l (addAt (addAt f (near n l a (-1)) (val sh a)) (near n l a 1) (val sh a)) (.v (.int a)) (.v (fq (u * 2) (val sh a))) (.v (.int 1)) (.v (.int (near n l a 1)))) ?_).trans ?_
      · have hi : mItems (mTup (mCons (mOp1 negI (mC (.int 1))) (mCons (mC (.int 1)) mNil))) (stS n u sh b l f (.v (.int a)) (.v (fq (u * 2) (val sh a))) s7 s8) = .ok [.int (-1), .int 1] (stS n u sh b l f (.v (.int a)) (.v (fq (u * 2) (val sh a))) s7 s8) := rfl
        rw [mFor_eq, hi, Fl.of_ok]
        exact for2 (ρa := stS n u sh b l f (.v (.int a)) (.v (fq (u * 2) (val sh a))) (.v (.int (-1))) s8) rfl i1 (ρb := stS n u sh b l (addAt f (near n l a (-1)) (val sh a)) (.v (.int a)) (.v (fq (u * 2) (val sh a))) (.v (.int 1)) (.v (.int (near n l a (-1))))) rfl i2
      · have q2 : (addAt (addAt f (near n l a (-1)) (val sh a)) (near n l a 1) (val sh a)).length = n := by rw [len_addAt]; exact q1
        rw [eg]
        generalize addAt (addAt f (near n l a (-1)) (val sh a)) (near n l a 1) (val sh a) = g at q2 ⊢
        have hix := ixN_ok (n := n) ha
        have hln : (fr (u * 2) g).length = n := by rw [fr_len]; exact q2
        have hset : (fr (u * 2) g).set a.toNat (.tuple [.int 0, .int 1]) = fr (u * 2) (g.set a.toNat 0) := by
          rw [← fq_zero (u := u * 2) (by omega)]
          exact fr_set
        simp [ownAt, hln, hix, hset])
    b [] (stS n u sh b l (sh.map fun s => s * 2) .un .un .un .un) rfl ⟨_, _, _, _, rfl⟩
  have hi : mItems (mVar 1) (stS n u sh b l (sh.map fun s => s * 2) .un .un .un .un) = .ok (b.map PyData.int) (stS n u sh b l (sh.map fun s => s * 2) .un .un .un .un) := rfl
  rw [mSq_for hi, e]
  rfl
end
end Pm

namespace Pm
open PySem
open PySem.W (Datum DatumOrd Tup listLt maxOf minOf)
/-- units that double while yarns break -/
structure Rb (xs : List Int) (ld : Int) (l sh : List Int) (u : Int) : Prop where
  rgr : Rg xs ld l sh u
  ms : u * ((2 ^ l.length : Nat) : Int) ≤ 384
theorem Rb.u {xs : List Int} {ld : Int} {l sh : List Int} {u : Int} (R : Rb xs ld l sh u) : 0 < u ∧ u ≤ 384 := by
  refine ⟨R.rgr.up, ?_⟩
  have h1 : (1 : Int) ≤ ((2 ^ l.length : Nat) : Int) := by have := Nat.one_le_two_pow (n := l.length); omega
  have h2 := Int.mul_le_mul_of_nonneg_left h1 (show 0 ≤ u by have := R.rgr.up; omega)
  have := R.ms
  omega
theorem Rb.sum {xs : List Int} {ld : Int} {l sh : List Int} {u : Int} (R : Rb xs ld l sh u) (hd : 0 ≤ ld ∧ ld ≤ 1000) (h : l ≠ []) : sh.sum ≤ 384000 := by
  rw [R.rgr.sum h]
  have h1 := Int.mul_le_mul_of_nonneg_left R.u.2 hd.1
  omega
theorem Rb.le {xs : List Int} {ld : Int} {l sh : List Int} {u : Int} (hn : 1 ≤ xs.length ∧ xs.length ≤ 6) (R : Rb xs ld l sh u) (hd : 0 ≤ ld ∧ ld ≤ 1000) {i : Int} (hi : i ∈ l) : 0 ≤ val sh i ∧ val sh i ≤ 384000 := by
  have hr := rg_mem.mp (R.rgr.sub.subset hi)
  have h := val_le_sum hn (f := sh) (by rw [R.rgr.len]; exact R.rgr.nn) (i := i) (by rw [R.rgr.len]; exact hr)
  have := R.sum hd (fun z => by rw [z] at hi; cases hi)
  exact ⟨R.rgr.nn i hr, by omega⟩
theorem Rb.step {xs : List Int} {ld : Int} {l sh : List Int} {u : Int} (hn : 1 ≤ xs.length ∧ xs.length ≤ 6) (R : Rb xs ld l sh u) (h : wr xs sh u l ≠ []) : Rb xs ld (l.filter fun i => decide (i ∉ wr xs sh u l)) (shR xs.length (l.filter fun i => decide (i ∉ wr xs sh u l)) (wr xs sh u l) sh) (u * 2) := by
  refine ⟨R.rgr.step hn, ?_⟩
  have h1 := wr_lt h
  generalize hm : (l.filter fun i => decide (i ∉ wr xs sh u l)).length = m at h1 ⊢
  have h2 : 2 ^ (m + 1) ≤ 2 ^ l.length := Nat.pow_le_pow_right (by decide) (by omega)
  have h3 : (2 : Int) * ((2 ^ m : Nat) : Int) ≤ ((2 ^ l.length : Nat) : Int) := by rw [Nat.pow_succ] at h2; omega
  have h4 := Int.mul_le_mul_of_nonneg_left h3 (show 0 ≤ u by have := R.rgr.up; omega)
  have := R.ms
  rw [Int.mul_assoc]
  omega
theorem Rb.nil {xs : List Int} {ld : Int} {l sh : List Int} {u : Int} (R : Rb xs ld l sh u) : Rb xs ld [] sh u :=
  ⟨⟨R.rgr.len, List.nil_sublist _, R.rgr.nn, fun z => absurd rfl z, fun z => absurd rfl z, R.rgr.up⟩, by have := R.u; simp; omega⟩
theorem val_rep {n : Nat} {x : Int} {i : Int} (h : 0 ≤ i ∧ i < n) : val (List.replicate n x) i = x := by
  unfold val
  rw [List.getD_eq_getElem?_getD, List.getElem?_replicate, if_pos (by omega)]
  rfl
theorem sum_rep (n : Nat) (x : Int) : (List.replicate n x).sum = x * n := by
  induction n with
  | zero => simp
  | succ n ih => rw [List.replicate_succ, List.sum_cons, ih]; rw [Int.natCast_add, Int.mul_add]; omega
theorem Rb.init {xs : List Int} {ld : Int} (hn : 1 ≤ xs.length ∧ xs.length ≤ 6) (hd : 0 ≤ ld ∧ ld ≤ 1000) : Rb xs ld (rg xs.length) (List.replicate xs.length ld) xs.length := by
  refine ⟨⟨List.length_replicate, List.Sublist.refl _, fun i hi => by rw [val_rep hi]; exact hd.1, fun _ => sum_rep _ _, fun _ i hi hx => absurd (rg_mem.mpr hi) hx, by omega⟩, ?_⟩
  rw [rgs_len]
  have h1 : xs.length = 1 ∨ xs.length = 2 ∨ xs.length = 3 ∨ xs.length = 4 ∨ xs.length = 5 ∨ xs.length = 6 := by omega
  rcases h1 with h | h | h | h | h | h <;> rw [h] <;> decide
section
variable {xs : List Int} {ld : Int} (hy : Yn xs) (hd : 0 ≤ ld ∧ ld ≤ 1000)
include hy hd
theorem wr_ok (ρ : PE0) {l sh : List Int} {u : Int} (R : Rb xs ld l sh u) (h0 : ρ[0]? = some (.v (.tuple (xs.map .int)))) (h2 : ρ[2]? = some (.v (.list (fr u sh)))) (h3 : ρ[3]? = some (.v (.list (l.map .int)))) (hp : plainAt [7] ρ = true) (h7 : 7 < ρ.length) :
    mLc [7] (mItems (mVar 3)) (gSet 7) (mT (mCall F_is_less (mCons (mTup (mCons (mOp2 ixD (mVar 0) (mVar 7)) (mCons (mC (.int 1)) mNil))) (mCons (mOp2 ixD (mVar 2) (mVar 7)) mNil)))) (mVar 7) ρ = .ok (.l ((wr xs sh u l).map .int)) ρ := by
  refine lc1 PyData.int l (fun i => decide (val xs i * u < val sh i)) PyData.int ?_ hp h7 fun i hi => ?_
  · simp [h3]
  · have hr := rg_mem.mp (R.rgr.sub.subset hi)
    have v := val_bd hy.pos hr
    have hu := R.u
    have hs := R.le ⟨hy.n0, hy.n6⟩ hd hi
    have hl := less_fq (u := u) (s := val sh i) (v := val xs i) (by omega) (by omega) (by omega)
    have hg := fr_get (u := u) (sh := sh) (i := i) (by rw [R.rgr.len]; exact hr)
    simp [h0, h2, h7, ix_val hr, hg, hl]
abbrev stB (xs : List Int) (ld : Int) (l sh : List Int) (u : Int) (f : List (List Int)) (b : List Int) : PE0 := [.v (.tuple (xs.map .int)), .v (.int ld), .v (.list (fr u sh)), .v (.list (l.map .int)), .own (.l (rowsD f)), .v (.list (b.map .int)), .un, .un]
abbrev rbB : MS := mSq (mMeth 4 appD (mCons (mCallB tupleD (mCons (mVar 5) mNil)) mNil))
  (mSq (mSt 3 (mGive (mLc (List.map (fun q : Str × Nat => q.2) [("at", 7)]) (mItems (mVar 3)) (gSet 7) (tCmpM notInO (mVar 7) (mVar 5)) (mVar 7))))
  (mSq (mIfS (tCmpM gtI (mCallB lenD (mCons (mVar 3) mNil)) (mC (.int 0))) (mSt 2 (mCall F_shared_out (mCons (mVar 2) (mCons (mVar 5) (mCons (mVar 3) mNil))))) mNx)
  (mSt 5 (mGive (mLc (List.map (fun q : Str × Nat => q.2) [("at", 7)]) (mItems (mVar 3)) (gSet 7) (mT (mCall F_is_less (mCons (mTup (mCons (mOp2 ixD (mVar 0) (mVar 7)) (mCons (mC (.int 1)) mNil))) (mCons (mOp2 ixD (mVar 2) (mVar 7)) mNil)))) (mVar 7))))))
theorem rb_step {l sh : List Int} {u : Int} {f : List (List Int)} (R : Rb xs ld l sh u) (hf : f.length ≤ 100) (hw : wr xs sh u l ≠ []) :
    ∃ sh2 u2, rbB (stB xs ld l sh u f (wr xs sh u l)) = .nx (stB xs ld (l.filter fun i => decide (i ∉ wr xs sh u l)) sh2 u2 (f ++ [wr xs sh u l]) (wr xs sh2 u2 (l.filter fun i => decide (i ∉ wr xs sh u l)))) ∧ Rb xs ld (l.filter fun i => decide (i ∉ wr xs sh u l)) sh2 u2 ∧
      ∀ k, ring xs k (l.filter fun i => decide (i ∉ wr xs sh u l)) sh2 u2 = ring xs k (l.filter fun i => decide (i ∉ wr xs sh u l)) (shR xs.length (l.filter fun i => decide (i ∉ wr xs sh u l)) (wr xs sh u l) sh) (u * 2) := by
  have hn : 1 ≤ xs.length ∧ xs.length ≤ 6 := ⟨hy.n0, hy.n6⟩
  have hr : ∀ i : Int, i ∈ l → 0 ≤ i ∧ i < xs.length := fun i hi => rg_mem.mp (R.rgr.sub.subset hi)
  have nd : l.Nodup := List.Nodup.sublist R.rgr.sub (rg_nodup _)
  have hb : ∀ i ∈ wr xs sh u l, (0 ≤ i ∧ i < (xs.length : Int)) ∧ i ∉ l.filter fun i => decide (i ∉ wr xs sh u l) := fun i hi => ⟨hr i (List.mem_filter.mp hi).1, fun z => by
    have := of_decide_eq_true (List.mem_filter.mp z).2
    exact this hi⟩
  have bn : (wr xs sh u l).Nodup := List.Nodup.sublist List.filter_sublist nd
  have hu := R.u
  have Rs := R.step hn hw
  have hl : l ≠ [] := fun z => by
    rw [z] at hw
    exact hw rfl
  have hsm := R.sum hd hl
  generalize hbb : wr xs sh u l = b at hb bn Rs ⊢
  generalize hl2 : (l.filter fun i => decide (i ∉ b)) = l2 at hb Rs ⊢
  have hl2r : ∀ i : Int, i ∈ l2 → 0 ≤ i ∧ i < xs.length := fun i hi => hr i (by rw [← hl2] at hi; exact (List.mem_filter.mp hi).1)
  have s1 : mMeth 4 appD (mCons (mCallB tupleD (mCons (mVar 5) mNil)) mNil) (stB xs ld l sh u f b) = .nx (stB xs ld l sh u (f ++ [b]) b) := by
    have ha := appD_d (a := rowsD f) (d := dt (⟨b⟩ : Gp)) (by rw [rowsD_len]; omega)
    rw [show dt (⟨b⟩ : Gp) = .tuple (b.map .int) from rfl] at ha
    simp [ha, rowsD_snoc]
  have s2 : mSt 3 (mGive (mLc (List.map (fun q : Str × Nat => q.2) [("at", 7)]) (mItems (mVar 3)) (gSet 7) (tCmpM notInO (mVar 7) (mVar 5)) (mVar 7))) (stB xs ld l sh u (f ++ [b]) b) = .nx (stB xs ld l2 sh u (f ++ [b]) b) := by
    have e : mLc [7] (mItems (mVar 3)) (gSet 7) (tCmpM notInO (mVar 7) (mVar 5)) (mVar 7) (stB xs ld l sh u (f ++ [b]) b) = .ok (.l (l2.map .int)) (stB xs ld l sh u (f ++ [b]) b) := by
      rw [← hl2]
      refine lc1 PyData.int l (fun i => decide (i ∉ b)) PyData.int ?_ ?_ ?_ fun i hi => ?_
      · simp
      · simp [plainAt, Sl.plain]
      · simp
      · have z := notIn_dl i b
        rw [show b.map dt = b.map PyData.int from rfl, show (dt i : D) = .int i from rfl] at z
        simp [z]
    simp only [List.map_cons, List.map_nil] at e ⊢
    simp [e]
  refine ⟨if l2 = [] then sh else shR xs.length l2 b sh, if l2 = [] then u else u * 2, ?_, ?_, fun k => ?_⟩
  · refine (mSq_nx s1).trans ((mSq_nx s2).trans ?_)
    refine (mSq_nx (ρ1 := stB xs ld l2 (if l2 = [] then sh else shR xs.length l2 b sh) (if l2 = [] then u else u * 2) (f ++ [b]) b) ?_).trans ?_
    · by_cases c : l2 = []
      · rw [if_pos c, if_pos c, c]
        simp
      · rw [if_neg c, if_neg c]
        have hsh := shared_ok (n := xs.length) (l := l2) (sh := sh) (b := b) (u := u) hn (by omega) R.rgr.len R.rgr.nn hl2r c (by omega) bn hb
        have hlen : (0 : Int) < l2.length := by have := List.length_pos_iff.mpr c; omega
        simp [hsh, hlen]
        intro z
        exact absurd z c
    · have Rn : Rb xs ld l2 (if l2 = [] then sh else shR xs.length l2 b sh) (if l2 = [] then u else u * 2) := by
        by_cases c : l2 = []
        · rw [if_pos c, if_pos c, c]; exact R.nil
        · rw [if_neg c, if_neg c]; exact Rs
      have e := wr_ok hy hd (stB xs ld l2 (if l2 = [] then sh else shR xs.length l2 b sh) (if l2 = [] then u else u * 2) (f ++ [b]) b) Rn rfl rfl rfl (by simp [plainAt, Sl.plain]) (by simp)
      generalize (if l2 = [] then sh else shR xs.length l2 b sh) = sh2 at e ⊢
      generalize (if l2 = [] then u else u * 2) = u2 at e ⊢
      simp only [List.map_cons, List.map_nil] at e ⊢
      simp [e]
  · by_cases c : l2 = []
    · rw [if_pos c, if_pos c, c]; exact R.nil
    · rw [if_neg c, if_neg c]; exact Rs
  · by_cases c : l2 = []
    · rw [c, ring_nil, ring_nil]
    · rw [if_neg c, if_neg c]
theorem rb_wh {C : MT} (hC : ∀ l sh u f b, C (stB xs ld l sh u f b) = .ok (decide (0 < b.length)) (stB xs ld l sh u f b)) : ∀ (k N : Nat) (l sh : List Int) (u : Int) (f : List (List Int)), l.length ≤ k → k < N → Rb xs ld l sh u → f.length + k ≤ 100 →
    ∃ sh2 u2, whGo C rbB N (stB xs ld l sh u f (wr xs sh u l)) = .nx (stB xs ld (ring xs k l sh u).2 sh2 u2 (f ++ (ring xs k l sh u).1) [])
  | 0, N, l, sh, u, f, hl, hN, R, hf => by
    obtain ⟨N, rfl⟩ : ∃ M, N = M + 1 := ⟨N - 1, by omega⟩
    have : l = [] := List.length_eq_zero_iff.mp (by omega)
    subst this
    refine ⟨sh, u, ?_⟩
    unfold whGo
    rw [hC]
    simp [wr, ring]
  | k + 1, N, l, sh, u, f, hl, hN, R, hf => by
    obtain ⟨N, rfl⟩ : ∃ M, N = M + 1 := ⟨N - 1, by omega⟩
    by_cases c : wr xs sh u l = []
    · refine ⟨sh, u, ?_⟩
      unfold whGo ring
      rw [hC, if_pos c, c]
      simp
    · have hw : 0 < (wr xs sh u l).length := List.length_pos_iff.mpr c
      have h1 := wr_lt c
      obtain ⟨sh2, u2, e1, e2, e3⟩ := rb_step hy hd R (f := f) (by omega) c
      obtain ⟨sh3, u3, z⟩ := rb_wh hC k N _ sh2 u2 (f ++ [wr xs sh u l]) (by omega) (by omega) e2 (by rw [List.length_append, List.length_singleton]; omega)
      refine ⟨sh3, u3, ?_⟩
      have e : ring xs (k + 1) l sh u = (wr xs sh u l :: (ring xs k (l.filter fun i => decide (i ∉ wr xs sh u l)) sh2 u2).1, (ring xs k (l.filter fun i => decide (i ∉ wr xs sh u l)) sh2 u2).2) := by
        rw [e3 k]
        conv => lhs; unfold ring; rw [if_neg c]
      rw [e]
      unfold whGo
      rw [hC, Fl.of_ok, if_pos (by simp [hw]), e1]
      dsimp only
      rw [z, List.append_assoc]
      rfl
abbrev rn (xs : List Int) (ld : Int) : List (List Int) × List Int := ring xs (xs.length + 1) (rg xs.length) (List.replicate xs.length ld) xs.length
theorem beside_ok : F_rounds_beside [.tuple (xs.map .int), .int ld] = .ok (.tuple [.list (rowsD (rn xs ld).1), .list ((rn xs ld).2.map .int)]) := by
  have n6 := hy.n6
  have hn : 1 ≤ xs.length ∧ xs.length ≤ 6 := ⟨hy.n0, hy.n6⟩
  have R0 := Rb.init (xs := xs) hn hd
  have hlr : lstRgO [.int (xs.length : Int)] = some (.l ((rg xs.length).map .int)) := by
    have h1 : xs.length = 1 ∨ xs.length = 2 ∨ xs.length = 3 ∨ xs.length = 4 ∨ xs.length = 5 ∨ xs.length = 6 := by omega
    rcases h1 with h | h | h | h | h | h <;> rw [h] <;> rfl
  have hfr : (xs.map fun _ => fq xs.length ld) = fr xs.length (List.replicate xs.length ld) := by
    unfold fr
    rw [List.map_replicate]
    exact List.map_const'
  show outOf (m_rounds_beside (ps0 8 [.tuple (xs.map .int), .int ld])) = _
  unfold m_rounds_beside
  refine (congrArg outOf (mSq_nx (ρ1 := [.v (.tuple (xs.map .int)), .v (.int ld), .v (.list (fr xs.length (List.replicate xs.length ld))), .un, .un, .un, .un, .un]) ?_)).trans ?_
  · have e : mLc [6] (mItems (mVar 0)) (gSet 6) mYes (mCall F_fraction (mCons (mVar 1) (mCons (mCallB lenD (mCons (mVar 0) mNil)) mNil))) [.v (.tuple (xs.map .int)), .v (.int ld), .un, .un, .un, .un, .un, .un] = .ok (.l (fr xs.length (List.replicate xs.length ld))) [.v (.tuple (xs.map .int)), .v (.int ld), .un, .un, .un, .un, .un, .un] := by
      rw [← hfr]
      refine lc1' PyData.int xs (fun _ => fq xs.length ld) ?_ ?_ ?_ fun i hi => ?_
      · simp
      · simp [plainAt, Sl.plain]
      · simp
      · have := init_fq (ld := ld) hn
        simp [this]
    simp only [List.map_cons, List.map_nil] at e ⊢
    simp [e]
  refine (congrArg outOf (mSq_nx (ρ1 := [.v (.tuple (xs.map .int)), .v (.int ld), .v (.list (fr xs.length (List.replicate xs.length ld))), .v (.list ((rg xs.length).map .int)), .own (.l []), .un, .un, .un]) ?_)).trans ?_
  · simp [hlr]
  refine (congrArg outOf (mSq_nx (ρ1 := stB xs ld (rg xs.length) (List.replicate xs.length ld) xs.length [] (wr xs (List.replicate xs.length ld) xs.length (rg xs.length))) ?_)).trans ?_
  · have e := wr_ok hy hd [.v (.tuple (xs.map .int)), .v (.int ld), .v (.list (fr xs.length (List.replicate xs.length ld))), .v (.list ((rg xs.length).map .int)), .own (.l []), .un, .un, .un] R0 rfl rfl rfl (by simp [plainAt, Sl.plain]) (by simp)
    simp only [List.map_cons, List.map_nil] at e ⊢
    simp [e]
  obtain ⟨sh2, u2, z⟩ := rb_wh hy hd (C := tCmpM gtI (mCallB lenD (mCons (mVar 5) mNil)) (mC (.int 0))) (fun l sh u f b => by simp) (xs.length + 1) 100000 (rg xs.length) (List.replicate xs.length ld) xs.length [] (by rw [rgs_len]; omega) (by omega) R0 (by simp; omega)
  rw [List.nil_append] at z
  refine (congrArg outOf (mSq_nx z)).trans ?_
  simp
end
end Pm

namespace Pm
open PySem
open PySem.W (Datum DatumOrd Tup listLt maxOf minOf)
theorem il_get {sh : List Int} {i : Int} (h : 0 ≤ i ∧ i < sh.length) : ixD (.list (sh.map .int)) (.int i) = some (.int (val sh i)) := ixl_val h
theorem il_set {sh : List Int} {j : Nat} {x : Int} : (sh.map PyData.int).set j (.int x) = (sh.set j x).map .int := by rw [List.map_set]
theorem il_nth' {sh : List Int} {i : Int} (h : 0 ≤ i ∧ i < sh.length) : sh[i.toNat]? = some (val sh i) := by
  have hl : i.toNat < sh.length := by omega
  unfold val
  rw [List.getD_eq_getElem?_getD, List.getElem?_eq_getElem hl]
  rfl
theorem il_nth {sh : List Int} {i : Int} (h : 0 ≤ i ∧ i < sh.length) : (sh.map PyData.int)[i.toNat]? = some (.int (val sh i)) := by
  have hl : i.toNat < sh.length := by omega
  unfold val
  rw [List.getElem?_map, List.getElem?_eq_getElem hl, List.getD_eq_getElem?_getD, List.getElem?_eq_getElem hl]
  rfl
section
variable {xs : List Int} {ld : Int} (hy : Yn xs) (hd : 0 ≤ ld ∧ ld ≤ 1000)
abbrev stW (xs : List Int) (ld : Int) (l sh : List Int) (u : Int) (f : List (List Int)) (s7 s8 s9 s10 s11 s12 : Sl) : PE0 := [.v (.tuple (xs.map .int)), .v (.int ld), .v (.int xs.length), .v (.int u), .own (.l (sh.map .int)), .v (.list (l.map .int)), .own (.l (rowsD f)), s7, s8, s9, s10, s11, s12, .un, .un]
abbrev gvB : MS := mSq (mSt 12 (mGive (mLc (List.map (fun q : Str × Nat => q.2) [("k", 14)]) (mRng rng2 (mCons (mC (.int 1)) (mCons (mVar 2) mNil))) (gSet 14) (tCmpM inO (mOp2 modI (mOp2 addD (mVar 10) (mOp2 mulI (mVar 11) (mVar 14))) (mVar 2)) (mVar 5)) (mOp2 modI (mOp2 addD (mVar 10) (mOp2 mulI (mVar 11) (mVar 14))) (mVar 2)))))
  (mIfS (tCmpM neO (mVar 12) (mGive (mLst mNil))) (mOaug 4 (mOp2 ixD (mVar 12) (mC (.int 0))) (mOp2 ixD (mVar 9) (mVar 10))) mNx)
theorem rest_ok {l sh sh0 : List Int} {u a st : Int} {f : List (List Int)} {s7 s8 s12 : Sl} (hn : 1 ≤ xs.length ∧ xs.length ≤ 6) (hs : 0 ≤ st ∧ st ≤ 6 ∨ st = -1) :
    mSt 12 (mGive (mLc (List.map (fun q : Str × Nat => q.2) [("k", 14)]) (mRng rng2 (mCons (mC (.int 1)) (mCons (mVar 2) mNil))) (gSet 14) (tCmpM inO (mOp2 modI (mOp2 addD (mVar 10) (mOp2 mulI (mVar 11) (mVar 14))) (mVar 2)) (mVar 5)) (mOp2 modI (mOp2 addD (mVar 10) (mOp2 mulI (mVar 11) (mVar 14))) (mVar 2)))) (stW xs ld l sh u f s7 s8 (.v (.list (sh0.map .int))) (.v (.int a)) (.v (.int st)) s12) =
    .nx (stW xs ld l sh u f s7 s8 (.v (.list (sh0.map .int))) (.v (.int a)) (.v (.int st)) (.v (.list (((seqN xs.length a st).filter fun i => decide (i ∈ l)).map .int)))) := by
  have hm : ∀ z : Int, modI (.int z) (.int (xs.length : Int)) = some (.int (z % xs.length)) := fun z => modI_int (by omega)
  have hr2 : rng2 [.int 1, .int (xs.length : Int)] = some ((List.range (xs.length - 1)).map fun k : Nat => PyData.int ((k : Int) + 1)) := by
    have h1 : xs.length = 1 ∨ xs.length = 2 ∨ xs.length = 3 ∨ xs.length = 4 ∨ xs.length = 5 ∨ xs.length = 6 := by omega
    rcases h1 with h | h | h | h | h | h <;> rw [h] <;> rfl
  have e : mLc [14] (mRng rng2 (mCons (mC (.int 1)) (mCons (mVar 2) mNil))) (gSet 14) (tCmpM inO (mOp2 modI (mOp2 addD (mVar 10) (mOp2 mulI (mVar 11) (mVar 14))) (mVar 2)) (mVar 5)) (mOp2 modI (mOp2 addD (mVar 10) (mOp2 mulI (mVar 11) (mVar 14))) (mVar 2)) (stW xs ld l sh u f s7 s8 (.v (.list (sh0.map .int))) (.v (.int a)) (.v (.int st)) s12) =
      .ok (.l (((List.range (xs.length - 1)).filter fun k : Nat => decide ((a + st * ((k : Int) + 1)) % (xs.length : Int) ∈ l)).map fun k : Nat => PyData.int ((a + st * ((k : Int) + 1)) % (xs.length : Int)))) (stW xs ld l sh u f s7 s8 (.v (.list (sh0.map .int))) (.v (.int a)) (.v (.int st)) s12) := by
    refine lc1 (fun k : Nat => PyData.int ((k : Int) + 1)) (List.range (xs.length - 1)) (fun k : Nat => decide ((a + st * ((k : Int) + 1)) % (xs.length : Int) ∈ l)) (fun k : Nat => .int ((a + st * ((k : Int) + 1)) % (xs.length : Int))) ?_ ?_ ?_ fun k hk => ?_
    · simp [hr2]
    · simp [plainAt, Sl.plain]
    · simp
    · have hk := List.mem_range.mp hk
      have m := mulI_int (i := st) (j := (k : Int) + 1) (by omega) (by omega)
      have z := inO_dl ((a + st * ((k : Int) + 1)) % (xs.length : Int)) l
      rw [show l.map dt = l.map PyData.int from rfl, show (dt ((a + st * ((k : Int) + 1)) % (xs.length : Int)) : D) = .int _ from rfl] at z
      simp [m, hm, z]
  have e2 : ((List.range (xs.length - 1)).filter fun k : Nat => decide ((a + st * ((k : Int) + 1)) % (xs.length : Int) ∈ l)).map (fun k : Nat => PyData.int ((a + st * ((k : Int) + 1)) % (xs.length : Int))) = ((seqN xs.length a st).filter fun i => decide (i ∈ l)).map .int := by
    unfold seqN
    rw [List.filter_map, List.map_map]
    rfl
  rw [e2] at e
  simp only [List.map_cons, List.map_nil] at e ⊢
  simp [e]
/-- one direction -/
theorem gv_step {l sh sh0 : List Int} {u a st : Int} {f : List (List Int)} {s7 s8 s12 : Sl} (hn : 1 ≤ xs.length ∧ xs.length ≤ 6) (hs : 0 ≤ st ∧ st ≤ 6 ∨ st = -1) (ha : 0 ≤ a ∧ a < xs.length) (hl : ∀ i : Int, i ∈ l → 0 ≤ i ∧ i < xs.length) (h1 : sh.length = xs.length) (h2 : sh0.length = xs.length)
    (hne : l ≠ [] → near xs.length l a st ∈ l ∧ (seqN xs.length a st).filter (fun i => decide (i ∈ l)) ≠ []) :
    ∃ t12, gvB (stW xs ld l sh u f s7 s8 (.v (.list (sh0.map .int))) (.v (.int a)) (.v (.int st)) s12) = .nx (stW xs ld l (if l = [] then sh else addAt sh (near xs.length l a st) (val sh0 a)) u f s7 s8 (.v (.list (sh0.map .int))) (.v (.int a)) (.v (.int st)) t12) := by
  refine ⟨.v (.list (((seqN xs.length a st).filter fun i => decide (i ∈ l)).map .int)), (mSq_nx (rest_ok hn hs)).trans ?_⟩
  by_cases c : l = []
  · rw [if_pos c, c]
    have e : (seqN xs.length a st).filter (fun i => decide (i ∈ ([] : List Int))) = [] := List.filter_eq_nil_iff.mpr fun i _ => by simp
    rw [e]
    have q : neO (.list []) (.list []) = some false := rfl
    simp [q]
  · rw [if_neg c]
    obtain ⟨m1, m2⟩ := hne c
    have ho := hl _ m1
    cases e : (seqN xs.length a st).filter (fun i => decide (i ∈ l)) with
    | nil => exact absurd e m2
    | cons x r =>
      have ex : near xs.length l a st = x := by unfold near; rw [e]; rfl
      rw [ex] at ho ⊢
      have q : neO (.list ((x :: r).map .int)) (.list []) = some true := by
        exact neO_dnil (x :: r)
      have g0 : ixD (.list ((x :: r).map PyData.int)) (.int 0) = some (.int x) := ixl0 _ _
      have g1 := il_get (sh := sh0) (i := a) (by rw [h2]; exact ha)
      have g2 := il_nth (sh := sh) (i := x) (by rw [h1]; exact ho)
      have g3 : (sh.map PyData.int).set x.toNat (.int (val sh x + val sh0 a)) = (addAt sh x (val sh0 a)).map .int := il_set
      have g4 : (sh.map PyData.int).length = xs.length := by rw [List.length_map]; exact h1
      have g5 : 0 ≤ x ∧ x.toNat < xs.length := ⟨ho.1, by omega⟩
      have g6 := il_nth' (sh := sh) (i := x) (by rw [h1]; exact ho)
      have g7 : ∀ h : x.toNat < sh.length, sh[x.toNat] = val sh x := fun h => by
        rw [List.getElem?_eq_getElem h] at g6
        exact Option.some.inj g6
      have g8 := ho.2
      simp only [List.map_cons] at q g0 ⊢
      simp [q, g0, g1, ownAt, g2, g3, g4, g5, g7, g8, h1]
end
end Pm

namespace Pm
open PySem
open PySem.W (Datum DatumOrd Tup listLt maxOf minOf)
theorem giveX_len (n : Nat) (l sh f : List Int) (a : Int) : (giveX n l sh f a).length = f.length := by
  unfold giveX giveL
  split
  · exact List.length_set
  · rw [len_addAt, len_addAt, List.length_set]
theorem fold_len (n : Nat) (l sh : List Int) : ∀ (b f : List Int), (b.foldl (giveX n l sh) f).length = f.length
  | [], f => rfl
  | a :: b, f => by rw [List.foldl_cons, fold_len n l sh b, giveX_len]
theorem near_ne {n : Nat} (hn : 1 ≤ n ∧ n ≤ 6) {l : List Int} {a st : Int} (ha : 0 ≤ a ∧ a < n) (hl : ∀ i : Int, i ∈ l → 0 ≤ i ∧ i < n) (h0 : l ≠ []) (hal : a ∉ l) (hs : st = 1 ∨ st = -1) : (seqN n a st).filter (fun i => decide (i ∈ l)) ≠ [] := by
  obtain ⟨i, hi⟩ := List.exists_mem_of_ne_nil _ h0
  have hm := seq_all hn ha (hl i hi) (fun z => hal (by rw [z]; exact hi)) hs
  intro e
  rw [List.filter_eq_nil_iff] at e
  have := e i hm
  simp [hi] at this
theorem near_back {n : Nat} (hn : 1 ≤ n ∧ n ≤ 6) (l : List Int) (a : Int) : near n l a ((n : Int) - 1) = near n l a (-1) := by unfold near; rw [seq_back hn]
theorem val_of_mem {sh : List Int} {s : Int} (h : s ∈ sh) : ∃ i : Int, (0 ≤ i ∧ i < sh.length) ∧ s = val sh i := by
  obtain ⟨j, hj, e⟩ := List.getElem_of_mem h
  refine ⟨j, by omega, ?_⟩
  unfold val
  rw [Int.toNat_natCast, List.getD_eq_getElem?_getD, List.getElem?_eq_getElem hj, ← e]
  rfl
section
variable {xs : List Int} {ld : Int} (hy : Yn xs) (hd : 0 ≤ ld ∧ ld ≤ 1000)
abbrev gvA : MS := mSq (mOset 4 (mVar 10) (mC (.int 0))) (mFor (mItems (mGive (mLst (mCons (mC (.int 1)) (mCons (mOp2 subI (mVar 2) (mC (.int 1))) mNil))))) (gSet 11) gvB)
/-- one that breaks -/
theorem ga_step {l sh sh0 : List Int} {u a : Int} {f : List (List Int)} {s7 s8 s11 s12 : Sl} (hn : 1 ≤ xs.length ∧ xs.length ≤ 6) (ha : 0 ≤ a ∧ a < xs.length) (hl : ∀ i : Int, i ∈ l → 0 ≤ i ∧ i < xs.length) (hal : a ∉ l) (h1 : sh.length = xs.length) (h2 : sh0.length = xs.length) :
    ∃ t11 t12, gvA (stW xs ld l sh u f s7 s8 (.v (.list (sh0.map .int))) (.v (.int a)) s11 s12) = .nx (stW xs ld l (giveX xs.length l sh0 sh a) u f s7 s8 (.v (.list (sh0.map .int))) (.v (.int a)) t11 t12) := by
  have s1 : mOset 4 (mVar 10) (mC (.int 0)) (stW xs ld l sh u f s7 s8 (.v (.list (sh0.map .int))) (.v (.int a)) s11 s12) = .nx (stW xs ld l (sh.set a.toNat 0) u f s7 s8 (.v (.list (sh0.map .int))) (.v (.int a)) s11 s12) := by
    have g3 : (sh.map PyData.int).set a.toNat (.int 0) = (sh.set a.toNat 0).map .int := il_set
    have g5 := ixN_ok (n := sh.length) (i := a) (by rw [h1]; exact ha)
    rw [h1] at g5
    simp [ownAt, h1, g5]
  have q1 : (sh.set a.toNat 0).length = xs.length := by rw [List.length_set]; exact h1
  obtain ⟨t1, e1⟩ := gv_step (ld := ld) (l := l) (sh := sh.set a.toNat 0) (sh0 := sh0) (u := u) (a := a) (st := 1) (f := f) (s7 := s7) (s8 := s8) (s12 := s12) hn (.inl (by omega)) ha hl q1 h2 fun z => ⟨near_mem hn ha hl z hal (.inl rfl), near_ne hn ha hl z hal (.inl rfl)⟩
  have q2 : (if l = [] then sh.set a.toNat 0 else addAt (sh.set a.toNat 0) (near xs.length l a 1) (val sh0 a)).length = xs.length := by
    split
    · exact q1
    · rw [len_addAt]; exact q1
  obtain ⟨t2, e2⟩ := gv_step (ld := ld) (l := l) (sh := if l = [] then sh.set a.toNat 0 else addAt (sh.set a.toNat 0) (near xs.length l a 1) (val sh0 a)) (sh0 := sh0) (u := u) (a := a) (st := (xs.length : Int) - 1) (f := f) (s7 := s7) (s8 := s8) (s12 := t1) hn (.inl (by omega)) ha hl q2 h2 fun z => by
    rw [near_back hn, seq_back hn]
    exact ⟨near_mem hn ha hl z hal (.inr rfl), near_ne hn ha hl z hal (.inr rfl)⟩
  rw [near_back hn] at e2
  have ef : (if l = [] then (if l = [] then sh.set a.toNat 0 else addAt (sh.set a.toNat 0) (near xs.length l a 1) (val sh0 a)) else addAt (if l = [] then sh.set a.toNat 0 else addAt (sh.set a.toNat 0) (near xs.length l a 1) (val sh0 a)) (near xs.length l a (-1)) (val sh0 a)) = giveX xs.length l sh0 sh a := by
    unfold giveX giveL
    by_cases c : l = []
    · rw [if_pos c, if_pos c, if_pos c]
    · rw [if_neg c, if_neg c, if_neg c]
  rw [ef] at e2
  refine ⟨.v (.int ((xs.length : Int) - 1)), t2, (mSq_nx s1).trans ?_⟩
  have hi : mItems (mGive (mLst (mCons (mC (.int 1)) (mCons (mOp2 subI (mVar 2) (mC (.int 1))) mNil)))) (stW xs ld l (sh.set a.toNat 0) u f s7 s8 (.v (.list (sh0.map .int))) (.v (.int a)) s11 s12) = .ok [.int 1, .int ((xs.length : Int) - 1)] (stW xs ld l (sh.set a.toNat 0) u f s7 s8 (.v (.list (sh0.map .int))) (.v (.int a)) s11 s12) := rfl
  rw [mFor_eq, hi, Fl.of_ok]
  exact for2 rfl e1 rfl e2
abbrev twB : MS := mSq (mSt 8 (mGive (mLc (List.map (fun q : Str × Nat => q.2) [("at", 10)]) (mItems (mVar 5)) (gSet 10) (tCmpM gtI (mOix 4 (mVar 10)) (mOp2 mulI (mOp2 ixD (mVar 0) (mVar 10)) (mVar 3))) (mVar 10))))
  (mSq (mIfS (tCmpM eqO (mVar 8) (mGive (mLst mNil))) (fun ρ => .bk ρ) mNx)
  (mSq (mMeth 6 appD (mCons (mCallB tupleD (mCons (mVar 8) mNil)) mNil))
  (mSq (mSt 5 (mGive (mLc (List.map (fun q : Str × Nat => q.2) [("at", 10)]) (mItems (mVar 5)) (gSet 10) (tCmpM notInO (mVar 10) (mVar 8)) (mVar 10))))
  (mSq (mMix3 3 4 9 (xVM (mOp2 mulI (mVar 3) (mC (.int 2))) (xOM (mLc (List.map (fun q : Str × Nat => q.2) [("share", 13)]) (mItems (mVar 4)) (gSet 13) mYes (mOp2 mulI (mVar 13) (mC (.int 2)))) (xVM (mVar 4) xNilM))))
  (mFor (mItems (mVar 8)) (gSet 10) gvA)))))
include hy hd
theorem tw_step {l sh : List Int} {u : Int} {f : List (List Int)} {s7 s8 s9 s10 s11 s12 : Sl} (R : Rb xs ld l sh u) (hf : f.length ≤ 100) (hp : s10.plain = true) :
    if wr xs sh u l = [] then ∃ t8, twB (stW xs ld l sh u f s7 s8 s9 s10 s11 s12) = .bk (stW xs ld l sh u f s7 t8 s9 s10 s11 s12)
    else ∃ t8 t9 t10 t11 t12, t10.plain = true ∧ twB (stW xs ld l sh u f s7 s8 s9 s10 s11 s12) = .nx (stW xs ld (l.filter fun i => decide (i ∉ wr xs sh u l)) (shR xs.length (l.filter fun i => decide (i ∉ wr xs sh u l)) (wr xs sh u l) sh) (u * 2) (f ++ [wr xs sh u l]) s7 t8 t9 t10 t11 t12) := by
  have hn : 1 ≤ xs.length ∧ xs.length ≤ 6 := ⟨hy.n0, hy.n6⟩
  have hr : ∀ i : Int, i ∈ l → 0 ≤ i ∧ i < xs.length := fun i hi => rg_mem.mp (R.rgr.sub.subset hi)
  have nd : l.Nodup := List.Nodup.sublist R.rgr.sub (rg_nodup _)
  have hu := R.u
  have hpl : ∀ (a b c d e : Sl) (g : List D) (w : Ow) (hw : List D), plainAt [10] [.v (.tuple (xs.map .int)), .v (.int ld), .v (.int xs.length), .v (.int u), .own w, a, .own (.l g), b, c, d, s10, e, s12, .un, .un] = true := fun a b c d e g w hw => by simp [plainAt, hp]
  have e1 : mLc [10] (mItems (mVar 5)) (gSet 10) (tCmpM gtI (mOix 4 (mVar 10)) (mOp2 mulI (mOp2 ixD (mVar 0) (mVar 10)) (mVar 3))) (mVar 10) (stW xs ld l sh u f s7 s8 s9 s10 s11 s12) = .ok (.l ((wr xs sh u l).map .int)) (stW xs ld l sh u f s7 s8 s9 s10 s11 s12) := by
    refine lc1 PyData.int l (fun i => decide (val xs i * u < val sh i)) PyData.int ?_ (hpl _ _ _ _ _ _ _ []) ?_ fun i hi => ?_
    · simp
    · simp
    · have v := val_bd hy.pos (hr i hi)
      have m := mulI_int (i := val xs i) (j := u) (by omega) (by omega)
      have g := il_get (sh := sh) (i := i) (by rw [R.rgr.len]; exact hr i hi)
      simp [listAt, ix_val (hr i hi), g, m]
  have s1 : mSt 8 (mGive (mLc (List.map (fun q : Str × Nat => q.2) [("at", 10)]) (mItems (mVar 5)) (gSet 10) (tCmpM gtI (mOix 4 (mVar 10)) (mOp2 mulI (mOp2 ixD (mVar 0) (mVar 10)) (mVar 3))) (mVar 10))) (stW xs ld l sh u f s7 s8 s9 s10 s11 s12) = .nx (stW xs ld l sh u f s7 (.v (.list ((wr xs sh u l).map .int))) s9 s10 s11 s12) := by
    simp only [List.map_cons, List.map_nil] at e1 ⊢
    simp [e1]
  have q := eqO_nilT (wr xs sh u l)
  rw [show (wr xs sh u l).map dt = (wr xs sh u l).map PyData.int from rfl] at q
  by_cases c : wr xs sh u l = []
  · rw [if_pos c]
    refine ⟨.v (.list ((wr xs sh u l).map .int)), (mSq_nx s1).trans ?_⟩
    have q' : eqO (.list ((wr xs sh u l).map .int)) (.list []) = some true := q.trans (by rw [c]; rfl)
    rw [mSq_eq]
    simp [q']
  · rw [if_neg c]
    have hb : ∀ i ∈ wr xs sh u l, (0 ≤ i ∧ i < (xs.length : Int)) ∧ i ∉ l.filter fun i => decide (i ∉ wr xs sh u l) := fun i hi => ⟨hr i (List.mem_filter.mp hi).1, fun z => by
      have := of_decide_eq_true (List.mem_filter.mp z).2
      exact this hi⟩
    have hl : l ≠ [] := fun z => by
      rw [z] at c
      exact c rfl
    have hsm := R.sum hd hl
    have q' : eqO (.list ((wr xs sh u l).map .int)) (.list []) = some false := q.trans (by
      cases e : wr xs sh u l with
      | nil => exact absurd e c
      | cons a r => rfl)
    generalize hbb : wr xs sh u l = b at hb s1 q' ⊢
    generalize hl2 : (l.filter fun i => decide (i ∉ b)) = l2 at hb ⊢
    have hl2r : ∀ i : Int, i ∈ l2 → 0 ≤ i ∧ i < xs.length := fun i hi => hr i (by rw [← hl2] at hi; exact (List.mem_filter.mp hi).1)
    have s2 : mIfS (tCmpM eqO (mVar 8) (mGive (mLst mNil))) (fun ρ => .bk ρ) mNx (stW xs ld l sh u f s7 (.v (.list (b.map .int))) s9 s10 s11 s12) = .nx (stW xs ld l sh u f s7 (.v (.list (b.map .int))) s9 s10 s11 s12) := by simp [q']
    have s3 : mMeth 6 appD (mCons (mCallB tupleD (mCons (mVar 8) mNil)) mNil) (stW xs ld l sh u f s7 (.v (.list (b.map .int))) s9 s10 s11 s12) = .nx (stW xs ld l sh u (f ++ [b]) s7 (.v (.list (b.map .int))) s9 s10 s11 s12) := by
      have ha := appD_d (a := rowsD f) (d := dt (⟨b⟩ : Gp)) (by rw [rowsD_len]; omega)
      rw [show dt (⟨b⟩ : Gp) = .tuple (b.map .int) from rfl] at ha
      simp [ha, rowsD_snoc]
    have s4 : mSt 5 (mGive (mLc (List.map (fun q : Str × Nat => q.2) [("at", 10)]) (mItems (mVar 5)) (gSet 10) (tCmpM notInO (mVar 10) (mVar 8)) (mVar 10))) (stW xs ld l sh u (f ++ [b]) s7 (.v (.list (b.map .int))) s9 s10 s11 s12) = .nx (stW xs ld l2 sh u (f ++ [b]) s7 (.v (.list (b.map .int))) s9 s10 s11 s12) := by
      have e : mLc [10] (mItems (mVar 5)) (gSet 10) (tCmpM notInO (mVar 10) (mVar 8)) (mVar 10) (stW xs ld l sh u (f ++ [b]) s7 (.v (.list (b.map .int))) s9 s10 s11 s12) = .ok (.l (l2.map .int)) (stW xs ld l sh u (f ++ [b]) s7 (.v (.list (b.map .int))) s9 s10 s11 s12) := by
        rw [← hl2]
        refine lc1 PyData.int l (fun i => decide (i ∉ b)) PyData.int ?_ (hpl _ _ _ _ _ _ _ []) ?_ fun i hi => ?_
        · simp
        · simp
        · have z := notIn_dl i b
          rw [show b.map dt = b.map PyData.int from rfl, show (dt i : D) = .int i from rfl] at z
          simp [z]
      simp only [List.map_cons, List.map_nil] at e ⊢
      simp [e]
    have s5 : mMix3 3 4 9 (xVM (mOp2 mulI (mVar 3) (mC (.int 2))) (xOM (mLc (List.map (fun q : Str × Nat => q.2) [("share", 13)]) (mItems (mVar 4)) (gSet 13) mYes (mOp2 mulI (mVar 13) (mC (.int 2)))) (xVM (mVar 4) xNilM))) (stW xs ld l2 sh u (f ++ [b]) s7 (.v (.list (b.map .int))) s9 s10 s11 s12) = .nx (stW xs ld l2 (sh.map fun s => s * 2) (u * 2) (f ++ [b]) s7 (.v (.list (b.map .int))) (.v (.list (sh.map .int))) s10 s11 s12) := by
      have m := mulI_int (i := u) (j := 2) (by omega) (by omega)
      have e : mLc [13] (mItems (mVar 4)) (gSet 13) mYes (mOp2 mulI (mVar 13) (mC (.int 2))) (stW xs ld l2 sh u (f ++ [b]) s7 (.v (.list (b.map .int))) s9 s10 s11 s12) = .ok (.l (sh.map fun s => .int (s * 2))) [.v (.tuple (xs.map .int)), .v (.int ld), .v (.int xs.length), .v (.int u), .v (.list (sh.map .int)), .v (.list (l2.map .int)), .own (.l (rowsD (f ++ [b]))), s7, .v (.list (b.map .int)), s9, s10, s11, s12, .un, .un] := by
        have z := mLcT PyData.int (as := sh) (ρ := [.v (.tuple (xs.map .int)), .v (.int ld), .v (.int xs.length), .v (.int u), .v (.list (sh.map .int)), .v (.list (l2.map .int)), .own (.l (rowsD (f ++ [b]))), s7, .v (.list (b.map .int)), s9, s10, s11, s12, .un, .un]) (vs := [13]) (mi := mItems (mVar 4)) (mg := gSet 13) (mt := mYes) (me := mOp2 mulI (mVar 13) (mC (.int 2))) (ρ0 := stW xs ld l2 sh u (f ++ [b]) s7 (.v (.list (b.map .int))) s9 s10 s11 s12) (fun _ => true) (fun s => .int (s * 2)) (by simp [Ow.d]) (by simp [plainAt, Sl.plain]) (fun s hs => by
          obtain ⟨i, hi, rfl⟩ := val_of_mem hs
          rw [R.rgr.len] at hi
          have h1 := R.rgr.nn i hi
          have h2 := val_le_sum hn (f := sh) (by rw [R.rgr.len]; exact R.rgr.nn) (i := i) (by rw [R.rgr.len]; exact hi)
          have m := mulI_int (i := val sh i) (j := 2) (by omega) (by omega)
          exact ⟨[.v (.tuple (xs.map .int)), .v (.int ld), .v (.int xs.length), .v (.int u), .v (.list (sh.map .int)), .v (.list (l2.map .int)), .own (.l (rowsD (f ++ [b]))), s7, .v (.list (b.map .int)), s9, s10, s11, s12, .v (.int (val sh i)), .un], by simp [wipeP], rfl, fun _ => by simp [m], by simp [wipeP]⟩)
        rw [List.filter_eq_self.mpr fun _ _ => rfl] at z
        exact z
      have em : (sh.map fun s => PyData.int (s * 2)) = (sh.map fun s => s * 2).map .int := by rw [List.map_map]; rfl
      rw [em] at e
      simp only [List.map_cons, List.map_nil] at e ⊢
      generalize (sh.map fun s => s * 2) = sh2 at e ⊢
      simp [e, m]
    refine (fun (h : ∃ t10 t11 t12 : Sl, t10.plain = true ∧ mFor (mItems (mVar 8)) (gSet 10) gvA (stW xs ld l2 (sh.map fun s => s * 2) (u * 2) (f ++ [b]) s7 (.v (.list (b.map .int))) (.v (.list (sh.map .int))) s10 s11 s12) = .nx (stW xs ld l2 (shR xs.length l2 b sh) (u * 2) (f ++ [b]) s7 (.v (.list (b.map .int))) (.v (.list (sh.map .int))) t10 t11 t12)) => ?_) ?_
    · obtain ⟨t10, t11, t12, p, e⟩ := h
      exact ⟨_, _, t10, t11, t12, p, (mSq_nx s1).trans ((mSq_nx s2).trans ((mSq_nx s3).trans ((mSq_nx s4).trans ((mSq_nx s5).trans e))))⟩
    · obtain ⟨ρ2, e, t10, t11, t12, p, rfl⟩ := forT (mg := gSet 10) (mb := gvA) PyData.int (fun pre ρ => ∃ t10 t11 t12 : Sl, t10.plain = true ∧ ρ = stW xs ld l2 (pre.foldl (giveX xs.length l2 sh) (sh.map fun s => s * 2)) (u * 2) (f ++ [b]) s7 (.v (.list (b.map .int))) (.v (.list (sh.map .int))) t10 t11 t12) b
        (fun pre a post ρ hpp hE => by
          obtain ⟨t10, t11, t12, p, rfl⟩ := hE
          obtain ⟨ha, hal⟩ := hb a (mem_mid hpp)
          obtain ⟨v11, v12, e⟩ := ga_step (ld := ld) (l := l2) (sh := pre.foldl (giveX xs.length l2 sh) (sh.map fun s => s * 2)) (sh0 := sh) (u := u * 2) (a := a) (f := f ++ [b]) (s7 := s7) (s8 := .v (.list (b.map .int))) (s11 := t11) (s12 := t12) hn ha hl2r hal (by rw [fold_len, List.length_map]; exact R.rgr.len) R.rgr.len
          exact ⟨_, _, rfl, e, .v (.int a), v11, v12, rfl, by rw [List.foldl_append]; rfl⟩) b [] _ rfl ⟨s10, s11, s12, hp, rfl⟩
      refine ⟨t10, t11, t12, p, ?_⟩
      have hi : mItems (mVar 8) (stW xs ld l2 (sh.map fun s => s * 2) (u * 2) (f ++ [b]) s7 (.v (.list (b.map .int))) (.v (.list (sh.map .int))) s10 s11 s12) = .ok (b.map PyData.int) (stW xs ld l2 (sh.map fun s => s * 2) (u * 2) (f ++ [b]) s7 (.v (.list (b.map .int))) (.v (.list (sh.map .int))) s10 s11 s12) := rfl
      rw [mFor_eq, hi, Fl.of_ok]
      exact e
end
end Pm

namespace Pm
open PySem
open PySem.W (Datum DatumOrd Tup listLt maxOf minOf)
theorem opt_some {α : Type} {o : Option α} {x : α} {r : PE0} (h : o = some x) : Re.opt o r = .ok x r := by rw [h]; rfl
theorem rng_v (f : List D → Option (List D)) (a b : Sl) (m : Int) (r : PE0) : mRng f (mCons (mOp2 addD (mVar 2) (mC (.int 1))) mNil) (a :: b :: .v (.int m) :: r) = Re.opt (f [.int (m + 1)]) (a :: b :: .v (.int m) :: r) := rfl
section
variable {xs : List Int} {ld : Int} (hy : Yn xs) (hd : 0 ≤ ld ∧ ld ≤ 1000)
include hy hd
theorem tw_loop : ∀ (ds : List D) (l sh : List Int) (u : Int) (f : List (List Int)) (s7 s8 s9 s10 s11 s12 : Sl), Rb xs ld l sh u → f.length + ds.length ≤ 100 → s10.plain = true →
    ∃ sh2 u2 t7 t8 t9 t10 t11 t12, forGo (gSet 7) twB ds (stW xs ld l sh u f s7 s8 s9 s10 s11 s12) = .nx (stW xs ld (ring xs ds.length l sh u).2 sh2 u2 (f ++ (ring xs ds.length l sh u).1) t7 t8 t9 t10 t11 t12)
  | [], l, sh, u, f, s7, s8, s9, s10, s11, s12, _, _, _ => ⟨sh, u, s7, s8, s9, s10, s11, s12, by rw [List.length_nil]; unfold ring forGo; rw [List.append_nil]⟩
  | d :: ds, l, sh, u, f, s7, s8, s9, s10, s11, s12, R, hf, hp => by
    rw [List.length_cons] at hf
    have st := tw_step (s7 := .v d) (s8 := s8) (s9 := s9) (s11 := s11) (s12 := s12) hy hd R (f := f) (by omega) hp
    have e : forGo (gSet 7) twB (d :: ds) (stW xs ld l sh u f s7 s8 s9 s10 s11 s12) = (match twB (stW xs ld l sh u f (.v d) s8 s9 s10 s11 s12) with | .nx ρ2 => forGo (gSet 7) twB ds ρ2 | .ct ρ2 => forGo (gSet 7) twB ds ρ2 | .bk ρ2 => .nx ρ2 | fl => fl) := by
      conv => lhs; unfold forGo
      rw [show gSet 7 d (stW xs ld l sh u f s7 s8 s9 s10 s11 s12) = some (stW xs ld l sh u f (.v d) s8 s9 s10 s11 s12) from rfl]
      all_goals rfl
    rw [e, List.length_cons]
    by_cases c : wr xs sh u l = []
    · rw [if_pos c] at st
      obtain ⟨t8, z⟩ := st
      rw [z]
      unfold ring
      rw [if_pos c]
      exact ⟨sh, u, _, _, _, _, _, _, by rw [List.append_nil]⟩
    · rw [if_neg c] at st
      obtain ⟨t8, t9, t10, t11, t12, p, z⟩ := st
      obtain ⟨sh2, u2, v7, v8, v9, v10, v11, v12, z2⟩ := tw_loop ds _ _ _ (f ++ [wr xs sh u l]) (.v d) t8 t9 t10 t11 t12 (R.step ⟨hy.n0, hy.n6⟩ c) (by rw [List.length_append, List.length_singleton]; omega) p
      rw [z]
      unfold ring
      rw [if_neg c]
      refine ⟨sh2, u2, v7, v8, v9, v10, v11, v12, ?_⟩
      dsimp only
      rw [z2, List.append_assoc]
      rfl
theorem lbeside_ok : F__law_beside [.tuple (xs.map .int), .int ld] = .ok (.tuple [.tuple (rowsD (rn xs ld).1), dt (⟨(rn xs ld).2⟩ : Gp)]) := by
  have hn : 1 ≤ xs.length ∧ xs.length ≤ 6 := ⟨hy.n0, hy.n6⟩
  have R0 := Rb.init (xs := xs) hn hd
  have h1 : xs.length = 1 ∨ xs.length = 2 ∨ xs.length = 3 ∨ xs.length = 4 ∨ xs.length = 5 ∨ xs.length = 6 := by omega
  have hlr : lstRgO [.int (xs.length : Int)] = some (.l ((rg xs.length).map .int)) := by
    rcases h1 with h | h | h | h | h | h <;> rw [h] <;> rfl
  have hmu : mulLO (.list [.int ld]) (.int (xs.length : Int)) = some (.l ((List.replicate xs.length ld).map .int)) := by
    rcases h1 with h | h | h | h | h | h <;> rw [h] <;> rfl
  have hr1 : rng1 [.int ((xs.length : Int) + 1)] = some (rngD 0 (xs.length + 1)) := by
    rcases h1 with h | h | h | h | h | h <;> rw [h] <;> rfl
  have hdl : (rngD 0 (xs.length + 1)).length = xs.length + 1 := by unfold rngD; rw [List.length_map, List.length_range]
  show outOf (m__law_beside (ps0 15 [.tuple (xs.map .int), .int ld])) = _
  unfold m__law_beside
  refine (congrArg outOf (mSq_nx (ρ1 := [.v (.tuple (xs.map .int)), .v (.int ld), .v (.int xs.length), .v (.int xs.length), .un, .un, .un, .un, .un, .un, .un, .un, .un, .un, .un]) ?_)).trans ?_
  · simp
  refine (congrArg outOf (mSq_nx (ρ1 := stW xs ld (rg xs.length) (List.replicate xs.length ld) xs.length [] .un .un .un .un .un .un) ?_)).trans ?_
  · have em : mOp2O mulLO (mGive (mLst (mCons (mVar 1) mNil))) (mVar 2) [.v (.tuple (xs.map .int)), .v (.int ld), .v (.int xs.length), .v (.int xs.length), .un, .un, .un, .un, .un, .un, .un, .un, .un, .un, .un] = .ok (.l ((List.replicate xs.length ld).map .int)) [.v (.tuple (xs.map .int)), .v (.int ld), .v (.int xs.length), .v (.int xs.length), .un, .un, .un, .un, .un, .un, .un, .un, .un, .un, .un] := by
      unfold mOp2O
      simp [hmu]
    generalize (List.replicate xs.length ld) = X at em ⊢
    simp [hlr, em]
  obtain ⟨sh2, u2, t7, t8, t9, t10, t11, t12, z⟩ := tw_loop hy hd (rngD 0 (xs.length + 1)) (rg xs.length) (List.replicate xs.length ld) xs.length [] .un .un .un .un .un .un R0 (by rw [hdl]; simp; omega) rfl
  rw [hdl, List.nil_append] at z
  have hi : mRng rng1 (mCons (mOp2 addD (mVar 2) (mC (.int 1))) mNil) (stW xs ld (rg xs.length) (List.replicate xs.length ld) xs.length [] .un .un .un .un .un .un) = .ok (rngD 0 (xs.length + 1)) (stW xs ld (rg xs.length) (List.replicate xs.length ld) xs.length [] .un .un .un .un .un .un) := by
    exact (rng_v rng1 _ _ _ _).trans (opt_some hr1)
  rw [mSq_for hi, z]
  simp
  rfl
end
section
variable {xs : List Int} {ld : Int} (hy : Yn xs) (hd : 0 ≤ ld ∧ ld ≤ 999)
include hy hd
theorem bbeside_ok : F_breaks_beside [.tuple (xs.map .int), .int ld] = .ok (.tuple (rowsD (rn xs ld).1)) := by
  have e := beside_ok hy (ld := ld) (by omega)
  simp [F_breaks_beside, m_breaks_beside, demL hy hd, e]
theorem pbeside_ok : F_left_beside [.tuple (xs.map .int), .int ld] = .ok (dt (⟨(rn xs ld).2⟩ : Gp)) := by
  have e := beside_ok hy (ld := ld) (by omega)
  have i1 : ∀ a b : D, ixD (.tuple [a, b]) (.int 1) = some b := fun a b => rfl
  simp [F_left_beside, m_left_beside, demL hy hd, e, i1]
  rfl
end
/-! ### the greatest load of a ring -/
def hr (xs : List Int) (w : Nat) : Bool := decide ((rn xs (w : Int)).2 ≠ [])
theorem hr_le {xs : List Int} (hy : Yn xs) {w : Nat} (hw : w ≤ 1000) (h : hr xs w = true) : (w : Int) ≤ xs.sum := by
  have h := of_decide_eq_true h
  have R0 := Rb.init (xs := xs) (ld := w) ⟨hy.n0, hy.n6⟩ ⟨by omega, by omega⟩
  exact ring_hold ⟨hy.n0, hy.n6⟩ (fun x hx => (hy.pos x hx).1) _ _ _ _ R0.rgr (by rw [rgs_len]; omega) h
theorem hr_zero {xs : List Int} (hy : Yn xs) : hr xs 0 = true := by
  unfold hr
  rw [decide_eq_true_eq]
  have h0 := hy.n0
  have e : wr xs (List.replicate xs.length ((0 : Nat) : Int)) xs.length (rg xs.length) = [] := by
    unfold wr
    rw [List.filter_eq_nil_iff]
    intro i hi
    have hi := rg_mem.mp hi
    rw [decide_eq_true_eq, val_rep hi]
    have := (val_bd hy.pos hi).1
    have := Int.mul_nonneg (show 0 ≤ val xs i by omega) (show (0 : Int) ≤ xs.length by omega)
    omega
  unfold rn ring
  rw [if_pos e]
  intro z
  have z2 : (rg xs.length).length = 0 := congrArg List.length z
  rw [rgs_len] at z2
  omega
theorem ring_max {xs : List Int} (hy : Yn xs) : ∃ M : Int, F_bears_beside [.tuple (xs.map .int)] = .ok (.int M) ∧ maxA [.list (((List.range (xs.sum + 2).toNat).filter (hr xs)).map fun w : Nat => PyData.int w)] = some (.int M) := by
  obtain ⟨s0, s1⟩ := sum_le99 hy.pos
  have n6 := hy.n6
  have eL : (List.range (xs.sum + 2).toNat).filter (hr xs) = (List.range (xs.sum + 1).toNat).filter (hr xs) := by
    have e : (xs.sum + 2).toNat = (xs.sum + 1).toNat + 1 := by omega
    rw [e, List.range_succ, List.filter_append]
    have : hr xs (xs.sum + 1).toNat = false := by
      cases q : hr xs (xs.sum + 1).toNat with
      | false => rfl
      | true => have := hr_le hy (by omega) q; omega
    simp [this]
  obtain ⟨ls, hls⟩ : ∃ ls : List Int, ls = ((List.range (xs.sum + 1).toNat).filter (hr xs)).map fun w : Nat => (w : Int) := ⟨_, rfl⟩
  have e : (((List.range (xs.sum + 1).toNat).filter (hr xs)).map fun w : Nat => PyData.int w) = ls.map dt := by rw [hls, List.map_map]; rfl
  have hm : ∃ M : Int, maxA [.list (ls.map dt)] = some (.int M) := by
    cases hl : ls with
    | nil =>
      exfalso
      have : (0 : Int) ∈ ls := by rw [hls]; exact List.mem_map.mpr ⟨0, List.mem_filter.mpr ⟨List.mem_range.mpr (by omega), hr_zero hy⟩, rfl⟩
      rw [hl] at this
      cases this
    | cons x r => exact ⟨_, maxA_l x r⟩
  obtain ⟨M, hM⟩ := hm
  refine ⟨M, ?_, by rw [eL, e]; exact hM⟩
  have hsum : sumA [.tuple (xs.map .int)] = some (.int xs.sum) := sumA_t xs
  have hr1 : rng1 [.int (xs.sum + 1)] = some ((List.range (xs.sum + 1).toNat).map fun w : Nat => PyData.int w) := by
    have z := rng1_nat (n := (xs.sum + 1).toNat) (by omega)
    rw [Int.toNat_of_nonneg (by omega)] at z
    exact z
  have ec : mLc [1] (mRng rng1 (mCons (mOp2 addD (mCallB sumA (mCons (mVar 0) mNil)) (mC (.int 1))) mNil)) (gSet 1) (tCmpM gtI (mCallB lenD (mCons (mOp2 ixD (mCall F_rounds_beside (mCons (mVar 0) (mCons (mVar 1) mNil))) (mC (.int 1))) mNil)) (mC (.int 0))) (mVar 1) [.v (.tuple (xs.map .int)), .un] = .ok (.l (ls.map dt)) [.v (.tuple (xs.map .int)), .un] := by
    rw [← e]
    refine lc1 (fun w : Nat => PyData.int w) (List.range (xs.sum + 1).toNat) (hr xs) (fun w : Nat => .int w) ?_ ?_ ?_ fun w hw => ?_
    · generalize rng1 = f1 at hr1 ⊢
      simp [hsum, hr1]
    · simp [plainAt, Sl.plain]
    · simp
    · have hw := List.mem_range.mp hw
      have eb := beside_ok hy (ld := w) (by omega)
      have i1 : ∀ a b : D, ixD (.tuple [a, b]) (.int 1) = some b := fun a b => rfl
      have eh : hr xs w = decide (0 < (rn xs (w : Int)).2.length) := by
        unfold hr
        exact decide_eq_decide.mpr List.length_pos_iff.symm
      rw [eh]
      simp [eb, i1]
  simp only [F_bears_beside]
  show outOf (m_bears_beside (ps0 2 [.tuple (xs.map .int)])) = _
  unfold m_bears_beside
  refine (congrArg outOf (mSq_nx (ρ1 := [.v (.tuple (xs.map .int)), .un]) (by simp [demS hy]))).trans ?_
  simp only [List.map_cons, List.map_nil] at ec ⊢
  simp [ec, hM]
end Pm

namespace Pm
open PySem
open PySem.W (Datum DatumOrd Tup listLt maxOf minOf)
/-! ### rows of yarns -/
def chs (n m : Nat) : List Gp := ((List.range m).foldl (fun rows _ => rows.flatMap fun row : List Int => ((rg n).filter fun i => decide (∀ j ∈ row, j < i)).map fun i => row ++ [i]) [[]]).map Tup.mk
theorem choices_ok {n m : Nat} (hn : 1 ≤ n ∧ n ≤ 6) (hm : 1 ≤ m ∧ m ≤ n) : F_choices [.int n, .int m] = .ok (.list ((chs n m).map dt)) := by
  have h1 : n = 1 ∨ n = 2 ∨ n = 3 ∨ n = 4 ∨ n = 5 ∨ n = 6 := by omega
  have h2 : m = 1 ∨ m = 2 ∨ m = 3 ∨ m = 4 ∨ m = 5 ∨ m = 6 := by omega
  rcases h1 with rfl | rfl | rfl | rfl | rfl | rfl <;> rcases h2 with rfl | rfl | rfl | rfl | rfl | rfl <;> first | omega | kernel_rfl
theorem chs_chk : ((List.range 7).all fun n => (List.range (n + 1)).all fun m => ((sbs n).all fun r => decide (r.items.length = m → r ∈ chs n m)) && (chs n m).all fun r => decide (r ∈ sbs n) && decide (r.items.length = m)) = true := by decide +kernel
theorem chs_mem {n m : Nat} (hn : n ≤ 6) (hm : m ≤ n) {r : Gp} : r ∈ chs n m ↔ r.items.Sublist (rg n) ∧ r.items.length = m := by
  have h1 := List.all_eq_true.mp chs_chk n (List.mem_range.mpr (by omega))
  have h2 := List.all_eq_true.mp h1 m (List.mem_range.mpr (by omega))
  rw [Bool.and_eq_true, List.all_eq_true, List.all_eq_true] at h2
  constructor
  · intro h
    have := h2.2 r h
    rw [Bool.and_eq_true, decide_eq_true_eq, decide_eq_true_eq] at this
    exact ⟨(sbs_mem r).mp this.1, this.2⟩
  · rintro ⟨a, b⟩
    have := h2.1 r ((sbs_mem r).mpr a)
    rw [decide_eq_true_eq] at this
    exact this b
end Pm

namespace Pm
open PySem
open PySem.W (Datum DatumOrd Tup listLt maxOf minOf)
/-- the strengths of some -/
def sub (xs : List Int) (r : Gp) : List Int := r.items.map (val xs)
theorem sub_yn {xs : List Int} (hy : Yn xs) {r : Gp} (hr : ∀ i ∈ r.items, 0 ≤ i ∧ i < xs.length) (h0 : r.items ≠ []) (h6 : r.items.length ≤ 6) : Yn (sub xs r) := by
  unfold sub
  refine ⟨fun x hx => ?_, ?_, ?_⟩
  · obtain ⟨i, hi, rfl⟩ := List.mem_map.mp hx
    exact val_bd hy.pos (hr i hi)
  · rw [List.length_map]
    exact List.length_pos_iff.mpr h0
  · rw [List.length_map]; exact h6
def gdC (xs : List Int) (ld : Int) (r : Gp) : Bool := decide (ld ≤ mb (sub xs r))
def fsC (xs : List Int) (ld : Int) : Option Nat := (List.range xs.length).find? fun i => (chs xs.length (1 + i)).any (gdC xs ld)
def chR (xs : List Int) (ld : Int) (i : Nat) : Gp := ((chs xs.length (1 + i)).find? (gdC xs ld)).getD ⟨[]⟩
def chD (xs : List Int) (ld : Int) : D := match fsC xs ld with
  | some i => dt (chR xs ld i)
  | none => .none
section
variable {xs : List Int} {ld : Int} (hy : Yn xs)
include hy
theorem subs_ok (ρ : PE0) {r : Gp} (j : Nat) (hr : ∀ i ∈ r.items, 0 ≤ i ∧ i < xs.length) (h0 : ρ[0]? = some (.v (.tuple (xs.map .int)))) (h3 : ρ[j]? = some (.v (dt r))) (hj : j ≠ 4) (hp : plainAt [4] ρ = true) (h4 : 4 < ρ.length) :
    mLc [4] (mItems (mVar j)) (gSet 4) mYes (mOp2 ixD (mVar 0) (mVar 4)) ρ = .ok (.l ((sub xs r).map .int)) ρ := by
  have e : (sub xs r).map PyData.int = r.items.map fun i => PyData.int (val xs i) := by unfold sub; rw [List.map_map]; rfl
  rw [e]
  refine lc1' PyData.int r.items (fun i => .int (val xs i)) ?_ hp h4 fun i hi => ?_
  · simp [h3, dt_T]
  · simp [h0, h4, ix_val (hr i hi)]
abbrev stC (xs : List Int) (ld : Int) (s2 s3 : Sl) : PE0 := [.v (.tuple (xs.map .int)), .v (.int ld), s2, s3, .un]
abbrev chB : MS := mIfS (tCmpM geI (mCall F_most_borne (mCons (mGive (mLc (List.map (fun q : Str × Nat => q.2) [("at", 4)]) (mItems (mVar 3)) (gSet 4) mYes (mOp2 ixD (mVar 0) (mVar 4)))) mNil)) (mVar 1)) (mRet (mVar 3)) mNx
theorem ch_row {r : Gp} {s2 : Sl} (hr : r.items.Sublist (rg xs.length)) (h0 : r.items ≠ []) :
    (gdC xs ld r = true → chB (stC xs ld s2 (.v (dt r))) = .rt (dt r) (stC xs ld s2 (.v (dt r)))) ∧ (gdC xs ld r = false → chB (stC xs ld s2 (.v (dt r))) = .nx (stC xs ld s2 (.v (dt r)))) := by
  have hr2 : ∀ i ∈ r.items, 0 ≤ i ∧ i < xs.length := fun i hi => rg_mem.mp (hr.subset hi)
  have hl := hr.length_le
  rw [rgs_len] at hl
  have n6 := hy.n6
  have e := subs_ok hy (stC xs ld s2 (.v (dt r))) 3 hr2 rfl rfl (by decide) (by simp [plainAt, Sl.plain]) (by simp)
  have b := borne_ok (sub_yn hy hr2 h0 (by omega)) false
  rw [show sq false (sub xs r) = .list ((sub xs r).map .int) from rfl] at b
  constructor
  · intro q
    have q := of_decide_eq_true q
    simp [e, b, q]
  · intro q
    have q := of_decide_eq_false q
    simp [e, b, q]
theorem chosen_ok : F_chosen [.tuple (xs.map .int), .int ld] = .ok (chD xs ld) := by
  have hn : 1 ≤ xs.length ∧ xs.length ≤ 6 := ⟨hy.n0, hy.n6⟩
  show outOf (m_chosen (ps0 5 [.tuple (xs.map .int), .int ld])) = _
  unfold m_chosen
  have key := forR (fun i : Nat => PyData.int ((1 + i : Nat) : Int)) (fun pre ρ => ∃ s2 s3, ρ = stC xs ld s2 s3) (fun i => (chs xs.length (1 + i)).any (gdC xs ld)) (fun i => dt (chR xs ld i)) (List.range xs.length) (mg := gSet 2)
    (mb := mFor (mItems (mCall F_choices (mCons (mCallB lenD (mCons (mVar 0) mNil)) (mCons (mVar 2) mNil)))) (gSet 3) chB)
    (fun pre i post ρ hpp hE => by
      obtain ⟨s2, s3, rfl⟩ := hE
      have hi : i < xs.length := List.mem_range.mp (mem_mid hpp)
      have hc := choices_ok (n := xs.length) (m := 1 + i) hn (by omega)
      have inner := forR (fun r : Gp => dt r) (fun pre ρ => ∃ s3, ρ = stC xs ld (.v (.int ((1 + i : Nat) : Int))) s3) (gdC xs ld) (fun r => dt r) (chs xs.length (1 + i)) (mg := gSet 3) (mb := chB)
        (fun pre r post ρ hpp hE => by
          obtain ⟨s3, rfl⟩ := hE
          obtain ⟨m1, m2⟩ := (chs_mem hn.2 (by omega)).mp (mem_mid hpp)
          obtain ⟨r1, r2⟩ := ch_row (ld := ld) (s2 := .v (.int ((1 + i : Nat) : Int))) hy m1 (fun z => by rw [z] at m2; simp at m2; omega)
          exact ⟨stC xs ld (.v (.int ((1 + i : Nat) : Int))) (.v (dt r)), rfl, fun q => ⟨_, r1 q⟩, fun q => ⟨_, r2 q, _, rfl⟩⟩)
        (chs xs.length (1 + i)) [] (stC xs ld (.v (.int ((1 + i : Nat) : Int))) s3) rfl ⟨s3, rfl⟩
      have hit : mItems (mCall F_choices (mCons (mCallB lenD (mCons (mVar 0) mNil)) (mCons (mVar 2) mNil))) (stC xs ld (.v (.int ((1 + i : Nat) : Int))) s3) = .ok ((chs xs.length (1 + i)).map fun r => dt r) (stC xs ld (.v (.int ((1 + i : Nat) : Int))) s3) := by
        simp at hc
        simp [hc]
      refine ⟨stC xs ld (.v (.int ((1 + i : Nat) : Int))) s3, rfl, fun q => ?_, fun q => ?_⟩
      · rw [mFor_eq, hit, Fl.of_ok]
        unfold chR
        cases hf : (chs xs.length (1 + i)).find? (gdC xs ld) with
        | none =>
          exfalso
          rw [List.find?_eq_none] at hf
          obtain ⟨r, hr, g⟩ := List.any_eq_true.mp q
          exact hf r hr g
        | some r =>
          rw [hf] at inner
          exact inner
      · rw [mFor_eq, hit, Fl.of_ok]
        cases hf : (chs xs.length (1 + i)).find? (gdC xs ld) with
        | none =>
          rw [hf] at inner
          obtain ⟨ρ2, e, s3, rfl⟩ := inner
          exact ⟨_, e, _, _, rfl⟩
        | some r =>
          exfalso
          have h1 := List.mem_of_find?_eq_some hf
          have h2 := List.find?_some hf
          have : (chs xs.length (1 + i)).any (gdC xs ld) = true := List.any_eq_true.mpr ⟨r, h1, h2⟩
          rw [this] at q
          cases q)
    (List.range xs.length) [] (stC xs ld .un .un) rfl ⟨_, _, rfl⟩
  have hi : mRng rng2 (mCons (mC (.int 1)) (mCons (mOp2 addD (mCallB lenD (mCons (mVar 0) mNil)) (mC (.int 1))) mNil)) (stC xs ld .un .un) = .ok ((List.range xs.length).map fun i : Nat => PyData.int ((1 + i : Nat) : Int)) (stC xs ld .un .un) := by
    have r2' := rng2_1 (n := xs.length) (by omega)
    have z : mRng rng2 (mCons (mC (.int 1)) (mCons (mOp2 addD (mCallB lenD (mCons (mVar 0) mNil)) (mC (.int 1))) mNil)) (stC xs ld .un .un) = Re.opt (rng2 [.int 1, .int ((xs.length : Int) + 1)]) (stC xs ld .un .un) := (rng_n1 rng2 (xs.map .int) _).trans (by rw [List.length_map])
    rw [z]
    exact opt_some r2'
  show outOf (mSq _ _ (stC xs ld .un .un)) = _
  rw [mSq_for hi]
  unfold chD fsC
  generalize hf : (List.range xs.length).find? (fun i => (chs xs.length (1 + i)).any (gdC xs ld)) = fo at key
  cases fo with
  | some i =>
    obtain ⟨ρ2, e⟩ := key
    rw [e]
    rfl
  | none =>
    obtain ⟨ρ2, e, _⟩ := key
    rw [e]
    simp
end
end Pm

namespace Pm
open PySem
open PySem.W (Datum DatumOrd Tup listLt maxOf minOf)
/-! ### bundles -/
def goodL (xs : List Int) (ld : Int) : List Gp := (srtT (sbs xs.length)).filter fun r => decide (r ≠ ⟨[]⟩) && gdC xs ld r
def fewD (xs : List Int) (ld : Int) : D := match fsC xs ld with
  | some i => .int ((1 + i : Nat) : Int)
  | none => .none
def bestL (xs : List Int) (ld : Int) : List Gp := match fsC xs ld with
  | some i => (goodL xs ld).filter fun r => decide (r.items.length = 1 + i)
  | none => []
theorem good_mem {xs : List Int} {ld : Int} {r : Gp} : r ∈ goodL xs ld ↔ r.items.Sublist (rg xs.length) ∧ r.items ≠ [] ∧ gdC xs ld r = true := by
  unfold goodL
  rw [List.mem_filter, (srtT_perm _).mem_iff, sbs_mem, Bool.and_eq_true, decide_eq_true_eq]
  have : r ≠ ⟨[]⟩ ↔ r.items ≠ [] := by
    cases r
    constructor
    · intro h z; exact h (congrArg Tup.mk z)
    · intro h z; exact h (congrArg Tup.items z)
  rw [this]
section
variable {xs : List Int} {ld : Int}
theorem fs_none (hn : xs.length ≤ 6) (h : fsC xs ld = none) : goodL xs ld = [] := by
  refine List.eq_nil_iff_forall_not_mem.mpr fun r hr => ?_
  obtain ⟨h1, h2, h3⟩ := good_mem.mp hr
  have hl := h1.length_le
  rw [rgs_len] at hl
  unfold fsC at h
  rw [List.find?_eq_none] at h
  have h0 : 0 < r.items.length := List.length_pos_iff.mpr h2
  have z := h (r.items.length - 1) (List.mem_range.mpr (by omega))
  rw [show 1 + (r.items.length - 1) = r.items.length by omega] at z
  exact z (List.any_eq_true.mpr ⟨r, (chs_mem hn hl).mpr ⟨h1, rfl⟩, h3⟩)
theorem fs_some (hn : xs.length ≤ 6) {i : Nat} (h : fsC xs ld = some i) : i < xs.length ∧ (chR xs ld i).items.length = 1 + i ∧ chR xs ld i ∈ goodL xs ld ∧ ∀ r ∈ goodL xs ld, 1 + i ≤ r.items.length := by
  unfold fsC at h
  have hi : i < xs.length := List.mem_range.mp (List.mem_of_find?_eq_some h)
  have hq := List.find?_some h
  have hR : ∃ r, (chs xs.length (1 + i)).find? (gdC xs ld) = some r := by
    cases hf : (chs xs.length (1 + i)).find? (gdC xs ld) with
    | none =>
      exfalso
      rw [List.find?_eq_none] at hf
      obtain ⟨r, hr, g⟩ := List.any_eq_true.mp hq
      exact hf r hr g
    | some r => exact ⟨r, rfl⟩
  obtain ⟨r, hr⟩ := hR
  have er : chR xs ld i = r := by unfold chR; rw [hr]; rfl
  obtain ⟨m1, m2⟩ := (chs_mem hn (by omega)).mp (List.mem_of_find?_eq_some hr)
  refine ⟨hi, by rw [er]; exact m2, by rw [er]; exact good_mem.mpr ⟨m1, fun z => by rw [z] at m2; simp at m2; omega, List.find?_some hr⟩, fun r hr => ?_⟩
  obtain ⟨h1, h2, h3⟩ := good_mem.mp hr
  have hl := h1.length_le
  rw [rgs_len] at hl
  have h0 : 0 < r.items.length := List.length_pos_iff.mpr h2
  by_cases c : 1 + i ≤ r.items.length
  · exact c
  · exfalso
    obtain ⟨h4, as, bs, h5, h6⟩ := List.find?_eq_some_iff_append.mp h
    have hm : r.items.length - 1 ∈ as := by
      have e1 : (List.range xs.length)[r.items.length - 1]? = some (r.items.length - 1) := by rw [List.getElem?_range (by omega)]
      have e2 : as.length = i := by
        have : (List.range xs.length)[as.length]? = some i := by rw [h5, List.getElem?_append_right (Nat.le_refl _), Nat.sub_self]; rfl
        rw [List.getElem?_eq_some_iff] at this
        obtain ⟨_, z⟩ := this
        rw [List.getElem_range] at z
        exact z
      rw [h5, List.getElem?_append_left (by omega)] at e1
      exact List.mem_of_getElem? e1
    have z := h6 _ hm
    rw [show 1 + (r.items.length - 1) = r.items.length by omega] at z
    have : (chs xs.length r.items.length).any (gdC xs ld) = true := List.any_eq_true.mpr ⟨r, (chs_mem hn hl).mpr ⟨h1, rfl⟩, h3⟩
    rw [this] at z
    cases z
theorem best_mem {r : Gp} : r ∈ bestL xs ld ↔ ∃ i, fsC xs ld = some i ∧ r ∈ goodL xs ld ∧ r.items.length = 1 + i := by
  unfold bestL
  cases fsC xs ld with
  | none => simp
  | some i => simp [List.mem_filter]
theorem few_ok (hn : xs.length ≤ 6) : minDefD [.list ((goodL xs ld).map fun r => .int r.items.length)] [.none] = some (fewD xs ld) := by
  unfold fewD
  cases h : fsC xs ld with
  | none => rw [fs_none hn h]; rfl
  | some i =>
    obtain ⟨h1, h2, h3, h4⟩ := fs_some hn h
    obtain ⟨ls, hls⟩ : ∃ ls : List Int, ls = (goodL xs ld).map fun r => (r.items.length : Int) := ⟨_, rfl⟩
    have e : ((goodL xs ld).map fun r => PyData.int r.items.length) = ls.map dt := by rw [hls, List.map_map]; rfl
    have m1 : ((1 + i : Nat) : Int) ∈ ls := by rw [hls]; exact List.mem_map.mpr ⟨_, h3, by rw [h2]⟩
    have m2 : ∀ y ∈ ls, ((1 + i : Nat) : Int) ≤ y := fun y hy => by
      rw [hls] at hy
      obtain ⟨r, hr, rfl⟩ := List.mem_map.mp hy
      have := h4 r hr
      omega
    rw [e]
    cases hl : ls with
    | nil => rw [hl] at m1; cases m1
    | cons x r =>
      rw [minDef_dt x r]
      obtain ⟨g1, g2⟩ := minI_go r x
      rw [← hl] at g1 g2
      have a := m2 _ g1
      have b := g2 _ m1
      show some (PyData.int (minOf x r)) = some (.int _)
      rw [show minOf x r = ((1 + i : Nat) : Int) by omega]
end
theorem asc_pw : ∀ xs : List Int, asc xs = true ↔ xs.Pairwise (· < ·)
  | [] => ⟨fun _ => List.Pairwise.nil, fun _ => rfl⟩
  | [a] => ⟨fun _ => List.pairwise_singleton _ _, fun _ => rfl⟩
  | a :: b :: r => by
    rw [asc, Bool.and_eq_true, asc_pw (b :: r), List.pairwise_cons (a := a), decide_eq_true_eq]
    constructor
    · rintro ⟨h1, h2⟩
      refine ⟨fun z hz => ?_, h2⟩
      rcases List.mem_cons.mp hz with rfl | hz
      · exact h1
      · have := (List.pairwise_cons.mp h2).1 z hz
        omega
    · rintro ⟨h1, h2⟩
      exact ⟨h1 b List.mem_cons_self, h2⟩
abbrev yarM (G F : List D → Out) : MS := (mSq (mCallX G (mCons (mVar 0) (mCons (mVar 1) mNil)))
  (mSq (mSt 2 (mCall F (mCons (mVar 0) (mCons (mVar 1) mNil))))
  (mRet (mIf (tCmpM isN (mVar 2) (mC .none)) (mC .none) (mCallB lenD (mCons (mVar 2) mNil))))))
abbrev bunM (G F : List D → Out) : MS := (mSq (mCallX G (mCons (mVar 0) (mCons (mVar 1) mNil)))
  (mSq (mSt 3 (mCall F (mCons (mVar 0) (mCons (mVar 1) mNil))))
  (mSq (mIfS (mOrT (tCmpM isN (mVar 3) (mC .none)) (mOrT (mNotT (mT (mCall F_are_in (mCons (mVar 2) (mCons (mCallB lenD (mCons (mVar 3) mNil)) (mCons (mCallB lenD (mCons (mVar 3) mNil)) (mCons (mC (.int 0)) (mCons (mOp2 subI (mCallB lenD (mCons (mVar 0) mNil)) (mC (.int 1))) mNil)))))))) (mNotT (mT (mCall F_is_ascending (mCons (mVar 2) mNil)))))) (mRet (mC (.bool false))) mNx)
  (mRet (mCmp geI (mCall F_most_borne (mCons (mGive (mLc (List.map (fun q : Str × Nat => q.2) [("at", 4)]) (mItems (mVar 2)) (gSet 4) mYes (mOp2 ixD (mVar 0) (mVar 4)))) mNil)) (mVar 1))))))
theorem dem_call (G F : List D → Out) {a b C : D} (d : G [a, b] = .ok .none) (e : F [a, b] = .ok C) : outOf (mSq (mCallX G (mCons (mVar 0) (mCons (mVar 1) mNil))) (mRet (mCall F (mCons (mVar 0) (mCons (mVar 1) mNil)))) [.v a, .v b]) = .ok C := by
  simp [d, e]
section
variable {xs : List Int} {ld : Int} (hy : Yn xs)
include hy
theorem yar_gen (G F : List D → Out) (d : G [.tuple (xs.map .int), .int ld] = .ok .none) (e : F [.tuple (xs.map .int), .int ld] = .ok (chD xs ld)) : outOf (yarM G F [.v (.tuple (xs.map .int)), .v (.int ld), .un]) = .ok (fewD xs ld) := by
  unfold chD at e
  unfold fewD
  cases h : fsC xs ld with
  | none =>
    rw [h] at e
    dsimp only at e
    simp [d, e]
  | some i =>
    rw [h] at e
    dsimp only at e
    obtain ⟨h1, h2, _⟩ := fs_some hy.n6 h
    have hl : lenD [dt (chR xs ld i)] = some (.int ((1 + i : Nat) : Int)) := by rw [dt_T]; simp [h2]
    have hN : isN (dt (chR xs ld i)) .none = some false := rfl
    simp [d, e, hl, hN]
theorem bun_gen (G F : List D → Out) (d : G [.tuple (xs.map .int), .int ld] = .ok .none) (e : F [.tuple (xs.map .int), .int ld] = .ok (chD xs ld)) (S : Gp) : outOf (bunM G F [.v (.tuple (xs.map .int)), .v (.int ld), .v (dt S), .un, .un]) = .ok (.bool (decide (S ∈ bestL xs ld))) := by
  have n6 := hy.n6
  unfold chD at e
  cases h : fsC xs ld with
  | none =>
    rw [h] at e
    dsimp only at e
    have : S ∉ bestL xs ld := by unfold bestL; rw [h]; simp
    simp [d, e, this]
  | some i =>
    rw [h] at e
    dsimp only at e
    obtain ⟨h1, h2, _⟩ := fs_some hy.n6 h
    have hl : lenD [dt (chR xs ld i)] = some (.int ((1 + i : Nat) : Int)) := by rw [dt_T]; simp [h2]
    have hN : isN (dt (chR xs ld i)) .none = some false := rfl
    have ha := are_in_ok (dt S) ((1 + i : Nat) : Int) ((1 + i : Nat) : Int) 0 ((xs.length : Int) - 1)
    have hin : areIn (dt S) ((1 + i : Nat) : Int) ((1 + i : Nat) : Int) 0 ((xs.length : Int) - 1) = true ↔ S.items.length = 1 + i ∧ ∀ k ∈ S.items, 0 ≤ k ∧ k < xs.length := by
      rw [dt_T]
      unfold areIn
      rw [Bool.and_eq_true, Bool.and_eq_true, decide_eq_true_eq, decide_eq_true_eq, List.length_map, List.all_eq_true]
      constructor
      · rintro ⟨a, b, c⟩
        refine ⟨by omega, fun k hk => ?_⟩
        have := c (.int k) (List.mem_map.mpr ⟨k, hk, rfl⟩)
        simp at this
        omega
      · rintro ⟨a, c⟩
        refine ⟨by omega, by omega, fun d hd => ?_⟩
        obtain ⟨k, hk, rfl⟩ := List.mem_map.mp hd
        have := c k hk
        show (decide (0 ≤ k) && decide (k ≤ (xs.length : Int) - 1)) = true
        simp
        omega
    have has : F_is_ascending [dt S] = .ok (.bool (asc S.items)) := is_ascending_ok S.items
    cases q : areIn (dt S) ((1 + i : Nat) : Int) ((1 + i : Nat) : Int) 0 ((xs.length : Int) - 1) with
    | false =>
      have : S ∉ bestL xs ld := fun z => by
        obtain ⟨j, hj, z1, z2⟩ := best_mem.mp z
        rw [h] at hj
        cases hj
        obtain ⟨y1, y2, y3⟩ := good_mem.mp z1
        rw [hin.mpr ⟨z2, fun k hk => rg_mem.mp (y1.subset hk)⟩] at q
        cases q
      rw [q] at ha
      simp at hl ha
      simp [d, e, hl, hN, ha, this]
    | true =>
      obtain ⟨q1, q2⟩ := hin.mp q
      rw [q] at ha
      have s0 : S.items ≠ [] := fun z => by rw [z] at q1; simp at q1; omega
      have sb := subs_ok hy [.v (.tuple (xs.map .int)), .v (.int ld), .v (dt S), .v (dt (chR xs ld i)), .un] (r := S) 2 q2 rfl rfl (by decide) (by simp [plainAt, Sl.plain]) (by simp)
      have b := borne_ok (sub_yn hy q2 s0 (by omega)) false
      rw [show sq false (sub xs S) = .list ((sub xs S).map .int) from rfl] at b

      simp at hl ha
      cases w : asc S.items with
      | false =>
        have : S ∉ bestL xs ld := fun z => by
          obtain ⟨j, hj, z1, z2⟩ := best_mem.mp z
          obtain ⟨y1, y2, y3⟩ := good_mem.mp z1
          rw [(asc_pw _).mpr (List.Pairwise.sublist y1 (rg_asc _))] at w
          cases w
        simp [d, e, hl, hN, ha, has, w, this]
      | true =>
        have hb : decide (S ∈ bestL xs ld) = decide (ld ≤ mb (sub xs S)) := by
          refine decide_eq_decide.mpr ?_
          rw [best_mem]
          constructor
          · rintro ⟨j, hj, z1, z2⟩
            exact of_decide_eq_true (good_mem.mp z1).2.2
          · intro z
            exact ⟨i, h, good_mem.mpr ⟨asc_sub ((asc_pw _).mp w) q2, s0, decide_eq_true z⟩, q1⟩
        rw [hb]
        simp [d, e, hl, hN, ha, has, w, sb, b]
theorem bno_gen (G F : List D → Out) (d : G [.tuple (xs.map .int), .int ld] = .ok .none) (e : F [.tuple (xs.map .int), .int ld] = .ok (chD xs ld)) {v : D} (h : ∀ m : Int, areIn v m m 0 ((xs.length : Int) - 1) = false) : outOf (bunM G F [.v (.tuple (xs.map .int)), .v (.int ld), .v v, .un, .un]) = .ok (.bool false) := by
  unfold chD at e
  cases hf : fsC xs ld with
  | none =>
    rw [hf] at e
    dsimp only at e
    simp [d, e]
  | some i =>
    rw [hf] at e
    dsimp only at e
    obtain ⟨h1, h2, _⟩ := fs_some hy.n6 hf
    have hl : lenD [dt (chR xs ld i)] = some (.int ((1 + i : Nat) : Int)) := by rw [dt_T]; simp [h2]
    have hN : isN (dt (chR xs ld i)) .none = some false := rfl
    have ha := are_in_ok v ((1 + i : Nat) : Int) ((1 + i : Nat) : Int) 0 ((xs.length : Int) - 1)
    rw [h] at ha
    simp at hl ha
    simp [d, e, hl, hN, ha]
end
section
variable {xs : List Int} {ld : Int} (hy : Yn xs) (hd : 0 ≤ ld ∧ ld ≤ 999)
include hy hd
theorem bundle_ok : F_bundle [.tuple (xs.map .int), .int ld] = .ok (chD xs ld) := dem_call F_demand_load F_chosen (demL hy hd) (chosen_ok hy)
theorem yarns_ok : F_fewest_yarns [.tuple (xs.map .int), .int ld] = .ok (fewD xs ld) := yar_gen hy F_demand_load F_chosen (demL hy hd) (chosen_ok hy)
theorem is_bun_ok (S : Gp) : F_is_bundle [.tuple (xs.map .int), .int ld, dt S] = .ok (.bool (decide (S ∈ bestL xs ld))) := bun_gen hy F_demand_load F_chosen (demL hy hd) (chosen_ok hy) S
theorem is_bun_no {v : D} (h : ∀ m : Int, areIn v m m 0 ((xs.length : Int) - 1) = false) : F_is_bundle [.tuple (xs.map .int), .int ld, v] = .ok (.bool false) := bno_gen hy F_demand_load F_chosen (demL hy hd) (chosen_ok hy) h
end
end Pm

namespace Pm
open PySem
open PySem.W (Datum DatumOrd Tup)
def Fin (o : OutD) : Prop := ∃ c', o = .ok (.bool true) c'
theorem Fin.sq {a b : MS} {ρ ρ1 : PE0} (h : a ρ = .nx ρ1) (k : Fin (outD (b ρ1))) : Fin (outD (mSq a b ρ)) := by rw [mSq_nx h]; exact k
theorem Fin.for_ {mi : MA} {mg : MG} {mb b : MS} {ρ : PE0} {ds : List D} (I : List D → PE0 → Prop) (hi : mi ρ = .ok ds ρ) (h0 : I [] ρ) (step : ∀ pre d post ρ, pre ++ d :: post = ds → I pre ρ → ∃ ρ1 ρ2, mg d ρ = some ρ1 ∧ mb ρ1 = .nx ρ2 ∧ I (pre ++ [d]) ρ2)
    (k : ∀ ρ, I ds ρ → Fin (outD (b ρ))) : Fin (outD (mSq (mFor mi mg mb) b ρ)) := by
  obtain ⟨ρ2, e, i⟩ := forGo_rel (mg := mg) (mb := mb) I ds ds [] ρ rfl h0 step
  exact Fin.sq (ρ1 := ρ2) (by rw [mFor_eq, hi, Fl.of_ok, e]) (k ρ2 i)
@[simp] theorem kwG_10 (x y : D) : kwG [1, 0] [] [x, y] = [y, x] := rfl
@[simp] theorem kwG_012 (x y z : D) : kwG [0, 1, 2] [x, y] [z] = [x, y, z] := rfl
theorem ints_all {ys : List D} {P : Int → Prop} (h : ∀ y ∈ ys, ∃ p : Int, y = .int p ∧ P p) : ∃ ns : List Int, ys = ns.map .int ∧ ∀ p ∈ ns, P p := by
  induction ys with
  | nil => exact ⟨[], rfl, fun _ z => nomatch z⟩
  | cons y ys ih =>
    obtain ⟨p, rfl, hp⟩ := h y List.mem_cons_self
    obtain ⟨ns, e, hn⟩ := ih fun x hx => h x (List.mem_cons_of_mem _ hx)
    refine ⟨p :: ns, by rw [List.map_cons, e], fun x hx => ?_⟩
    rcases List.mem_cons.mp hx with rfl | hx
    · exact hp
    · exact hn x hx
theorem rowsT (f : List (List Int)) : PyData.tuple (rowsD f) = dt (⟨f.map Tup.mk⟩ : Tup Gp) := by
  unfold rowsD
  rw [dt_T, List.map_map]
  rfl
theorem ne_rows (f : List (List Int)) : neO (.tuple (rowsD f)) (.tuple (rowsD f)) = some false := by
  rw [rowsT]
  exact (neO_dt _ _).trans (by simp)
theorem ne_gp (r : Gp) : neO (dt r) (dt r) = some false := (neO_dt _ _).trans (by simp)
theorem ne_nil (r : Gp) : neO (dt r) (.tuple []) = some (decide (r.items ≠ [])) := by
  have z := neO_dt r ⟨[]⟩
  rw [show dt (⟨[]⟩ : Gp) = .tuple [] from rfl] at z
  refine z.trans (congrArg some ?_)
  cases r with
  | mk items =>
    by_cases c : items = []
    · simp [c]
    · have : ¬ (⟨items⟩ : Gp) = ⟨[]⟩ := fun q => c (congrArg Tup.items q)
      simp [c, this]
theorem eq_rows (f : List (List Int)) : eqO (.tuple (rowsD f)) (.tuple []) = some (decide (f = [])) := by
  rw [rowsT]
  have z := eqO_dt (⟨f.map Tup.mk⟩ : Tup Gp) ⟨[]⟩
  rw [show dt (⟨[]⟩ : Tup Gp) = .tuple [] from rfl] at z
  refine z.trans (congrArg some (decide_eq_decide.mpr ?_))
  constructor
  · intro q
    have q : f.map Tup.mk = [] := congrArg Tup.items q
    exact List.map_eq_nil_iff.mp q
  · intro q; rw [q]; rfl
/-- weights -/
def NN (xs : List Int) : Nat := (xs.sum + 2).toNat
def wL (xs : List Int) : List D := ((List.range (NN xs)).filter fun w : Nat => decide ((rds xs (w : Int) xs.length (rg xs.length)).2 ≠ [])).map fun w : Nat => PyData.int w
def rL (xs : List Int) : List D := ((List.range (NN xs)).filter (hr xs)).map fun w : Nat => PyData.int w
def nL (xs : List Int) : List D := ((List.range (NN xs)).filter fun w : Nat => decide ((rds xs (w : Int) xs.length (rg xs.length)).1 = [])).map fun w : Nat => PyData.int w
theorem exc_call (G F : List D → Out) {a b : D} {n : Str} (d : G [a, b] = .exc n) : outOf (mSq (mCallX G (mCons (mVar 0) (mCons (mVar 1) mNil))) (mRet (mCall F (mCons (mVar 0) (mCons (mVar 1) mNil)))) [.v a, .v b]) = .exc n := by
  simp [d]
theorem exc_bun (G F : List D → Out) {a b c : D} {n : Str} (d : G [a, b] = .exc n) : outOf (bunM G F [.v a, .v b, .v c, .un, .un]) = .exc n := by
  simp [d]
theorem ch_ne (xs : List Int) (ld : Int) : neO (chD xs ld) (chD xs ld) = some false := by
  unfold chD
  cases fsC xs ld with
  | none => rfl
  | some i => exact ne_gp _
theorem few_ne (xs : List Int) (ld : Int) : neO (fewD xs ld) (fewD xs ld) = some false := by
  unfold fewD
  cases fsC xs ld with
  | none => rfl
  | some i =>
    have := neO_dt ((1 + i : Nat) : Int) ((1 + i : Nat) : Int)
    simp at this ⊢
theorem best_eq {xs : List Int} (hn : xs.length ≤ 6) (ld : Int) : bestL xs ld = (goodL xs ld).filter fun r => match fsC xs ld with | some i => decide (r.items.length = 1 + i) | none => false := by
  unfold bestL
  cases h : fsC xs ld with
  | none => rw [fs_none hn h]; rfl
  | some i => rfl
theorem good_len {xs : List Int} (ld : Int) (h : xs.length ≤ 6) : (goodL xs ld).length ≤ 64 := by
  have h1 := List.length_filter_le (fun r => decide (r ≠ ⟨[]⟩) && gdC xs ld r) (srtT (sbs xs.length))
  rw [(srtT_perm _).length_eq] at h1
  unfold sbs at h1
  rw [List.length_map, subsL_len, rgs_len] at h1
  have h2 : 2 ^ xs.length ≤ 2 ^ 6 := Nat.pow_le_pow_right (by decide) h
  exact Nat.le_trans h1 h2
theorem right_ok {k : Nat} {c : List D} (h : Dc k c) (hkk : k ≤ 800000) : ∃ c', F__law_right c [] = .ok (.bool true) c' := by
  obtain ⟨w, c1, e1, w0, w1, hc1⟩ := roll_ok (t := 6) h (by omega) (by decide) (by decide)
  have er : rng1 [.int (1 + w)] = some (rngD 0 (1 + w).toNat) := by
    unfold rng1
    exact if_pos (by unfold smallI; simp; omega)
  have hlen : (rngD 0 (1 + w).toNat).length = (1 + w).toNat := by unfold rngD; rw [List.length_map, List.length_range]
  obtain ⟨ys, ρ2, g1, g2, hys, g4⟩ := mLc1_inv (i := 19) (mi := mRng rng1 (mCons (mOp2 addD (mC (.int 1)) (mCallD F__law_roll 0 (mCons (mC (.int 6)) mNil))) mNil)) (me := mOp2 addD (mC (.int 1)) (mCallD F__law_roll 0 (mCons (mCallD F__law_pick 0 (mCons (mGive (mLst (mCons (mC (.int 4)) (mCons (mC (.int 15)) (mCons (mC (.int 99)) mNil))))) mNil)) mNil)))
    (ρ0 := [.dice c, .un, .un, .un, .un, .un, .un, .un, .un, .un, .un, .un, .un, .un, .un, .un, .un, .un, .un, .un, .un]) (ρ1 := [.dice c1, .un, .un, .un, .un, .un, .un, .un, .un, .un, .un, .un, .un, .un, .un, .un, .un, .un, .un, .un, .un]) (ds := rngD 0 (1 + w).toNat)
    (fun j ρ => ∃ c s, ρ = [.dice c, .un, .un, .un, .un, .un, .un, .un, .un, .un, .un, .un, .un, .un, .un, .un, .un, .un, .un, s, .un] ∧ Dc (k + 1 + 2 * j) c) (fun y => ∃ p : Int, y = .int p ∧ 1 ≤ p ∧ p ≤ 99)
    (by simp [e1, er]) (by simp [plainAt, Sl.plain]) ⟨c1, .un, rfl, hc1.mono (by omega)⟩ (fun x hx j ρ hj hI => by
      obtain ⟨c, s, rfl, hc⟩ := hI
      rw [hlen] at hj
      obtain ⟨t0, c2, ht, f0, hc2⟩ := pick_ok (ds := [.int 4, .int 15, .int 99]) hc (by omega) (by simp) (by simp)
      obtain ⟨t, rfl, t1, t2⟩ : ∃ t : Int, t0 = .int t ∧ 0 < t ∧ t ≤ 99 := by
        simp only [List.mem_cons, List.mem_nil_iff, or_false] at ht
        rcases ht with rfl | rfl | rfl
        · exact ⟨4, rfl, by omega, by omega⟩
        · exact ⟨15, rfl, by omega, by omega⟩
        · exact ⟨99, rfl, by omega, by omega⟩
      obtain ⟨v, c3, f1, v0, v1, hc3⟩ := roll_ok (t := t) hc2 (by omega) t1 (by omega)
      exact ⟨[.dice c, .un, .un, .un, .un, .un, .un, .un, .un, .un, .un, .un, .un, .un, .un, .un, .un, .un, .un, .v x, .un], by simp [wipeP], .int (1 + v), [.dice c3, .un, .un, .un, .un, .un, .un, .un, .un, .un, .un, .un, .un, .un, .un, .un, .un, .un, .un, .v x, .un], by simp [f0, f1], ⟨_, rfl, by omega, by omega⟩, c3, .v x, rfl, hc3.mono (by omega)⟩)
  obtain ⟨c2, s2, rfl, hc2⟩ := g4
  rw [hlen] at g2 hc2
  simp [backP, wipeP] at g1
  obtain ⟨xs, rfl, hp⟩ := ints_all hys
  rw [List.length_map] at g2
  have hy : Yn xs := ⟨hp, by omega, by omega⟩
  have n6 := hy.n6
  have n0 := hy.n0
  obtain ⟨ld, c3, e3, l0, l1, hc3⟩ := roll_ok (t := 160) hc2 (by omega) (by decide) (by decide)
  have hd : 0 ≤ ld ∧ ld ≤ 999 := by omega
  have hd2 : 0 ≤ ld ∧ ld ≤ 1000 := by omega
  obtain ⟨s0, s1⟩ := sum_le99 hy.pos
  show Fin (outD (m__law_right (psD 21 c [])))
  unfold m__law_right
  refine Fin.sq (ρ1 := [.dice c3, .v (.tuple (xs.map .int)), .v (.int ld), .un, .un, .un, .un, .un, .un, .un, .un, .un, .un, .un, .un, .un, .un, .un, .un, .un, .un]) ?_ ?_
  · simp [g1, e3]
  refine Fin.sq (ρ1 := [.dice c3, .v (.tuple (xs.map .int)), .v (.int ld), .v (.tuple (rowsD (rds xs ld xs.length (rg xs.length)).1)), .v (dt (⟨(rds xs ld xs.length (rg xs.length)).2⟩ : Gp)), .un, .un, .un, .un, .un, .un, .un, .un, .un, .un, .un, .un, .un, .un, .un, .un]) ?_ ?_
  · have e := broken_ok hy hd2 true
    rw [show sq true xs = .tuple (xs.map .int) from rfl] at e
    simp [e]
  refine Fin.sq (ρ1 := [.dice c3, .v (.tuple (xs.map .int)), .v (.int ld), .v (.tuple (rowsD (rds xs ld xs.length (rg xs.length)).1)), .v (dt (⟨(rds xs ld xs.length (rg xs.length)).2⟩ : Gp)), .un, .un, .un, .un, .un, .un, .un, .un, .un, .un, .un, .un, .un, .un, .un, .un]) ?_ ?_
  · simp [breaks_ok hy hd, left_ok hy hd, ne_rows, ne_gp]
  refine Fin.sq (ρ1 := [.dice c3, .v (.tuple (xs.map .int)), .v (.int ld), .v (.tuple (rowsD (rds xs ld xs.length (rg xs.length)).1)), .v (dt (⟨(rds xs ld xs.length (rg xs.length)).2⟩ : Gp)), .un, .un, .un, .un, .un, .un, .un, .un, .un, .un, .un, .un, .un, .un, .un, .un]) ?_ ?_
  · simp [breaks_ok hy hd, left_ok hy hd, ne_rows, ne_gp]
  refine Fin.sq (ρ1 := [.dice c3, .v (.tuple (xs.map .int)), .v (.int ld), .v (.tuple (rowsD (rn xs ld).1)), .v (dt (⟨(rn xs ld).2⟩ : Gp)), .un, .un, .un, .un, .un, .un, .un, .un, .un, .un, .un, .un, .un, .un, .un, .un]) ?_ ?_
  · simp [lbeside_ok hy hd2]
  refine Fin.sq (ρ1 := [.dice c3, .v (.tuple (xs.map .int)), .v (.int ld), .v (.tuple (rowsD (rn xs ld).1)), .v (dt (⟨(rn xs ld).2⟩ : Gp)), .un, .un, .un, .un, .un, .un, .un, .un, .un, .un, .un, .un, .un, .un, .un, .un]) ?_ ?_
  · simp [bbeside_ok hy hd, pbeside_ok hy hd, ne_rows, ne_gp]
  refine Fin.sq (ρ1 := [.dice c3, .v (.tuple (xs.map .int)), .v (.int ld), .v (.tuple (rowsD (rn xs ld).1)), .v (dt (⟨(rn xs ld).2⟩ : Gp)), .un, .un, .un, .un, .un, .un, .un, .un, .un, .un, .un, .un, .un, .un, .un, .un]) ?_ ?_
  · simp [bbeside_ok hy hd, pbeside_ok hy hd, ne_rows, ne_gp]
  have hsum : sumA [.tuple (xs.map .int)] = some (.int xs.sum) := sumA_t xs
  have hr1 : rng1 [.int (xs.sum + 2)] = some ((List.range (NN xs)).map fun w : Nat => PyData.int w) := by
    have z := rng1_nat (n := NN xs) (by unfold NN; omega)
    unfold NN at z ⊢
    rw [Int.toNat_of_nonneg (by omega)] at z
    exact z
  have hrg : ∀ (f : List D → Option (List D)) (ρ : PE0), ρ[1]? = some (.v (.tuple (xs.map .int))) → mRng f (mCons (mOp2 addD (mCallB sumA (mCons (mVar 1) mNil)) (mC (.int 2))) mNil) ρ = Re.opt (f [.int (xs.sum + 2)]) ρ := fun f ρ h1 => by simp [h1, hsum]
  have hNN : ∀ w ∈ List.range (NN xs), (0 : Int) ≤ (w : Nat) ∧ ((w : Nat) : Int) ≤ 1000 := fun w hw => by
    have := List.mem_range.mp hw
    unfold NN at this
    omega
  have i1 : ∀ a b : D, ixD (.tuple [a, b]) (.int 1) = some b := fun a b => rfl
  have i0 : ∀ a b : D, ixD (.tuple [a, b]) (.int 0) = some a := fun a b => rfl
  refine Fin.sq (ρ1 := [.dice c3, .v (.tuple (xs.map .int)), .v (.int ld), .v (.tuple (rowsD (rn xs ld).1)), .v (dt (⟨(rn xs ld).2⟩ : Gp)), .v (.list (wL xs)), .un, .un, .un, .un, .un, .un, .un, .un, .un, .un, .un, .un, .un, .un, .un]) ?_ ?_
  · have e : mLc [18] (mRng rng1 (mCons (mOp2 addD (mCallB sumA (mCons (mVar 1) mNil)) (mC (.int 2))) mNil)) (gSet 18) (tCmpM neO (mOp2 ixD (mCall F__law_broken (mCons (mVar 1) (mCons (mVar 18) mNil))) (mC (.int 1))) (mTup mNil)) (mVar 18) [.dice c3, .v (.tuple (xs.map .int)), .v (.int ld), .v (.tuple (rowsD (rn xs ld).1)), .v (dt (⟨(rn xs ld).2⟩ : Gp)), .un, .un, .un, .un, .un, .un, .un, .un, .un, .un, .un, .un, .un, .un, .un, .un] = .ok (.l (wL xs)) [.dice c3, .v (.tuple (xs.map .int)), .v (.int ld), .v (.tuple (rowsD (rn xs ld).1)), .v (dt (⟨(rn xs ld).2⟩ : Gp)), .un, .un, .un, .un, .un, .un, .un, .un, .un, .un, .un, .un, .un, .un, .un, .un] := by
      refine lc1 (fun w : Nat => PyData.int w) (List.range (NN xs)) (fun w : Nat => decide ((rds xs (w : Int) xs.length (rg xs.length)).2 ≠ [])) (fun w : Nat => .int w) ?_ ?_ ?_ fun w hw => ?_
      · exact (hrg rng1 _ rfl).trans (opt_some hr1)
      · simp [plainAt, Sl.plain]
      · simp
      · have e := broken_ok hy (hNN w hw) true
        rw [show sq true xs = .tuple (xs.map .int) from rfl] at e
        simp [e, i1, ne_nil]
    simp only [List.map_cons, List.map_nil] at e ⊢
    simp [e]
  refine Fin.sq (ρ1 := [.dice c3, .v (.tuple (xs.map .int)), .v (.int ld), .v (.tuple (rowsD (rn xs ld).1)), .v (dt (⟨(rn xs ld).2⟩ : Gp)), .v (.list (wL xs)), .v (.list (rL xs)), .un, .un, .un, .un, .un, .un, .un, .un, .un, .un, .un, .un, .un, .un]) ?_ ?_
  · have e : mLc [18] (mRng rng1 (mCons (mOp2 addD (mCallB sumA (mCons (mVar 1) mNil)) (mC (.int 2))) mNil)) (gSet 18) (tCmpM neO (mOp2 ixD (mCall F__law_beside (mCons (mVar 1) (mCons (mVar 18) mNil))) (mC (.int 1))) (mTup mNil)) (mVar 18) [.dice c3, .v (.tuple (xs.map .int)), .v (.int ld), .v (.tuple (rowsD (rn xs ld).1)), .v (dt (⟨(rn xs ld).2⟩ : Gp)), .v (.list (wL xs)), .un, .un, .un, .un, .un, .un, .un, .un, .un, .un, .un, .un, .un, .un, .un] = .ok (.l (rL xs)) [.dice c3, .v (.tuple (xs.map .int)), .v (.int ld), .v (.tuple (rowsD (rn xs ld).1)), .v (dt (⟨(rn xs ld).2⟩ : Gp)), .v (.list (wL xs)), .un, .un, .un, .un, .un, .un, .un, .un, .un, .un, .un, .un, .un, .un, .un] := by
      refine lc1 (fun w : Nat => PyData.int w) (List.range (NN xs)) (hr xs) (fun w : Nat => .int w) ?_ ?_ ?_ fun w hw => ?_
      · exact (hrg rng1 _ rfl).trans (opt_some hr1)
      · simp [plainAt, Sl.plain]
      · simp
      · have e := lbeside_ok hy (hNN w hw)
        simp [e, i1, ne_nil, hr]
    simp only [List.map_cons, List.map_nil] at e ⊢
    simp [e]
  refine Fin.sq (ρ1 := [.dice c3, .v (.tuple (xs.map .int)), .v (.int ld), .v (.tuple (rowsD (rn xs ld).1)), .v (dt (⟨(rn xs ld).2⟩ : Gp)), .v (.list (wL xs)), .v (.list (rL xs)), .v (.list (nL xs)), .un, .un, .un, .un, .un, .un, .un, .un, .un, .un, .un, .un, .un]) ?_ ?_
  · have e : mLc [18] (mRng rng1 (mCons (mOp2 addD (mCallB sumA (mCons (mVar 1) mNil)) (mC (.int 2))) mNil)) (gSet 18) (tCmpM eqO (mOp2 ixD (mCall F__law_broken (mCons (mVar 1) (mCons (mVar 18) mNil))) (mC (.int 0))) (mTup mNil)) (mVar 18) [.dice c3, .v (.tuple (xs.map .int)), .v (.int ld), .v (.tuple (rowsD (rn xs ld).1)), .v (dt (⟨(rn xs ld).2⟩ : Gp)), .v (.list (wL xs)), .v (.list (rL xs)), .un, .un, .un, .un, .un, .un, .un, .un, .un, .un, .un, .un, .un, .un] = .ok (.l (nL xs)) [.dice c3, .v (.tuple (xs.map .int)), .v (.int ld), .v (.tuple (rowsD (rn xs ld).1)), .v (dt (⟨(rn xs ld).2⟩ : Gp)), .v (.list (wL xs)), .v (.list (rL xs)), .un, .un, .un, .un, .un, .un, .un, .un, .un, .un, .un, .un, .un, .un] := by
      refine lc1 (fun w : Nat => PyData.int w) (List.range (NN xs)) (fun w : Nat => decide ((rds xs (w : Int) xs.length (rg xs.length)).1 = [])) (fun w : Nat => .int w) ?_ ?_ ?_ fun w hw => ?_
      · exact (hrg rng1 _ rfl).trans (opt_some hr1)
      · simp [plainAt, Sl.plain]
      · simp
      · have e := broken_ok hy (hNN w hw) true
        rw [show sq true xs = .tuple (xs.map .int) from rfl] at e
        simp [e, i0, eq_rows]
    simp only [List.map_cons, List.map_nil] at e ⊢
    simp [e]
  obtain ⟨M, hM1, hM2⟩ := ring_max hy
  have hM2 : maxA [.list (rL xs)] = some (.int M) := hM2
  obtain ⟨f1, f2, f3, f4⟩ := first_ok hy
  obtain ⟨b1, b2⟩ := mb_bd hy
  have hW : maxA [.list (wL xs)] = some (.int (mb xs)) := max_range b1 (by unfold NN; omega) fun w _ => by
    rw [decide_eq_true_eq]
    exact hold_le hy
  have hNo : maxA [.list (nL xs)] = some (.int (mn xs * xs.length)) := max_range f2 (by unfold NN; omega) fun w _ => by
    rw [decide_eq_true_eq]
    exact f4 w
  refine Fin.sq (ρ1 := [.dice c3, .v (.tuple (xs.map .int)), .v (.int ld), .v (.tuple (rowsD (rn xs ld).1)), .v (dt (⟨(rn xs ld).2⟩ : Gp)), .v (.list (wL xs)), .v (.list (rL xs)), .v (.list (nL xs)), .v (.tuple [.int (mb xs), .int M, .int (mn xs * xs.length)]), .un, .un, .un, .un, .un, .un, .un, .un, .un, .un, .un, .un]) ?_ ?_
  · simp [bears_ok hy, hM1, f1]
  refine Fin.sq (ρ1 := [.dice c3, .v (.tuple (xs.map .int)), .v (.int ld), .v (.tuple (rowsD (rn xs ld).1)), .v (dt (⟨(rn xs ld).2⟩ : Gp)), .v (.list (wL xs)), .v (.list (rL xs)), .v (.list (nL xs)), .v (.tuple [.int (mb xs), .int M, .int (mn xs * xs.length)]), .un, .un, .un, .un, .un, .un, .un, .un, .un, .un, .un, .un]) ?_ ?_
  · have q := ne_gp (⟨[mb xs, M, mn xs * xs.length]⟩ : Gp)
    rw [show dt (⟨[mb xs, M, mn xs * xs.length]⟩ : Gp) = .tuple [.int (mb xs), .int M, .int (mn xs * xs.length)] from rfl] at q
    simp [bears_ok hy, hM1, f1, hW, hM2, hNo, q]
  refine Fin.sq (ρ1 := [.dice c3, .v (.tuple (xs.map .int)), .v (.int ld), .v (.tuple (rowsD (rn xs ld).1)), .v (dt (⟨(rn xs ld).2⟩ : Gp)), .v (.list (wL xs)), .v (.list (rL xs)), .v (.list (nL xs)), .v (.tuple [.int (mb xs), .int M, .int (mn xs * xs.length)]), .v (.list ((goodL xs ld).map dt)), .un, .un, .un, .un, .un, .un, .un, .un, .un, .un, .un]) ?_ ?_
  · have hs := subsets_ok (n := xs.length) ⟨n0, n6⟩
    have e : mLc [14] (mItems (mCall F__law_subsets (mCons (mCallB lenD (mCons (mVar 1) mNil)) (mCons (mCallB lenD (mCons (mVar 1) mNil)) mNil)))) (gSet 14) (mAndT (tCmpM neO (mVar 14) (mTup mNil)) (tCmpM neO (mOp2 ixD (mCall F__law_broken (mCons (mGive (mLc [20] (mItems (mVar 14)) (gSet 20) mYes (mOp2 ixD (mVar 1) (mVar 20)))) (mCons (mVar 2) mNil))) (mC (.int 1))) (mTup mNil))) (mVar 14) [.dice c3, .v (.tuple (xs.map .int)), .v (.int ld), .v (.tuple (rowsD (rn xs ld).1)), .v (dt (⟨(rn xs ld).2⟩ : Gp)), .v (.list (wL xs)), .v (.list (rL xs)), .v (.list (nL xs)), .v (.tuple [.int (mb xs), .int M, .int (mn xs * xs.length)]), .un, .un, .un, .un, .un, .un, .un, .un, .un, .un, .un, .un] = .ok (.l ((goodL xs ld).map dt)) [.dice c3, .v (.tuple (xs.map .int)), .v (.int ld), .v (.tuple (rowsD (rn xs ld).1)), .v (dt (⟨(rn xs ld).2⟩ : Gp)), .v (.list (wL xs)), .v (.list (rL xs)), .v (.list (nL xs)), .v (.tuple [.int (mb xs), .int M, .int (mn xs * xs.length)]), .un, .un, .un, .un, .un, .un, .un, .un, .un, .un, .un, .un] := by
      refine lc1 dt (srtT (sbs xs.length)) (fun r => decide (r ≠ ⟨[]⟩) && gdC xs ld r) dt ?_ ?_ ?_ fun r hr => ?_
      · simp [hs]
      · simp [plainAt, Sl.plain]
      · simp
      · have hr := (sbs_mem r).mp ((srtT_perm _).mem_iff.mp hr)
        have hlr := hr.length_le
        rw [rgs_len] at hlr
        have hrr : ∀ i ∈ r.items, 0 ≤ i ∧ i < xs.length := fun i hi => rg_mem.mp (hr.subset hi)
        have esub : mLc [20] (mItems (mVar 14)) (gSet 20) mYes (mOp2 ixD (mVar 1) (mVar 20)) [.dice c3, .v (.tuple (xs.map .int)), .v (.int ld), .v (.tuple (rowsD (rn xs ld).1)), .v (dt (⟨(rn xs ld).2⟩ : Gp)), .v (.list (wL xs)), .v (.list (rL xs)), .v (.list (nL xs)), .v (.tuple [.int (mb xs), .int M, .int (mn xs * xs.length)]), .un, .un, .un, .un, .un, .v (dt r), .un, .un, .un, .un, .un, .un] = .ok (.l ((sub xs r).map .int)) [.dice c3, .v (.tuple (xs.map .int)), .v (.int ld), .v (.tuple (rowsD (rn xs ld).1)), .v (dt (⟨(rn xs ld).2⟩ : Gp)), .v (.list (wL xs)), .v (.list (rL xs)), .v (.list (nL xs)), .v (.tuple [.int (mb xs), .int M, .int (mn xs * xs.length)]), .un, .un, .un, .un, .un, .v (dt r), .un, .un, .un, .un, .un, .un] := by
          have e2 : (sub xs r).map PyData.int = r.items.map fun i => PyData.int (val xs i) := by unfold sub; rw [List.map_map]; rfl
          rw [e2]
          refine lc1' PyData.int r.items (fun i => .int (val xs i)) ?_ ?_ ?_ fun i hi => ?_
          · simp [dt_T]
          · simp [plainAt, Sl.plain]
          · simp
          · simp [ix_val (hrr i hi)]
        have n1 := ne_nil r
        by_cases q : r.items = []
        · have q' : r = ⟨[]⟩ := by cases r; exact congrArg Tup.mk q
          have n1' : neO (dt r) (.tuple []) = some false := n1.trans (by simp [q])
          have b0 : (decide (r ≠ ⟨[]⟩) && gdC xs ld r) = false := by simp [q']
          rw [b0]
          simp [n1']
        · have q' : r ≠ ⟨[]⟩ := fun z => q (congrArg Tup.items z)
          have n1' : neO (dt r) (.tuple []) = some true := n1.trans (by simp [q])
          have ys := sub_yn hy hrr q (by omega)
          have eb := broken_ok ys hd2 false
          rw [show sq false (sub xs r) = .list ((sub xs r).map .int) from rfl] at eb
          have n2 := ne_nil ⟨(rds (sub xs r) ld (sub xs r).length (rg (sub xs r).length)).2⟩
          have b0 : (decide (r ≠ ⟨[]⟩) && gdC xs ld r) = decide ((rds (sub xs r) ld (sub xs r).length (rg (sub xs r).length)).2 ≠ []) := by
            rw [decide_eq_true q', Bool.true_and]
            unfold gdC
            exact decide_eq_decide.mpr (hold_le ys).symm
          rw [b0]
          simp [n1', esub, eb, i1, n2]
    simp only [List.map_cons, List.map_nil] at e ⊢
    simp [e]
  have glen := good_len (xs := xs) ld n6
  refine Fin.sq (ρ1 := [.dice c3, .v (.tuple (xs.map .int)), .v (.int ld), .v (.tuple (rowsD (rn xs ld).1)), .v (dt (⟨(rn xs ld).2⟩ : Gp)), .v (.list (wL xs)), .v (.list (rL xs)), .v (.list (nL xs)), .v (.tuple [.int (mb xs), .int M, .int (mn xs * xs.length)]), .v (.list ((goodL xs ld).map dt)), .v (fewD xs ld), .un, .un, .un, .un, .un, .un, .un, .un, .un, .un]) ?_ ?_
  · have hf := few_ok (xs := xs) (ld := ld) n6
    have e : mLc [14] (mItems (mVar 9)) (gSet 14) mYes (mCallB lenD (mCons (mVar 14) mNil)) [.dice c3, .v (.tuple (xs.map .int)), .v (.int ld), .v (.tuple (rowsD (rn xs ld).1)), .v (dt (⟨(rn xs ld).2⟩ : Gp)), .v (.list (wL xs)), .v (.list (rL xs)), .v (.list (nL xs)), .v (.tuple [.int (mb xs), .int M, .int (mn xs * xs.length)]), .v (.list ((goodL xs ld).map dt)), .un, .un, .un, .un, .un, .un, .un, .un, .un, .un, .un] = .ok (.l ((goodL xs ld).map fun r => .int r.items.length)) [.dice c3, .v (.tuple (xs.map .int)), .v (.int ld), .v (.tuple (rowsD (rn xs ld).1)), .v (dt (⟨(rn xs ld).2⟩ : Gp)), .v (.list (wL xs)), .v (.list (rL xs)), .v (.list (nL xs)), .v (.tuple [.int (mb xs), .int M, .int (mn xs * xs.length)]), .v (.list ((goodL xs ld).map dt)), .un, .un, .un, .un, .un, .un, .un, .un, .un, .un, .un] := by
      refine lc1' dt (goodL xs ld) (fun r => .int r.items.length) ?_ ?_ ?_ fun r hr => ?_
      · simp
      · simp [plainAt, Sl.plain]
      · simp
      · have : lenD [dt r] = some (.int r.items.length) := by rw [dt_T]; simp
        simp [this]
    simp only [List.map_cons, List.map_nil] at e ⊢
    simp [e, hf]
  refine Fin.sq (ρ1 := [.dice c3, .v (.tuple (xs.map .int)), .v (.int ld), .v (.tuple (rowsD (rn xs ld).1)), .v (dt (⟨(rn xs ld).2⟩ : Gp)), .v (.list (wL xs)), .v (.list (rL xs)), .v (.list (nL xs)), .v (.tuple [.int (mb xs), .int M, .int (mn xs * xs.length)]), .v (.list ((goodL xs ld).map dt)), .v (fewD xs ld), .v (.list ((bestL xs ld).map dt)), .v (chD xs ld), .un, .un, .un, .un, .un, .un, .un, .un]) ?_ ?_
  · have e : mLc [14] (mItems (mVar 9)) (gSet 14) (tCmpM eqO (mCallB lenD (mCons (mVar 14) mNil)) (mVar 10)) (mVar 14) [.dice c3, .v (.tuple (xs.map .int)), .v (.int ld), .v (.tuple (rowsD (rn xs ld).1)), .v (dt (⟨(rn xs ld).2⟩ : Gp)), .v (.list (wL xs)), .v (.list (rL xs)), .v (.list (nL xs)), .v (.tuple [.int (mb xs), .int M, .int (mn xs * xs.length)]), .v (.list ((goodL xs ld).map dt)), .v (fewD xs ld), .un, .un, .un, .un, .un, .un, .un, .un, .un, .un] = .ok (.l ((bestL xs ld).map dt)) [.dice c3, .v (.tuple (xs.map .int)), .v (.int ld), .v (.tuple (rowsD (rn xs ld).1)), .v (dt (⟨(rn xs ld).2⟩ : Gp)), .v (.list (wL xs)), .v (.list (rL xs)), .v (.list (nL xs)), .v (.tuple [.int (mb xs), .int M, .int (mn xs * xs.length)]), .v (.list ((goodL xs ld).map dt)), .v (fewD xs ld), .un, .un, .un, .un, .un, .un, .un, .un, .un, .un] := by
      rw [best_eq n6]
      refine lc1 dt (goodL xs ld) (fun r => match fsC xs ld with | some i => decide (r.items.length = 1 + i) | none => false) dt ?_ ?_ ?_ fun r hr => ?_
      · simp
      · simp [plainAt, Sl.plain]
      · simp
      · have hl : lenD [dt r] = some (.int r.items.length) := by rw [dt_T]; simp
        cases q : fsC xs ld with
        | none => rw [fs_none n6 q] at hr; cases hr
        | some i =>
          have ef : fewD xs ld = .int ((1 + i : Nat) : Int) := by unfold fewD; rw [q]
          have z := eqO_dt (r.items.length : Int) ((1 + i : Nat) : Int)
          have z : eqO (.int r.items.length) (.int ((1 + i : Nat) : Int)) = some (decide (r.items.length = 1 + i)) := z.trans (congrArg some (decide_eq_decide.mpr (by omega)))
          simp at z
          simp [hl, ef, z]
    simp only [List.map_cons, List.map_nil] at e ⊢
    simp [e, bundle_ok hy hd]
  have hN : isN (chD xs ld) .none = some (fsC xs ld).isNone := by
    unfold chD
    cases fsC xs ld with
    | none => rfl
    | some i => rfl
  have hG : eqO (.list ((goodL xs ld).map dt)) (.list []) = some (fsC xs ld).isNone := by
    refine (eqO_nilT (goodL xs ld)).trans (congrArg some ?_)
    cases q : fsC xs ld with
    | none => rw [fs_none n6 q]; rfl
    | some i =>
      obtain ⟨h1, h2, h3, _⟩ := fs_some n6 q
      cases w : goodL xs ld with
      | nil => rw [w] at h3; cases h3
      | cons a l => rfl
  refine Fin.sq (ρ1 := [.dice c3, .v (.tuple (xs.map .int)), .v (.int ld), .v (.tuple (rowsD (rn xs ld).1)), .v (dt (⟨(rn xs ld).2⟩ : Gp)), .v (.list (wL xs)), .v (.list (rL xs)), .v (.list (nL xs)), .v (.tuple [.int (mb xs), .int M, .int (mn xs * xs.length)]), .v (.list ((goodL xs ld).map dt)), .v (fewD xs ld), .v (.list ((bestL xs ld).map dt)), .v (chD xs ld), .un, .un, .un, .un, .un, .un, .un, .un]) ?_ ?_
  · simp [yarns_ok hy hd, few_ne, hN, hG]
  refine Fin.sq (ρ1 := [.dice c3, .v (.tuple (xs.map .int)), .v (.int ld), .v (.tuple (rowsD (rn xs ld).1)), .v (dt (⟨(rn xs ld).2⟩ : Gp)), .v (.list (wL xs)), .v (.list (rL xs)), .v (.list (nL xs)), .v (.tuple [.int (mb xs), .int M, .int (mn xs * xs.length)]), .v (.list ((goodL xs ld).map dt)), .v (fewD xs ld), .v (.list ((bestL xs ld).map dt)), .v (chD xs ld), .un, .un, .un, .un, .un, .un, .un, .un]) ?_ ?_
  · have hne := ch_ne xs ld
    have hb := bundle_ok hy hd
    cases q : fsC xs ld with
    | none =>
      have ef : chD xs ld = .none := by unfold chD; rw [q]
      rw [ef] at hne hb ⊢
      simp [hne, hb]
    | some i =>
      have ef : chD xs ld = dt (chR xs ld i) := by unfold chD; rw [q]
      obtain ⟨h1, h2, h3, _⟩ := fs_some n6 q
      have hm : chR xs ld i ∈ bestL xs ld := best_mem.mpr ⟨i, q, h3, h2⟩
      have hi := notIn_dl (chR xs ld i) (bestL xs ld)
      simp [hm] at hi
      have hN2 : notN (dt (chR xs ld i)) .none = some true := rfl
      rw [ef] at hne hb ⊢
      simp [hne, hb, hi, hN2]
  obtain ⟨K, hK1, hK2⟩ : ∃ K, Dc K c3 ∧ K ≤ 900000 := ⟨_, hc3, by omega⟩
  have blen : (bestL xs ld).length ≤ 64 := by
    rw [best_eq n6]
    exact Nat.le_trans (List.length_filter_le _ _) glen
  refine Fin.for_ (ds := rngD 0 4) (fun pre ρ => ∃ c s8 s9, ρ = [.dice c, .v (.tuple (xs.map .int)), .v (.int ld), .v (.tuple (rowsD (rn xs ld).1)), .v (dt (⟨(rn xs ld).2⟩ : Gp)), .v (.list (wL xs)), .v (.list (rL xs)), .v (.list (nL xs)), .v (.tuple [.int (mb xs), .int M, .int (mn xs * xs.length)]), .v (.list ((goodL xs ld).map dt)), .v (fewD xs ld), .v (.list ((bestL xs ld).map dt)), .v (chD xs ld), s8, s9, .un, .un, .un, .un, .un, .un] ∧ Dc (K + pre.length) c) (by simp [show rng1 [.int 4] = some (rngD 0 4) from rfl]) ⟨c3, .un, .un, rfl, hK1⟩ ?_ ?_
  · intro pre x post ρ hpp hI
    obtain ⟨c, s8, s9, rfl, hc⟩ := hI
    have hpl : pre.length < 4 := len_mid hpp
    obtain ⟨O, hO⟩ : ∃ O : List D, O = [.tuple [], .none, chD xs ld, .list [.int 0], .tuple [.int 0, .int 0], .tuple [.int 0], .tuple [.int xs.length]] := ⟨_, rfl⟩
    have hOl : O.length = 7 := by rw [hO]; rfl
    obtain ⟨v, c7, hv, e7, hc7⟩ := pick_ok (ds := (goodL xs ld).map dt ++ (bestL xs ld).map dt ++ O) hc (by omega) (fun z => by rw [List.append_eq_nil_iff] at z; rw [z.2] at hOl; cases hOl) (by simp; omega)
    have a1 := addD_list (a := (goodL xs ld).map dt) (b := (bestL xs ld).map dt) (by rw [List.length_map, List.length_map]; omega)
    have a2 := addD_list (a := (goodL xs ld).map dt ++ (bestL xs ld).map dt) (b := O) (by rw [List.length_append, List.length_map, List.length_map]; omega)
    have hvc : (∃ r : Gp, v = dt r) ∨ (isiTup v = false ∧ F_is_bundle [.tuple (xs.map .int), .int ld, v] = .ok (.bool false)) := by
      rcases List.mem_append.mp hv with hv | hv
      · rcases List.mem_append.mp hv with hv | hv
        · obtain ⟨r, hr, rfl⟩ := List.mem_map.mp hv
          exact .inl ⟨r, rfl⟩
        · obtain ⟨r, hr, rfl⟩ := List.mem_map.mp hv
          exact .inl ⟨r, rfl⟩
      · rw [hO] at hv
        simp only [List.mem_cons, List.mem_nil_iff, or_false] at hv
        rcases hv with rfl | rfl | rfl | rfl | rfl | rfl | rfl
        · exact .inl ⟨⟨[]⟩, rfl⟩
        · exact .inr ⟨rfl, is_bun_no hy hd fun m => rfl⟩
        · unfold chD
          cases q : fsC xs ld with
          | none => exact .inr ⟨rfl, is_bun_no hy hd fun m => rfl⟩
          | some i => exact .inl ⟨_, rfl⟩
        · exact .inr ⟨rfl, is_bun_no hy hd fun m => rfl⟩
        · exact .inl ⟨⟨[0, 0]⟩, rfl⟩
        · exact .inl ⟨⟨[0]⟩, rfl⟩
        · exact .inl ⟨⟨[(xs.length : Int)]⟩, rfl⟩
    have hck : ∀ ρ : PE0, ρ[1]? = some (.v (.tuple (xs.map .int))) → ρ[2]? = some (.v (.int ld)) → ρ[14]? = some (.v v) → ρ[11]? = some (.v (.list ((bestL xs ld).map dt))) →
        tCmpM neO (mCallK F_is_bundle [0, 1, 2] (mCons (mVar 1) (mCons (mVar 2) mNil)) (mCons (mVar 14) mNil)) (mAnd (mIsi isiTup (mVar 14)) (mCmp inO (mVar 14) (mVar 11))) ρ = .ok false ρ := by
      intro ρ h1 h2 h9 h6
      rcases hvc with ⟨t, rfl⟩ | ⟨b1, q1⟩
      · have q1 := is_bun_ok hy hd t
        have q2 := inO_dl t (bestL xs ld)
        generalize F_is_bundle = F at q1 ⊢
        simp [h1, h2, h9, h6, q1, q2]
      · generalize F_is_bundle = F at q1 ⊢
        simp [h1, h2, h9, h6, q1, b1]
    refine ⟨[.dice c, .v (.tuple (xs.map .int)), .v (.int ld), .v (.tuple (rowsD (rn xs ld).1)), .v (dt (⟨(rn xs ld).2⟩ : Gp)), .v (.list (wL xs)), .v (.list (rL xs)), .v (.list (nL xs)), .v (.tuple [.int (mb xs), .int M, .int (mn xs * xs.length)]), .v (.list ((goodL xs ld).map dt)), .v (fewD xs ld), .v (.list ((bestL xs ld).map dt)), .v (chD xs ld), .v x, s9, .un, .un, .un, .un, .un, .un], [.dice c7, .v (.tuple (xs.map .int)), .v (.int ld), .v (.tuple (rowsD (rn xs ld).1)), .v (dt (⟨(rn xs ld).2⟩ : Gp)), .v (.list (wL xs)), .v (.list (rL xs)), .v (.list (nL xs)), .v (.tuple [.int (mb xs), .int M, .int (mn xs * xs.length)]), .v (.list ((goodL xs ld).map dt)), .v (fewD xs ld), .v (.list ((bestL xs ld).map dt)), .v (chD xs ld), .v x, .v v, .un, .un, .un, .un, .un, .un], by simp, ?_, c7, _, _, rfl, hc7.mono (by rw [List.length_append]; simp; omega)⟩
    rw [hO] at a2 e7
    rw [List.append_assoc] at e7
    rw [mSq_nx (ρ1 := [.dice c7, .v (.tuple (xs.map .int)), .v (.int ld), .v (.tuple (rowsD (rn xs ld).1)), .v (dt (⟨(rn xs ld).2⟩ : Gp)), .v (.list (wL xs)), .v (.list (rL xs)), .v (.list (nL xs)), .v (.tuple [.int (mb xs), .int M, .int (mn xs * xs.length)]), .v (.list ((goodL xs ld).map dt)), .v (fewD xs ld), .v (.list ((bestL xs ld).map dt)), .v (chD xs ld), .v x, .v v, .un, .un, .un, .un, .un, .un])]
    · rw [mIfS_eq, hck _ rfl rfl rfl rfl]
      simp
    · simp [a1, a2, e7]
  intro ρ hI
  obtain ⟨c7, s8, s9, rfl, hc7⟩ := hI
  have hl4 : (rngD 0 4).length = 4 := rfl
  rw [hl4] at hc7
  have hm9 : mulTD (.tuple [.int 1]) (.int 9) = some (.tuple [.int 1, .int 1, .int 1, .int 1, .int 1, .int 1, .int 1, .int 1, .int 1]) := rfl
  obtain ⟨b, c9, hb, e9, hc9⟩ := pick_ok (ds := [.none, .tuple [], .tuple [.int 0], .tuple [.int 100], .tuple [.int 1, .int 1, .int 1, .int 1, .int 1, .int 1, .int 1, .int 1, .int 1], .list [.int 1], .tuple [.bool true]]) hc7 (by omega) (by simp) (by simp)
  obtain ⟨o, c10, ho, e10, hc10⟩ := pick_ok (ds := [.int (-1), .int 1000, .none, .str "1"]) hc9 (by omega) (by simp) (by simp)
  have fb : areIn b 1 8 1 99 = false := by
    simp only [List.mem_cons, List.mem_nil_iff, or_false] at hb
    rcases hb with rfl | rfl | rfl | rfl | rfl | rfl | rfl <;> rfl
  have fo : inB 0 999 o = false := by
    simp only [List.mem_cons, List.mem_nil_iff, or_false] at ho
    rcases ho with rfl | rfl | rfl | rfl <;> rfl
  have ab := are_in_ok b 1 8 1 99
  rw [fb] at ab
  have dS : F_demand_strengths [b] = .exc "strengths" := by simp [F_demand_strengths, m_demand_strengths, ab]
  have d1 : ∀ x, F_demand_load [b, x] = .exc "strengths" := fun x => by simp [F_demand_load, m_demand_load, dS]
  have d2 : F_demand_load [.tuple (xs.map .int), o] = .exc "load" := by
    have := is_in_ok o 0 999
    rw [fo] at this
    simp [F_demand_load, m_demand_load, demS hy, this]
  have r1 : F_breaks_at [b, o] = .exc "strengths" := by simp [F_breaks_at, m_breaks_at, d1]
  have r2 : F_left_at [.tuple (xs.map .int), o] = .exc "load" := by simp [F_left_at, m_left_at, d2]
  have r3 : F_bears [b] = .exc "strengths" := by simp [F_bears, m_bears, dS]
  have r4 : F_bundle [.tuple (xs.map .int), o] = .exc "load" := exc_call F_demand_load F_chosen d2
  have r5 : F_left_beside [b, .int 1] = .exc "strengths" := by simp [F_left_beside, m_left_beside, d1]
  have r6 : F_is_bundle [b, o, .int 0] = .exc "strengths" := exc_bun F_demand_load F_chosen (d1 o)
  have r7 : F_first_break [b] = .exc "strengths" := by simp [F_first_break, m_first_break, dS]
  have hadd : addD (.list [.str "strengths", .str "load", .str "strengths", .str "load"]) (.list [.str "strengths", .str "strengths", .str "strengths"]) = some (.list [.str "strengths", .str "load", .str "strengths", .str "load", .str "strengths", .str "strengths", .str "strengths"]) := addD_list (by decide)
  have he : eqO (.list [.str "strengths", .str "load", .str "strengths", .str "load", .str "strengths", .str "strengths", .str "strengths"]) (.list [.str "strengths", .str "load", .str "strengths", .str "load", .str "strengths", .str "strengths", .str "strengths"]) = some true := by kernel_rfl
  refine Fin.sq (ρ1 := [.dice c10, .v (.tuple (xs.map .int)), .v (.int ld), .v (.tuple (rowsD (rn xs ld).1)), .v (dt (⟨(rn xs ld).2⟩ : Gp)), .v (.list (wL xs)), .v (.list (rL xs)), .v (.list (nL xs)), .v (.tuple [.int (mb xs), .int M, .int (mn xs * xs.length)]), .v (.list ((goodL xs ld).map dt)), .v (fewD xs ld), .v (.list ((bestL xs ld).map dt)), .v (chD xs ld), s8, s9, .v b, .v o, .un, .un, .un, .un]) (by simp [hm9, e9, e10]) ?_
  refine Fin.sq (ρ1 := [.dice c10, .v (.tuple (xs.map .int)), .v (.int ld), .v (.tuple (rowsD (rn xs ld).1)), .v (dt (⟨(rn xs ld).2⟩ : Gp)), .v (.list (wL xs)), .v (.list (rL xs)), .v (.list (nL xs)), .v (.tuple [.int (mb xs), .int M, .int (mn xs * xs.length)]), .v (.list ((goodL xs ld).map dt)), .v (fewD xs ld), .v (.list ((bestL xs ld).map dt)), .v (chD xs ld), s8, s9, .v b, .v o, .v (.list [.str "strengths", .str "load", .str "strengths", .str "load"]), .un, .un, .un]) (by simp [r1, r2, r3, r4]) ?_
  exact ⟨c10, by simp [r5, r6, r7, hadd, he]⟩
theorem law_plain (ns : List Int) (hl : ns.length ≤ 63) (hb : ∀ z ∈ ns, Builtin.Int.intBits z ≤ 1048576) : F_law ns = .ok (.bool true) := by
  have hy : Yn [1, 9, 9] := ⟨by decide, by decide, by decide⟩
  have z1 : F_breaks_at [.tuple [.int 1, .int 9, .int 9], .int 6] = .ok (.tuple [.tuple [.int 0]]) := by
    have h := breaks_ok hy (ld := 6) (by decide)
    rw [show (rds [1, 9, 9] 6 ([1, 9, 9] : List Int).length (rg ([1, 9, 9] : List Int).length)).1 = [[0]] by decide +kernel] at h
    exact h
  have z2 : eqO (.tuple [.tuple [.int 0]]) (.tuple [.tuple [.int 0]]) = some true := by kernel_rfl
  have z3 : F_bears [.tuple [.int 1, .int 9, .int 9]] = .ok (.int 18) := by
    have h := bears_ok hy
    have e : mb [1, 9, 9] = 18 := by
      unfold mb mbL
      rw [srtT_isT tri_int]
      decide +kernel
    rw [e] at h
    exact h
  obtain ⟨w, ew, w0, w1⟩ : ∃ w : Int, mRng rng1 (mCons (mCallB max2 (mCons (mC (.int 1)) (mCons (mCallB min2 (mCons (mC (.int 6)) (mCons (mScrLen 0) mNil))) mNil))) mNil) [.scr ns, .un] = .ok (rngD 0 w.toNat) [.scr ns, .un] ∧ 1 ≤ w ∧ w ≤ 6 := by
    obtain ⟨u, hu, u1⟩ : ∃ u : Int, min2 [.int 6, .int ns.length] = some (.int u) ∧ u ≤ 6 := ⟨_, rfl, by split <;> omega⟩
    obtain ⟨w, hw, w0, w1⟩ : ∃ w : Int, max2 [.int 1, .int u] = some (.int w) ∧ 1 ≤ w ∧ w ≤ 6 := ⟨_, rfl, by split <;> omega, by split <;> omega⟩
    have er : rng1 [.int w] = some (rngD 0 w.toNat) := by
      unfold rng1
      exact if_pos (by unfold smallI; simp; omega)
    exact ⟨w, by simp [scrLen_0 hl, hu, hw, er], w0, w1⟩
  generalize hmb : mIfS (mNotT (mT (mRight F__law_dice F__law_right 0 (mVar 1)))) (mRet (mC (.bool false))) mNx = mb
  obtain ⟨ρ2, e2, s, rfl⟩ := forGo_rel (mg := gSet 1) (mb := mb) (fun pre ρ => ∃ s, ρ = [.scr ns, s]) (rngD 0 w.toNat) (rngD 0 w.toNat) [] [.scr ns, .un] rfl ⟨.un, rfl⟩ (fun pre x post ρ hp hI => by
    obtain ⟨s, rfl⟩ := hI
    obtain ⟨y, rfl, y0, y1⟩ : ∃ y : Int, x = .int y ∧ 0 ≤ y ∧ y ≤ 100 := by
      have hx := mem_mid hp
      unfold rngD at hx
      obtain ⟨i, hi, rfl⟩ := List.mem_map.mp hx
      rw [List.mem_range] at hi
      exact ⟨_, rfl, by omega, by omega⟩
    obtain ⟨c, ec, hc⟩ := dice_ok hl y0 y1
    obtain ⟨c', er⟩ := right_ok hc (by decide)
    refine ⟨[.scr ns, .v (.int y)], [.scr ns, .v (.int y)], by simp, ?_, _, rfl⟩
    subst hmb
    simp [right_0 hl, ec, er])
  subst hmb
  show outOf (m_law [.scr ns, .un]) = _
  unfold m_law
  refine (congrArg outOf (mSq_nx (ρ1 := [.scr ns, s]) ?_)).trans ?_
  · rw [mFor_eq, ew, Fl.of_ok, e2]
  · simp [z1, z2, z3]
end Pm

namespace Pm
open PySem PySem.Spec PyProof.Rows L2
open PySem.W in
abbrev RR : PySem.W.OpenRow := PySem.W.OpenLaw.row PySem.Challenge.rw_cordwalk_k08_whole_bundles
def dd_is_in : He.DefD := ⟨("is_in", none), "is_in", "is_in", defArgs s_is_in, defBody s_is_in, defScope s_is_in, [], []⟩
def dd_are_in : He.DefD := ⟨("are_in", none), "are_in", "are_in", defArgs s_are_in, defBody s_are_in, defScope s_are_in, [], []⟩
def dd_is_ascending : He.DefD := ⟨("is_ascending", none), "is_ascending", "is_ascending", defArgs s_is_ascending, defBody s_is_ascending, defScope s_is_ascending, [], []⟩
def dd_demand : He.DefD := ⟨("demand", none), "demand", "demand", defArgs s_demand, defBody s_demand, defScope s_demand, [], []⟩
def dd_common : He.DefD := ⟨("common", none), "common", "common", defArgs s_common, defBody s_common, defScope s_common, [], []⟩
def dd_fraction : He.DefD := ⟨("fraction", none), "fraction", "fraction", defArgs s_fraction, defBody s_fraction, defScope s_fraction, [], []⟩
def dd_is_less : He.DefD := ⟨("is_less", none), "is_less", "is_less", defArgs s_is_less, defBody s_is_less, defScope s_is_less, [], []⟩
def dd_added : He.DefD := ⟨("added", none), "added", "added", defArgs s_added, defBody s_added, defScope s_added, [], []⟩
def dd_multiplied : He.DefD := ⟨("multiplied", none), "multiplied", "multiplied", defArgs s_multiplied, defBody s_multiplied, defScope s_multiplied, [], []⟩
def dd_choices : He.DefD := ⟨("choices", none), "choices", "choices", defArgs s_choices, defBody s_choices, defScope s_choices, [], []⟩
def dd_demand_strengths : He.DefD := ⟨("demand_strengths", none), "demand_strengths", "demand_strengths", defArgs s_demand_strengths, defBody s_demand_strengths, defScope s_demand_strengths, [], []⟩
def dd_demand_load : He.DefD := ⟨("demand_load", none), "demand_load", "demand_load", defArgs s_demand_load, defBody s_demand_load, defScope s_demand_load, [], []⟩
def dd_rounds_of : He.DefD := ⟨("rounds_of", none), "rounds_of", "rounds_of", defArgs s_rounds_of, defBody s_rounds_of, defScope s_rounds_of, [], []⟩
def dd_breaks_at : He.DefD := ⟨("breaks_at", none), "breaks_at", "breaks_at", defArgs s_breaks_at, defBody s_breaks_at, defScope s_breaks_at, [], []⟩
def dd_left_at : He.DefD := ⟨("left_at", none), "left_at", "left_at", defArgs s_left_at, defBody s_left_at, defScope s_left_at, [], []⟩
def dd_most_borne : He.DefD := ⟨("most_borne", none), "most_borne", "most_borne", defArgs s_most_borne, defBody s_most_borne, defScope s_most_borne, [], []⟩
def dd_bears : He.DefD := ⟨("bears", none), "bears", "bears", defArgs s_bears, defBody s_bears, defScope s_bears, [], []⟩
def dd_first_break : He.DefD := ⟨("first_break", none), "first_break", "first_break", defArgs s_first_break, defBody s_first_break, defScope s_first_break, [], []⟩
def dd_nearest : He.DefD := ⟨("nearest", none), "nearest", "nearest", defArgs s_nearest, defBody s_nearest, defScope s_nearest, [], []⟩
def dd_shared_out : He.DefD := ⟨("shared_out", none), "shared_out", "shared_out", defArgs s_shared_out, defBody s_shared_out, defScope s_shared_out, [], []⟩
def dd_rounds_beside : He.DefD := ⟨("rounds_beside", none), "rounds_beside", "rounds_beside", defArgs s_rounds_beside, defBody s_rounds_beside, defScope s_rounds_beside, [], []⟩
def dd_breaks_beside : He.DefD := ⟨("breaks_beside", none), "breaks_beside", "breaks_beside", defArgs s_breaks_beside, defBody s_breaks_beside, defScope s_breaks_beside, [], []⟩
def dd_left_beside : He.DefD := ⟨("left_beside", none), "left_beside", "left_beside", defArgs s_left_beside, defBody s_left_beside, defScope s_left_beside, [], []⟩
def dd_bears_beside : He.DefD := ⟨("bears_beside", none), "bears_beside", "bears_beside", defArgs s_bears_beside, defBody s_bears_beside, defScope s_bears_beside, [], []⟩
def dd_chosen : He.DefD := ⟨("chosen", none), "chosen", "chosen", defArgs s_chosen, defBody s_chosen, defScope s_chosen, [], []⟩
def dd_fewest_yarns : He.DefD := ⟨("fewest_yarns", none), "fewest_yarns", "fewest_yarns", defArgs s_fewest_yarns, defBody s_fewest_yarns, defScope s_fewest_yarns, [], []⟩
def dd_bundle : He.DefD := ⟨("bundle", none), "bundle", "bundle", defArgs s_bundle, defBody s_bundle, defScope s_bundle, [], []⟩
def dd_is_bundle : He.DefD := ⟨("is_bundle", none), "is_bundle", "is_bundle", defArgs s_is_bundle, defBody s_is_bundle, defScope s_is_bundle, [], []⟩
def dd__law_dice : He.DefD := ⟨("_law_dice", none), "_law_dice", "_law_dice", defArgs s__law_dice, defBody s__law_dice, defScope s__law_dice, [], []⟩
def dd__law_roll : He.DefD := ⟨("_law_roll", none), "_law_roll", "_law_roll", defArgs s__law_roll, defBody s__law_roll, defScope s__law_roll, [], []⟩
def dd__law_pick : He.DefD := ⟨("_law_pick", none), "_law_pick", "_law_pick", defArgs s__law_pick, defBody s__law_pick, defScope s__law_pick, [], []⟩
def dd__law_refused : He.DefD := ⟨("_law_refused", none), "_law_refused", "_law_refused", defArgs s__law_refused, defBody s__law_refused, defScope s__law_refused, [], []⟩
def dd__law_subsets : He.DefD := ⟨("_law_subsets", none), "_law_subsets", "_law_subsets", defArgs s__law_subsets, defBody s__law_subsets, defScope s__law_subsets, [], []⟩
def dd__law_broken : He.DefD := ⟨("_law_broken", none), "_law_broken", "_law_broken", defArgs s__law_broken, defBody s__law_broken, defScope s__law_broken, [], []⟩
def dd__law_beside : He.DefD := ⟨("_law_beside", none), "_law_beside", "_law_beside", defArgs s__law_beside, defBody s__law_beside, defScope s__law_beside, [], []⟩
def dd__law_right : He.DefD := ⟨("_law_right", none), "_law_right", "_law_right", defArgs s__law_right, defBody s__law_right, defScope s__law_right, [], []⟩
def dd_law : He.DefD := ⟨("law", none), "law", "law", defArgs s_law, defBody s_law, defScope s_law, [], []⟩
def hfn : List He.DefD := [dd_is_in, dd_are_in, dd_is_ascending, dd_demand, dd_common, dd_fraction, dd_is_less, dd_added, dd_multiplied, dd_choices, dd_demand_strengths, dd_demand_load, dd_rounds_of, dd_breaks_at, dd_left_at, dd_most_borne, dd_bears, dd_first_break, dd_nearest, dd_shared_out, dd_rounds_beside, dd_breaks_beside, dd_left_beside, dd_bears_beside, dd_chosen, dd_fewest_yarns, dd_bundle, dd_is_bundle, dd__law_dice, dd__law_roll, dd__law_pick, dd__law_refused, dd__law_subsets, dd__law_broken, dd__law_beside, dd__law_right, dd_law]
def hfa : List He.Fa := [.glo "is_in", .glo "are_in", .glo "is_ascending", .glo "demand", .glo "common", .glo "fraction", .glo "is_less", .glo "added", .glo "multiplied", .glo "choices", .glo "demand_strengths", .glo "demand_load", .glo "rounds_of", .glo "breaks_at", .glo "left_at", .glo "most_borne", .glo "bears", .glo "first_break", .glo "nearest", .glo "shared_out", .glo "rounds_beside", .glo "breaks_beside", .glo "left_beside", .glo "bears_beside", .glo "chosen", .glo "fewest_yarns", .glo "bundle", .glo "is_bundle", .glo "_law_dice", .glo "_law_roll", .glo "_law_pick", .glo "_law_refused", .glo "_law_subsets", .glo "_law_broken", .glo "_law_beside", .glo "_law_right", .glo "law", .free "len", .free "isinstance", .free "all", .free "sum", .free "abs", .free "range", .free "tuple", .free "list", .free "int", .free "bool", .free "min", .free "max", .free "sorted", .free "enumerate", .free "zip", .free "set", .free "dict", .free "any", .free "ValueError", .free "super", .int "MOST_YARNS" 8, .int "MOST_STRENGTH" 99, .int "MOST_LOAD" 999, .glo "BadArgument", .exm "BadArgument" "BadArgument" true]
def htf : List He.Defn := [("_law_right", none)]
abbrev PP : Program := PySem.Challenge.pw_cordwalk_k08_whole_bundles
abbrev hk : PySem.W.Hook := hookY hfa hfn htf PP.main.file
def ob (s : PySem.W.SharedT) : AlY := obsY hfa hfn htf PP.main.file (HandSHeadRun.getT s)
theorem ob_eq (s : PySem.W.SharedT) : ob s = hk.obs s.abs := obsY_eq (HandSHeadRun.getT_eq s)
def loose0 : List Str := ["is_in", "are_in", "is_ascending", "demand", "common", "fraction", "is_less", "added", "multiplied", "choices", "demand_strengths", "demand_load", "rounds_of", "breaks_at", "left_at", "most_borne", "bears", "first_break", "nearest", "shared_out", "rounds_beside", "breaks_beside", "left_beside", "bears_beside", "chosen"]
def loose1 : List Str := ["fewest_yarns", "bundle", "is_bundle", "_law_dice", "_law_roll", "_law_pick", "_law_refused", "_law_subsets", "_law_broken", "_law_beside", "_law_right", "MOST_YARNS", "MOST_STRENGTH", "MOST_LOAD", "CordError", "BadArgument"]
def loose : List Str := loose0 ++ loose1
theorem run (w : World) : HandSHeadRun.RunEq RR (PySem.W.view RR.prog [46]) hk ob 3000 loose w := by
  intro os
  kernel_rfl
def gx (w : World) (K : PySem.W.Frag) (mg : Str → Option Value) (base : Heap) : Gx := ⟨PP, w, K, mg, base, tabT K htf, He.ga K "BadArgument", []⟩
theorem fct {w : World} {K : PySem.W.Frag} {h base : Heap} {mg : Str → Option Value} (X : K.In h) (N : h.Ns mainGlobals mg) (c : SaysY hfa hfn htf PP.main.file h K) (tb : ∀ p ∈ htf.map (He.cT K), LamX.TabB base mg p.1 p.2) : Fct (gx w K mg base) := by
  have gl := fun (j : Nat) (x : Str) (e : hfa[j]? = some (.glo x)) => He.glo_ok X N (c.d.fact j e)
  have fr := fun (j : Nat) (x : Str) (e : hfa[j]? = some (.free x)) => He.free_ok X N (c.d.fact j e)
  have df := fun (j : Nat) (d : He.DefD) (e : hfn[j]? = some d) => c.d.def_ j e
  have bad : BadTxt PP K mg (He.ga K "BadArgument") := badTxt_of c (gl 60 "BadArgument" rfl) (fr 56 "super" rfl) (by kernel_rfl) (He.exm_ok (c.d.fact 61 (f := .exm "BadArgument" "BadArgument" true) rfl))
  exact {
    d_is_in := ⟨_, df 0 dd_is_in rfl, gl 0 "is_in" rfl⟩
    d_are_in := ⟨_, df 1 dd_are_in rfl, gl 1 "are_in" rfl⟩
    d_is_ascending := ⟨_, df 2 dd_is_ascending rfl, gl 2 "is_ascending" rfl⟩
    d_demand := ⟨_, df 3 dd_demand rfl, gl 3 "demand" rfl⟩
    d_common := ⟨_, df 4 dd_common rfl, gl 4 "common" rfl⟩
    d_fraction := ⟨_, df 5 dd_fraction rfl, gl 5 "fraction" rfl⟩
    d_is_less := ⟨_, df 6 dd_is_less rfl, gl 6 "is_less" rfl⟩
    d_added := ⟨_, df 7 dd_added rfl, gl 7 "added" rfl⟩
    d_multiplied := ⟨_, df 8 dd_multiplied rfl, gl 8 "multiplied" rfl⟩
    d_choices := ⟨_, df 9 dd_choices rfl, gl 9 "choices" rfl⟩
    d_demand_strengths := ⟨_, df 10 dd_demand_strengths rfl, gl 10 "demand_strengths" rfl⟩
    d_demand_load := ⟨_, df 11 dd_demand_load rfl, gl 11 "demand_load" rfl⟩
    d_rounds_of := ⟨_, df 12 dd_rounds_of rfl, gl 12 "rounds_of" rfl⟩
    d_breaks_at := ⟨_, df 13 dd_breaks_at rfl, gl 13 "breaks_at" rfl⟩
    d_left_at := ⟨_, df 14 dd_left_at rfl, gl 14 "left_at" rfl⟩
    d_most_borne := ⟨_, df 15 dd_most_borne rfl, gl 15 "most_borne" rfl⟩
    d_bears := ⟨_, df 16 dd_bears rfl, gl 16 "bears" rfl⟩
    d_first_break := ⟨_, df 17 dd_first_break rfl, gl 17 "first_break" rfl⟩
    d_nearest := ⟨_, df 18 dd_nearest rfl, gl 18 "nearest" rfl⟩
    d_shared_out := ⟨_, df 19 dd_shared_out rfl, gl 19 "shared_out" rfl⟩
    d_rounds_beside := ⟨_, df 20 dd_rounds_beside rfl, gl 20 "rounds_beside" rfl⟩
    d_breaks_beside := ⟨_, df 21 dd_breaks_beside rfl, gl 21 "breaks_beside" rfl⟩
    d_left_beside := ⟨_, df 22 dd_left_beside rfl, gl 22 "left_beside" rfl⟩
    d_bears_beside := ⟨_, df 23 dd_bears_beside rfl, gl 23 "bears_beside" rfl⟩
    d_chosen := ⟨_, df 24 dd_chosen rfl, gl 24 "chosen" rfl⟩
    d_fewest_yarns := ⟨_, df 25 dd_fewest_yarns rfl, gl 25 "fewest_yarns" rfl⟩
    d_bundle := ⟨_, df 26 dd_bundle rfl, gl 26 "bundle" rfl⟩
    d_is_bundle := ⟨_, df 27 dd_is_bundle rfl, gl 27 "is_bundle" rfl⟩
    d__law_dice := ⟨_, df 28 dd__law_dice rfl, gl 28 "_law_dice" rfl⟩
    d__law_roll := ⟨_, df 29 dd__law_roll rfl, gl 29 "_law_roll" rfl⟩
    d__law_pick := ⟨_, df 30 dd__law_pick rfl, gl 30 "_law_pick" rfl⟩
    d__law_refused := ⟨_, df 31 dd__law_refused rfl, gl 31 "_law_refused" rfl⟩
    d__law_subsets := ⟨_, df 32 dd__law_subsets rfl, gl 32 "_law_subsets" rfl⟩
    d__law_broken := ⟨_, df 33 dd__law_broken rfl, gl 33 "_law_broken" rfl⟩
    d__law_beside := ⟨_, df 34 dd__law_beside rfl, gl 34 "_law_beside" rfl⟩
    d__law_right := ⟨_, df 35 dd__law_right rfl, gl 35 "_law_right" rfl, lamD_of (G := gx w K mg base) c rfl tb (i := 0) rfl (df 35 dd__law_right rfl).choose_spec⟩
    d_law := ⟨_, df 36 dd_law rfl, gl 36 "law" rfl⟩
    b_len := fr 37 "len" rfl
    b_isinstance := fr 38 "isinstance" rfl
    b_all := fr 39 "all" rfl
    b_sum := fr 40 "sum" rfl
    b_abs := fr 41 "abs" rfl
    b_range := fr 42 "range" rfl
    b_tuple := fr 43 "tuple" rfl
    b_list := fr 44 "list" rfl
    b_int := fr 45 "int" rfl
    b_bool := fr 46 "bool" rfl
    b_min := fr 47 "min" rfl
    b_max := fr 48 "max" rfl
    b_sorted := fr 49 "sorted" rfl
    b_enumerate := fr 50 "enumerate" rfl
    b_zip := fr 51 "zip" rfl
    b_set := fr 52 "set" rfl
    b_dict := fr 53 "dict" rfl
    b_any := fr 54 "any" rfl
    b_ValueError := fr 55 "ValueError" rfl
    b_super := fr 56 "super" rfl
    i_MOST_YARNS := He.int_ok X N (c.d.fact 57 (f := .int "MOST_YARNS" 8) rfl)
    i_MOST_STRENGTH := He.int_ok X N (c.d.fact 58 (f := .int "MOST_STRENGTH" 99) rfl)
    i_MOST_LOAD := He.int_ok X N (c.d.fact 59 (f := .int "MOST_LOAD" 999) rfl)
    bad := bad
    ref := by
      obtain ⟨fd, F⟩ := df 31 dd__law_refused rfl
      exact ⟨_, bad, ⟨fd, _, _, _, _, _, _, _, _, _, _, _, _, _, F, F.bindsN fun _ _ _ _ _ _ us hl => match us, hl with | [_], _ => rfl⟩, gl 31 "_law_refused" rfl, ⟨rfl, rfl, rfl, by decide +kernel, rfl, by decide +kernel, by decide +kernel⟩, rfl, rfl, rfl⟩ }
theorem cx_no (w : World) (H : Hp) (s : Shared) (e : Value) (s2 : Shared) (h : L2.CX PP w [] H s (fun _ _ _ => False) e s2) : False := by
  obtain ⟨_, _, _, _, _, _, _, _, _, _, _, _, z⟩ := h
  exact z.elim
end Pm
open PySem PySem.W PySem.Calls PyProof.Rows
theorem PySem.Challenge.cw_cordwalk_k08_whole_bundles_holds : PySem.Challenge.rw_cordwalk_k08_whole_bundles.Holds := by
  w_on; o_law
  refine HandSHeadRun.head_any (r := Pm.RR) (q := view Pm.RR.prog [46]) (H := Pm.hk) (ob := Pm.ob) (M := 3000) (loose := Pm.loose) (d := HandSHeadRun.topDef Pm.RR.prog 46) (kwd := []) Pm.ob_eq
    (by kernel_rfl) (fun s => by kernel_rfl) Pm.run (by kernel_rfl) (by kernel_rfl) (by kernel_rfl) (by rfl) (by first | assumption | decide +kernel) (by decide +kernel) ⟨rfl, rfl, rfl, rfl, rfl, by decide +kernel⟩ ?hw ?hc
  case hw => w_witness2
  case hc =>
    refine LamX.walk_ofTsE (l := PySem.Challenge.rw_cordwalk_k08_whole_bundles) (n := 63) (k := 10) (x := "script") (CX := fun w => L2.CX Pm.PP w) rfl (by decide) (by kernel_rfl) ⟨rfl, by decide +kernel, by decide +kernel⟩ ?F Pm.cx_no
    intro w mg fa h Y G hmg0
    obtain ⟨K, KX, c⟩ := Y
    have hmg : mg ("law" : PySem.Str) = some (.ref fa) := by
      have e : (HandSHeadRun.topDef Pm.RR.prog 46).name = ("law" : PySem.Str) := by kernel_rfl
      rw [← e]
      exact hmg0
    obtain ⟨fd, F⟩ := c.d.def_ 36 (d := Pm.dd_law) rfl
    have efa : He.fAd K Pm.dd_law.at_ = fa := by
      have z := He.glo_ok KX G (c.d.fact 36 (f := .glo "law") rfl)
      rw [hmg] at z
      cases z
      rfl
    refine ⟨K, KX, fd, Pm.htf.map (He.cT K), Pm.spL (Pm.gx w K mg h) Pm.F_law, fun p hp => ?_, fun p hp => ?_, fun p hp => ?_, fun s u => L2.FunD.bindsA (ps := ["script"]) F (fun _ _ _ _ _ _ us hl => match us, hl with | [_], _ => rfl) s [u] rfl, fun H a ns hl hb hT hS => ?_, fun base hK hN hB => ?_⟩
    · obtain ⟨q, hq, rfl⟩ := List.mem_map.mp hp
      exact c.empty q hq
    · obtain ⟨q, hq, rfl⟩ := List.mem_map.mp hp
      exact c.out q hq
    · obtain ⟨q, hq, rfl⟩ := List.mem_map.mp hp
      exact codeHd_of_K KX (c.hd q hq)
    · have tabs : LamX.Tabs (Pm.gx w K mg h).T H := fun p hp => by
        obtain ⟨q, hq, rfl⟩ := List.mem_map.mp hp
        exact LamX.TabS.nil (hT _ (List.mem_map_of_mem hq))
      obtain ⟨R, St, hs⟩ := Pm.scr_start (G := Pm.gx w K mg h) hl tabs hS
      refine ⟨rfl, R, ns, a, rfl, St, hs, ?_⟩
      rw [Pm.law_plain ns hl hb]
      exact fun v R2 H2 _ dq => Pm.dq_bool.mp dq
    · obtain ⟨f, P⟩ := Pm.p_law (Pm.fct (w := w) (base := base) KX G c hB)
      have ef : f = fa := by
        have z := P.gm
        have z : mg "law" = some (.ref f) := z
        rw [hmg] at z
        cases z
        rfl
      subst ef
      obtain ⟨⟨fd2, FD, FO, _⟩, _⟩ := P
      have e2 : fd2 = fd := by
        obtain ⟨oc, od, dV, kV, doc, pm, an, cdv, ct, osl, z1, lk, _⟩ := FD.ex
        obtain ⟨oc2, od2, dV2, kV2, doc2, pm2, an2, cdv2, ct2, osl2, z2, lk2, _⟩ := F.ex
        rw [efa] at lk2
        have lk3 := lk.symm.trans lk2
        cases lk3
        rfl
      subst e2
      have e3 : Pm.spL (Pm.gx w K mg h) Pm.F_law = Pm.spL (Pm.gx w K mg base) Pm.F_law := Pm.spL_eq
      rw [e3]
      exact FO.mono (by decide)

