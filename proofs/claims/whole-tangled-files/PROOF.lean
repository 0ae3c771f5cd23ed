import PyProof.Rows.All
import Wide.All
import OpenK.AllK
import Wide.FinOn
import HandS.ForMost
import HandS.Walk
import HandS.TupAny
import HandS.StrMore
import HandS.IsInst
import HandS.Style
import KE.GoesEnum
import HandS.SetKeys
import KE.KDictList
import PyProof.TupleCall
import HandS.DictComp
import HandS.ExcInit
import HandS.ExcOwn
import HandS.ExcIs
import HandS.ExcField
import HandS.WordsExc
import KE.KExcIs
import PyProof.ReprRoads
import PyProof.ReprLen
import PySem.Challenge.RW_proseknot_k15_whole_tangled_files
set_option Elab.async false
set_option linter.all false
set_option maxRecDepth 100000
set_option maxHeartbeats 4000000
/-! K1: data, what denotes it, states of a body, the judgements. -/
namespace Kn
open PySem PySem.Spec PyProof.Rows L2

/-! ### heaps -/
def Ex (H H' : Hp) : Prop := ∀ x u, H x = some u → H' x = some u
theorem Ex.refl (H : Hp) : Ex H H := fun _ _ k => k
theorem Ex.trans {H H1 H2 : Hp} (a : Ex H H1) (b : Ex H1 H2) : Ex H H2 := fun x u k => b x u (a x u k)
theorem Ex.new {H : Hp} {p : Addr} {o : HO} (h : H p = none) : Ex H (upd H p o) := fun x u e => by
  rw [upd_ne (ne_of_none e h)]
  exact e
theorem Ex.free {H H' : Hp} {p : Addr} (e : Ex H H') (h : H' p = none) : H p = none := by
  cases h1 : H p with
  | none => rfl
  | some o =>
    rw [e p o h1] at h
    cases h
theorem Ex.rd {H H' : Hp} {a : Addr} {u : HO} (e : Ex H H') (h : Rd H a u) : Rd H' a u := by
  rcases h with h | ⟨o, h⟩
  · exact Or.inl (e a _ h)
  · exact Or.inr ⟨o, e a _ h⟩
theorem Ex.l {K : PySem.W.Frag} {H H' : Hp} {a : Addr} {xs : List V} (e : Ex H H') (h : SqL K H a xs) : SqL K H' a xs := by
  rcases h with h | h
  · exact Or.inl (e.rd h)
  · exact Or.inr h
theorem Ex.t {K : PySem.W.Frag} {H H' : Hp} {a : Addr} {xs : List V} (e : Ex H H') (h : SqT K H a xs) : SqT K H' a xs := by
  rcases h with h | h
  · exact Or.inl (e.rd h)
  · exact Or.inr h
theorem upd_ex {B H : Hp} {p : Addr} {o : HO} (e : Ex B H) (h : H p = some o) : Ex (upd B p o) H := fun a u q => by
  by_cases ha : a = p
  · subst ha; rw [upd_same] at q; cases q; exact h
  · rw [upd_ne ha] at q; exact e a u q
theorem upd_both {B H : Hp} {p : Addr} {o : HO} (e : Ex B H) : Ex (upd B p o) (upd H p o) := fun a u q => by
  by_cases ha : a = p
  · subst ha; rw [upd_same] at q; cases q; exact upd_same
  · rw [upd_ne ha] at q; rw [upd_ne ha]; exact e a u q
/-- B does not know p -/
theorem Ex.put {B H : Hp} {p : Addr} {o : HO} (e : Ex B H) (h : B p = none) : Ex B (upd H p o) := fun a u q => by
  rw [upd_ne (ne_of_none q h)]; exact e a u q

/-! ### data -/
inductive D where
  | non | bl (b : Bool) | int (i : Int) | str (x : Str) | lst (xs : List D) | tup (xs : List D) | dic (kvs : List (Key × D)) | dit (kvs : List (List Key × D)) | ins (C : Addr) (fs : List (Str × D))

mutual
inductive Dn (K : PySem.W.Frag) (B : Hp) : V → D → Prop
  | non : Dn K B .non .non
  | bl (b : Bool) : Dn K B (.bl b) (.bl b)
  | int (i : Int) : Dn K B (.int i) (.int i)
  | str (x : Str) : Dn K B (.str x) (.str x)
  | lst {a : Addr} {vs : List V} {ds : List D} : B a = some (.lst vs) → DnL K B vs ds → Dn K B (.ref a) (.lst ds)
  | tup {a : Addr} {vs : List V} {ds : List D} : B a = some (.tup vs) → DnL K B vs ds → Dn K B (.ref a) (.tup ds)
  | dic {a : Addr} {vs : List (Key × V)} {ds : List (Key × D)} : Rd B a (.dK vs) → DnK K B vs ds → Dn K B (.ref a) (.dic ds)
  | dit {a : Addr} {vs : List (List Key × V)} {ds : List (List Key × D)} : B a = some (.dT vs) → DnH K B vs ds → Dn K B (.ref a) (.dit ds)
  | ins {a C dx : Addr} {vs : List (Str × V)} {ds : List (Str × D)} : B a = some (.ins C dx vs) → DnF K B vs ds → Dn K B (.ref a) (.ins C ds)
inductive DnL (K : PySem.W.Frag) (B : Hp) : List V → List D → Prop
  | nil : DnL K B [] []
  | cons {v : V} {d : D} {vs : List V} {ds : List D} : Dn K B v d → DnL K B vs ds → DnL K B (v :: vs) (d :: ds)
inductive DnK (K : PySem.W.Frag) (B : Hp) : List (Key × V) → List (Key × D) → Prop
  | nil : DnK K B [] []
  | cons (k : Key) {v : V} {d : D} {vs : List (Key × V)} {ds : List (Key × D)} : Dn K B v d → DnK K B vs ds → DnK K B ((k, v) :: vs) ((k, d) :: ds)
inductive DnH (K : PySem.W.Frag) (B : Hp) : List (List Key × V) → List (List Key × D) → Prop
  | nil : DnH K B [] []
  | cons (k : List Key) {v : V} {d : D} {vs : List (List Key × V)} {ds : List (List Key × D)} : Dn K B v d → DnH K B vs ds → DnH K B ((k, v) :: vs) ((k, d) :: ds)
inductive DnF (K : PySem.W.Frag) (B : Hp) : List (Str × V) → List (Str × D) → Prop
  | nil : DnF K B [] []
  | cons (k : Str) {v : V} {d : D} {vs : List (Str × V)} {ds : List (Str × D)} : Dn K B v d → DnF K B vs ds → DnF K B ((k, v) :: vs) ((k, d) :: ds)
end

section
variable {K : PySem.W.Frag} {B B' : Hp}
mutual
theorem Dn.mono (e : Ex B B') : ∀ {v : V} {d : D}, Dn K B v d → Dn K B' v d
  | _, _, .non => .non
  | _, _, .bl b => .bl b
  | _, _, .int i => .int i
  | _, _, .str x => .str x
  | _, _, .lst h r => .lst (e _ _ h) (DnL.mono e r)
  | _, _, .tup h r => .tup (e _ _ h) (DnL.mono e r)
  | _, _, .dic h r => .dic (e.rd h) (DnK.mono e r)
  | _, _, .dit h r => .dit (e _ _ h) (DnH.mono e r)
  | _, _, .ins h r => .ins (e _ _ h) (DnF.mono e r)
theorem DnL.mono (e : Ex B B') : ∀ {vs : List V} {ds : List D}, DnL K B vs ds → DnL K B' vs ds
  | _, _, .nil => .nil
  | _, _, .cons h r => .cons (Dn.mono e h) (DnL.mono e r)
theorem DnK.mono (e : Ex B B') : ∀ {vs : List (Key × V)} {ds : List (Key × D)}, DnK K B vs ds → DnK K B' vs ds
  | _, _, .nil => .nil
  | _, _, .cons k h r => .cons k (Dn.mono e h) (DnK.mono e r)
theorem DnH.mono (e : Ex B B') : ∀ {vs : List (List Key × V)} {ds : List (List Key × D)}, DnH K B vs ds → DnH K B' vs ds
  | _, _, .nil => .nil
  | _, _, .cons k h r => .cons k (Dn.mono e h) (DnH.mono e r)
theorem DnF.mono (e : Ex B B') : ∀ {vs : List (Str × V)} {ds : List (Str × D)}, DnF K B vs ds → DnF K B' vs ds
  | _, _, .nil => .nil
  | _, _, .cons k h r => .cons k (Dn.mono e h) (DnF.mono e r)
end
theorem DnL.length : ∀ {vs : List V} {ds : List D}, DnL K B vs ds → vs.length = ds.length
  | _, _, .nil => rfl
  | _, _, .cons _ r => congrArg (· + 1) (DnL.length r)
theorem DnL.append : ∀ {vs ws : List V} {ds es : List D}, DnL K B vs ds → DnL K B ws es → DnL K B (vs ++ ws) (ds ++ es)
  | _, _, _, _, .nil, s => s
  | _, _, _, _, .cons h r, s => .cons h (DnL.append r s)
theorem DnL.get : ∀ {vs : List V} {ds : List D} {i : Nat} {d : D}, DnL K B vs ds → ds[i]? = some d → ∃ v, vs[i]? = some v ∧ Dn K B v d
  | _, _, _, _, .nil, e => by simp at e
  | _, _, 0, _, .cons h _, e => by simp at e; subst e; exact ⟨_, rfl, h⟩
  | _, _, i + 1, d, .cons _ r, e => by
    obtain ⟨v, h1, h2⟩ := DnL.get (i := i) (d := d) r (by simpa using e)
    exact ⟨v, by simpa using h1, h2⟩
theorem DnL.at : ∀ {vs : List V} {ds : List D} {i : Nat} {v : V}, DnL K B vs ds → vs[i]? = some v → ∃ d, ds[i]? = some d ∧ Dn K B v d
  | _, _, _, _, .nil, e => by simp at e
  | _, _, 0, _, .cons h _, e => by simp at e; subst e; exact ⟨_, rfl, h⟩
  | _, _, i + 1, d, .cons _ r, e => by
    obtain ⟨v, h1, h2⟩ := DnL.at (i := i) (v := d) r (by simpa using e)
    exact ⟨v, by simpa using h1, h2⟩
theorem DnL.take : ∀ {vs : List V} {ds : List D} (n : Nat), DnL K B vs ds → DnL K B (vs.take n) (ds.take n)
  | _, _, 0, _ => .nil
  | _, _, _ + 1, .nil => .nil
  | _, _, n + 1, .cons h r => .cons h (DnL.take n r)
theorem DnL.drop : ∀ {vs : List V} {ds : List D} (n : Nat), DnL K B vs ds → DnL K B (vs.drop n) (ds.drop n)
  | _, _, 0, r => r
  | _, _, _ + 1, .nil => .nil
  | _, _, n + 1, .cons _ r => DnL.drop n r
theorem DnL.snoc {vs : List V} {ds : List D} {v : V} {d : D} (r : DnL K B vs ds) (h : Dn K B v d) : DnL K B (vs ++ [v]) (ds ++ [d]) := r.append (.cons h .nil)
theorem DnL.rev : ∀ {vs : List V} {ds : List D}, DnL K B vs ds → DnL K B vs.reverse ds.reverse
  | _, _, .nil => .nil
  | _, _, .cons h r => by
    rw [List.reverse_cons, List.reverse_cons]
    exact (DnL.rev r).snoc h
theorem DnL.dropLast : ∀ {vs : List V} {ds : List D}, DnL K B vs ds → DnL K B vs.dropLast ds.dropLast
  | _, _, .nil => .nil
  | _, _, .cons h .nil => .nil
  | _, _, .cons h (.cons h2 r) => .cons h (DnL.dropLast (.cons h2 r))
theorem DnL.erase : ∀ {vs : List V} {ds : List D} (i : Nat), DnL K B vs ds → DnL K B (vs.eraseIdx i) (ds.eraseIdx i)
  | _, _, _, .nil => .nil
  | _, _, 0, .cons _ r => r
  | _, _, i + 1, .cons h r => .cons h (DnL.erase i r)
theorem DnL.ints : ∀ {ns : List Int}, DnL K B (ns.map V.int) (ns.map D.int)
  | [] => .nil
  | n :: _ => .cons (.int n) DnL.ints
theorem DnL.of_ints : ∀ {vs : List V} {ns : List Int}, DnL K B vs (ns.map D.int) → vs = ns.map V.int
  | _, [], .nil => rfl
  | _, n :: r, .cons h t => by cases h; rw [DnL.of_ints t]; rfl
theorem DnL.of_strs : ∀ {vs : List V} {ns : List Str}, DnL K B vs (ns.map D.str) → vs = ns.map V.str
  | _, [], .nil => rfl
  | _, n :: r, .cons h t => by cases h; rw [DnL.of_strs t]; rfl
theorem DnL.of_bls : ∀ {vs : List V} {ns : List Bool}, DnL K B vs (ns.map D.bl) → vs = ns.map V.bl
  | _, [], .nil => rfl
  | _, n :: r, .cons h t => by cases h; rw [DnL.of_bls t]; rfl
theorem DnK.append : ∀ {vs ws : List (Key × V)} {ds es : List (Key × D)}, DnK K B vs ds → DnK K B ws es → DnK K B (vs ++ ws) (ds ++ es)
  | _, _, _, _, .nil, s => s
  | _, _, _, _, .cons k h r, s => .cons k h (DnK.append r s)
theorem DnH.append : ∀ {vs ws : List (List Key × V)} {ds es : List (List Key × D)}, DnH K B vs ds → DnH K B ws es → DnH K B (vs ++ ws) (ds ++ es)
  | _, _, _, _, .nil, s => s
  | _, _, _, _, .cons k h r, s => .cons k h (DnH.append r s)
end

/-- reading a dict of data -/
def luK {κ : Type} [DecidableEq κ] (kds : List (κ × D)) (k : κ) : Option D := (kds.find? fun kv => decide (kv.1 = k)).map (·.2)
theorem luK_nil {κ : Type} [DecidableEq κ] (k : κ) : luK ([] : List (κ × D)) k = none := rfl
theorem luK_cons {κ : Type} [DecidableEq κ] (j k : κ) (d : D) (r : List (κ × D)) : luK ((j, d) :: r) k = if j = k then some d else luK r k := by
  unfold luK
  by_cases h : j = k <;> simp [List.find?_cons, h]
theorem valV_cons {κ : Type} [DecidableEq κ] (j k : κ) (d : V) (r : List (κ × V)) : valV ((j, d) :: r) k = if j = k then some d else valV r k := by
  unfold valV
  by_cases h : j = k <;> simp [List.find?_cons, h]
/-- an option of a value denotes an option of data -/
def DnO (K : PySem.W.Frag) (B : Hp) : Option V → Option D → Prop
  | some v, some d => Dn K B v d
  | none, none => True
  | _, _ => False
theorem DnK.lu {K : PySem.W.Frag} {B : Hp} (k : Key) : ∀ {vs : List (Key × V)} {ds : List (Key × D)}, DnK K B vs ds → DnO K B (valV vs k) (luK ds k)
  | _, _, .nil => True.intro
  | _, _, .cons j h r => by
    rw [luK_cons, valV_cons]
    split
    · exact h
    · exact DnK.lu k r
theorem DnH.lu {K : PySem.W.Frag} {B : Hp} (k : List Key) : ∀ {vs : List (List Key × V)} {ds : List (List Key × D)}, DnH K B vs ds → DnO K B (valV vs k) (luK ds k)
  | _, _, .nil => True.intro
  | _, _, .cons j h r => by
    rw [luK_cons, valV_cons]
    split
    · exact h
    · exact DnH.lu k r
theorem DnF.lu {K : PySem.W.Frag} {B : Hp} (k : Str) : ∀ {vs : List (Str × V)} {ds : List (Str × D)}, DnF K B vs ds → DnO K B (vs.lookup k) (ds.lookup k)
  | _, _, .nil => True.intro
  | _, _, .cons j h r => by
    rw [List.lookup_cons, List.lookup_cons]
    split
    · exact h
    · exact DnF.lu k r
theorem DnO.some_of {K : PySem.W.Frag} {B : Hp} {o : Option V} {d : D} (h : DnO K B o (some d)) : ∃ v, o = some v ∧ Dn K B v d := by
  cases o with
  | none => exact h.elim
  | some v => exact ⟨v, rfl, h⟩
theorem DnO.none_of {K : PySem.W.Frag} {B : Hp} {o : Option V} (h : DnO K B o none) : o = none := by
  cases o with
  | none => rfl
  | some v => exact h.elim
theorem DnO.isSome {K : PySem.W.Frag} {B : Hp} {o : Option V} {d : Option D} (h : DnO K B o d) : o.isSome = d.isSome := by
  cases o <;> cases d <;> first | rfl | exact h.elim

/-! ### states -/
/-- where a body stands: what is fixed (P, w, K, mg, base), what it may change of what was there (W), the heaps at its entry -/
structure En where
  P : Program
  w : World
  K : PySem.W.Frag
  mg : Str → Option Value
  base : Heap
  W : List Addr
  B : Hp
  H : Hp
structure Pool where
  cells : List Int
  at_ : Int
  rest : Int
  left : Int
  small : Bool
  seed : Int
  turn : Int
def poolK (c : Addr) (p : Pool) : List (Key × V) :=
  [(.inr "cells", .ref c), (.inr "at", .int p.at_), (.inr "rest", .int p.rest), (.inr "left", .int p.left), (.inr "small", .bl p.small), (.inr "seed", .int p.seed), (.inr "turn", .int p.turn)]
/-- how much is known of what callers share: a room; a pool; a pool that stands so -/
inductive PoolSt where
  | none | some (c : Addr) | is (c : Addr) (p : Pool)
/-- what is owned by one name -/
inductive O where
  | lst (ds : List D) | dK (kds : List (Key × D)) | dT (kds : List (List Key × D)) | pool (l : Addr) (c : PoolSt)
def OHas (K : PySem.W.Frag) (B H : Hp) (l : Addr) : O → Prop
  | .lst ds => ∃ vs, H l = some (.lst vs) ∧ DnL K B vs ds
  | .dK ds => ∃ vs, H l = some (.dK vs) ∧ DnK K B vs ds
  | .dT ds => ∃ vs, H l = some (.dT vs) ∧ DnH K B vs ds
  | .pool m .none => l = m ∧ ∃ n : Int, H l = some (.lst [.int n])
  | .pool m (.is c p) => l = m ∧ H l = some (.dK (poolK c p)) ∧ B c = some (.lst (p.cells.map V.int)) ∧ 0 ≤ p.at_
  | .pool m (.some c) => l = m ∧ ∃ p : Pool, H l = some (.dK (poolK c p)) ∧ B c = some (.lst (p.cells.map V.int)) ∧ 0 ≤ p.at_
theorem OHas.there {K : PySem.W.Frag} {B H : Hp} {l : Addr} {o : O} (h : OHas K B H l o) : H l ≠ none := by
  cases o with
  | lst ds => obtain ⟨vs, e, _⟩ := h; rw [e]; simp
  | dK ds => obtain ⟨vs, e, _⟩ := h; rw [e]; simp
  | dT ds => obtain ⟨vs, e, _⟩ := h; rw [e]; simp
  | pool m c => cases c with
    | none => obtain ⟨_, n, e⟩ := h; rw [e]; simp
    | is c p => obtain ⟨_, e, _⟩ := h; rw [e]; simp
    | some c => obtain ⟨_, p, e, _⟩ := h; rw [e]; simp
theorem OHas.mono {K : PySem.W.Frag} {B B' H H' : Hp} {l : Addr} {o : O} (h : OHas K B H l o) (e : Ex B B') (k : H' l = H l) : OHas K B' H' l o := by
  cases o with
  | lst ds => obtain ⟨vs, q, r⟩ := h; exact ⟨vs, k.trans q, r.mono e⟩
  | dK ds => obtain ⟨vs, q, r⟩ := h; exact ⟨vs, k.trans q, r.mono e⟩
  | dT ds => obtain ⟨vs, q, r⟩ := h; exact ⟨vs, k.trans q, r.mono e⟩
  | pool m c => cases c with
    | none => obtain ⟨y, n, q⟩ := h; exact ⟨y, n, k.trans q⟩
    | is c p => obtain ⟨y, q, r, z⟩ := h; exact ⟨y, k.trans q, e _ _ r, z⟩
    | some c => obtain ⟨y, p, q, r, z⟩ := h; exact ⟨y, p, k.trans q, e _ _ r, z⟩
inductive Slot where
  | un | d (x : D) | own (o : O)
/-- from the entry to now -/
structure Rn (W : List Addr) (B0 H0 B H : Hp) : Prop where
  eb : Ex B0 B
  eh : ∀ a o, a ∉ W → H0 a = some o → H a = some o
  th : ∀ a, H0 a ≠ none → H a ≠ none
  fr : ∀ a, H0 a ≠ none → B0 a = none → B a = none
theorem Rn.refl {W : List Addr} {B H : Hp} : Rn W B H B H := ⟨Ex.refl B, fun _ _ _ h => h, fun _ h => h, fun _ _ h => h⟩
theorem Rn.trans {W : List Addr} {B0 H0 B1 H1 B2 H2 : Hp} (a : Rn W B0 H0 B1 H1) (b : Rn W B1 H1 B2 H2) : Rn W B0 H0 B2 H2 :=
  ⟨a.eb.trans b.eb, fun x o n h => b.eh x o n (a.eh x o n h), fun x h => b.th x (a.th x h), fun x h n => b.fr x (a.th x h) (a.fr x h n)⟩
theorem Rn.wide {W : List Addr} {B0 H0 B1 H1 : Hp} (a : Rn [] B0 H0 B1 H1) : Rn W B0 H0 B1 H1 := ⟨a.eb, fun x o _ h => a.eh x o (by simp) h, a.th, a.fr⟩
/-- progress that changes nothing of what was -/
structure Pg (B H B' H' : Hp) : Prop where
  rn : Rn [] B H B' H'
  sub : Ex B' H'
theorem Pg.eb {B H B' H' : Hp} (p : Pg B H B' H') : Ex B B' := p.rn.eb
theorem Pg.eh {B H B' H' : Hp} (p : Pg B H B' H') : Ex H H' := fun a o h => p.rn.eh a o (by simp) h
theorem Pg.refl {B H : Hp} (e : Ex B H) : Pg B H B H := ⟨Rn.refl, e⟩
theorem Pg.trans {B0 H0 B1 H1 B2 H2 : Hp} (a : Pg B0 H0 B1 H1) (b : Pg B1 H1 B2 H2) : Pg B0 H0 B2 H2 := ⟨a.rn.trans b.rn, b.sub⟩
/-- a new thing, known at once -/
theorem Pg.new {B H : Hp} {p : Addr} {o : HO} (e : Ex B H) (h : H p = none) : Pg B H (upd B p o) (upd H p o) :=
  ⟨⟨Ex.new (e.free h), fun a u _ q => by rw [upd_ne (ne_of_none q h)]; exact q, fun a q => by
      by_cases ha : a = p
      · subst ha; exact absurd h q
      · rw [upd_ne ha]; exact q, fun a q n => by
      by_cases ha : a = p
      · subst ha; exact absurd h q
      · rw [upd_ne ha]; exact n⟩, upd_both e⟩
/-- a new thing, kept apart -/
theorem Pg.apart {B H : Hp} {p : Addr} {o : HO} (e : Ex B H) (h : H p = none) : Pg B H B (upd H p o) :=
  ⟨⟨Ex.refl B, fun a u _ q => by rw [upd_ne (ne_of_none q h)]; exact q, fun a q => by
      by_cases ha : a = p
      · subst ha; exact absurd h q
      · rw [upd_ne ha]; exact q, fun a q n => n⟩, e.put (e.free h)⟩
def SlotOk (E : En) (B H : Hp) (σ : L2.St) (i : Nat) : Slot → Prop
  | .un => True
  | .d x => ∃ v, σ[i]? = some (some v) ∧ Dn E.K B v x
  | .own o => ∃ l, σ[i]? = some (some (.ref l)) ∧ B l = none ∧ (E.H l = none ∨ ((∃ m c, o = .pool m c) ∧ l ∈ E.W)) ∧ OHas E.K B H l o
structure Sees (E : En) (Δ : List Slot) (σ : L2.St) (B H : Hp) : Prop where
  sub : Ex B H
  rn : Rn E.W E.B E.H B H
  sl : ∀ i s, Δ[i]? = some s → SlotOk E B H σ i s
  ap : ∀ (i j : Nat) (o p : O) (l : Addr), Δ[i]? = some (Slot.own o) → Δ[j]? = some (Slot.own p) → σ[i]? = some (some (V.ref l)) → σ[j]? = some (some (V.ref l)) → i = j
section
variable {E : En} {Δ : List Slot} {σ : L2.St} {B H B' H' : Hp}
theorem Sees.step (S : Sees E Δ σ B H) (p : Pg B H B' H') : Sees E Δ σ B' H' := by
  refine ⟨p.sub, S.rn.trans p.rn.wide, fun i s h => ?_, S.ap⟩
  have q := S.sl i s h
  cases s with
  | un => trivial
  | d x => obtain ⟨v, e, r⟩ := q; exact ⟨v, e, r.mono p.eb⟩
  | own o =>
    obtain ⟨l, e, n, m, r⟩ := q
    refine ⟨l, e, p.rn.fr l r.there n, m, r.mono p.eb ?_⟩
    cases hl : H l with
    | none => exact absurd hl r.there
    | some u => exact p.eh l u hl
theorem Sees.get (S : Sees E Δ σ B H) {i : Nat} {x : D} (h : Δ[i]? = some (.d x)) : ∃ v, σ[i]? = some (some v) ∧ Dn E.K B v x := S.sl i _ h
theorem Sees.own (S : Sees E Δ σ B H) {i : Nat} {o : O} (h : Δ[i]? = some (.own o)) : ∃ l, σ[i]? = some (some (.ref l)) ∧ B l = none ∧ (E.H l = none ∨ ((∃ m c, o = .pool m c) ∧ l ∈ E.W)) ∧ OHas E.K B H l o := S.sl i _ h
theorem getElem?_set_cases {α : Type} {l : List α} {i j : Nat} {a b : α} (h : (l.set i a)[j]? = some b) : (i = j ∧ b = a) ∨ (i ≠ j ∧ l[j]? = some b) := by
  by_cases e : i = j
  · subst e
    by_cases hl : i < l.length
    · rw [List.getElem?_set_self hl] at h; cases h; exact .inl ⟨rfl, rfl⟩
    · rw [List.getElem?_eq_none (by simpa using hl)] at h; cases h
  · rw [List.getElem?_set_ne e] at h
    exact .inr ⟨e, h⟩
theorem set_has {α : Type} {l : List α} {i : Nat} {a b : α} (h : l[i]? = some b) : (l.set i a)[i]? = some a := List.getElem?_set_self (List.getElem?_eq_some_iff.mp h).1
/-- a name is given a datum -/
theorem Sees.setD (S : Sees E Δ σ B H) {i : Nat} {v : V} {x : D} (hi : i < σ.length) (r : Dn E.K B v x) : Sees E (Δ.set i (.d x)) (σ.set i (some v)) B H := by
  refine ⟨S.sub, S.rn, fun j s h => ?_, fun j k o p l h1 h2 h3 h4 => ?_⟩
  · rcases getElem?_set_cases h with ⟨e, hs⟩ | ⟨e, h⟩
    · subst e hs
      exact ⟨v, List.getElem?_set_self hi, r⟩
    · have q := S.sl j s h
      cases s with
      | un => trivial
      | d y => obtain ⟨u, e1, r1⟩ := q; exact ⟨u, by rw [List.getElem?_set_ne e]; exact e1, r1⟩
      | own o => obtain ⟨l, e1, q⟩ := q; exact ⟨l, by rw [List.getElem?_set_ne e]; exact e1, q⟩
  · rcases getElem?_set_cases h1 with ⟨e, hs⟩ | ⟨e1, h1⟩
    · cases hs
    · rcases getElem?_set_cases h2 with ⟨e, hs⟩ | ⟨e2, h2⟩
      · cases hs
      · rw [List.getElem?_set_ne e1] at h3
        rw [List.getElem?_set_ne e2] at h4
        exact S.ap j k o p l h1 h2 h3 h4
/-- a name is forgotten -/
theorem Sees.setU (S : Sees E Δ σ B H) {i : Nat} {o : Option V} : Sees E (Δ.set i .un) (σ.set i o) B H := by
  refine ⟨S.sub, S.rn, fun j s h => ?_, fun j k o p l h1 h2 h3 h4 => ?_⟩
  · rcases getElem?_set_cases h with ⟨e, hs⟩ | ⟨e, h⟩
    · subst e hs
      trivial
    · have q := S.sl j s h
      cases s with
      | un => trivial
      | d y => obtain ⟨u, e1, r1⟩ := q; exact ⟨u, by rw [List.getElem?_set_ne e]; exact e1, r1⟩
      | own o => obtain ⟨l, e1, q⟩ := q; exact ⟨l, by rw [List.getElem?_set_ne e]; exact e1, q⟩
  · rcases getElem?_set_cases h1 with ⟨e, hs⟩ | ⟨e1, h1⟩
    · cases hs
    · rcases getElem?_set_cases h2 with ⟨e, hs⟩ | ⟨e2, h2⟩
      · cases hs
      · rw [List.getElem?_set_ne e1] at h3
        rw [List.getElem?_set_ne e2] at h4
        exact S.ap j k o p l h1 h2 h3 h4
/-- a name is given a new thing of its own -/
theorem Sees.setO (S : Sees E Δ σ B H) {i : Nat} {l : Addr} {o : O} (hi : i < σ.length) (hB : B l = none) (hE : E.H l = none) (r : OHas E.K B H l o) (new : ∀ (j : Nat) (p : O), Δ[j]? = some (Slot.own p) → σ[j]? ≠ some (some (V.ref l))) :
    Sees E (Δ.set i (.own o)) (σ.set i (some (.ref l))) B H := by
  refine ⟨S.sub, S.rn, fun j s h => ?_, fun j k o' p l' h1 h2 h3 h4 => ?_⟩
  · rcases getElem?_set_cases h with ⟨e, hs⟩ | ⟨e, h⟩
    · subst e hs
      exact ⟨l, List.getElem?_set_self hi, hB, .inl hE, r⟩
    · have q := S.sl j s h
      cases s with
      | un => trivial
      | d y => obtain ⟨u, e1, r1⟩ := q; exact ⟨u, by rw [List.getElem?_set_ne e]; exact e1, r1⟩
      | own o => obtain ⟨l, e1, q⟩ := q; exact ⟨l, by rw [List.getElem?_set_ne e]; exact e1, q⟩
  · rcases getElem?_set_cases h1 with ⟨e, hs⟩ | ⟨e1, h1⟩
    · rcases getElem?_set_cases h2 with ⟨e', hs'⟩ | ⟨e2, h2⟩
      · exact e.symm.trans e'
      · subst e
        rw [List.getElem?_set_self hi] at h3
        cases h3
        rw [List.getElem?_set_ne e2] at h4
        exact absurd h4 (new k p h2)
    · rcases getElem?_set_cases h2 with ⟨e, hs⟩ | ⟨e2, h2⟩
      · subst e
        rw [List.getElem?_set_self hi] at h4
        cases h4
        rw [List.getElem?_set_ne e1] at h3
        exact absurd h3 (new j o' h1)
      · rw [List.getElem?_set_ne e1] at h3
        rw [List.getElem?_set_ne e2] at h4
        exact S.ap j k o' p l' h1 h2 h3 h4
/-- what is new is no one's -/
theorem Sees.noone (S : Sees E Δ σ B H) {l : Addr} (h : H l = none) : ∀ (j : Nat) (p : O), Δ[j]? = some (Slot.own p) → σ[j]? ≠ some (some (V.ref l)) := fun j p hj e => by
  obtain ⟨k, e1, _, _, r⟩ := S.own hj
  rw [e1] at e
  cases e
  exact r.there h
/-- what a name owns is changed -/
theorem Sees.put (S : Sees E Δ σ B H) {i : Nat} {l : Addr} {o p : O} {u : HO} (h : Δ[i]? = some (.own o)) (hl : σ[i]? = some (some (.ref l))) (r : OHas E.K B (upd H l u) l p) (hp : ∀ m c, o = .pool m c → ∃ m' c', p = .pool m' c') : Sees E (Δ.set i (.own p)) σ B (upd H l u) := by
  obtain ⟨l', e1, hB, hE, r0⟩ := S.own h
  rw [hl] at e1; cases e1
  refine ⟨S.sub.put hB, ⟨S.rn.eb, fun a x n q => ?_, fun a q => ?_, S.rn.fr⟩, fun j s hj => ?_, fun j k o' p' l' h1 h2 h3 h4 => ?_⟩
  · have na : a ≠ l := by
      rintro rfl
      rcases hE with z | ⟨_, z⟩
      · rw [z] at q; cases q
      · exact n z
    rw [upd_ne na]
    exact S.rn.eh a x n q
  · by_cases na : a = l
    · subst na; rw [upd_same]; simp
    · rw [upd_ne na]; exact S.rn.th a q
  · rcases getElem?_set_cases hj with ⟨e, hs⟩ | ⟨e, hj⟩
    · subst e hs
      exact ⟨l, hl, hB, hE.imp id fun z => ⟨z.1.elim fun m h => h.elim fun c e => hp m c e, z.2⟩, r⟩
    · have q := S.sl j s hj
      cases s with
      | un => trivial
      | d y => exact q
      | own o2 =>
        obtain ⟨l2, e2, n2, m2, r2⟩ := q
        refine ⟨l2, e2, n2, m2, r2.mono (Ex.refl B) (upd_ne ?_)⟩
        rintro rfl
        exact e (S.ap i j o o2 _ h hj hl e2)
  · have back : ∀ {j : Nat} {o' : O}, (Δ.set i (.own p))[j]? = some (.own o') → ∃ o2, Δ[j]? = some (.own o2) := fun {j o'} q => by
      rcases getElem?_set_cases q with ⟨e, hs⟩ | ⟨e, q⟩
      · subst e; exact ⟨o, h⟩
      · exact ⟨o', q⟩
    obtain ⟨o1, q1⟩ := back h1
    obtain ⟨o2, q2⟩ := back h2
    exact S.ap j k o1 o2 l' q1 q2 h3 h4
/-- a slot told less -/
theorem Sees.less (S : Sees E Δ σ B H) {i : Nat} : Sees E (Δ.set i .un) σ B H := by
  refine ⟨S.sub, S.rn, fun j s h => ?_, fun j k o p l h1 h2 h3 h4 => ?_⟩
  · rcases getElem?_set_cases h with ⟨e, hs⟩ | ⟨e, h⟩
    · subst e hs
      trivial
    · exact S.sl j s h
  · rcases getElem?_set_cases h1 with ⟨e, hs⟩ | ⟨e1, h1⟩
    · cases hs
    · rcases getElem?_set_cases h2 with ⟨e, hs⟩ | ⟨e2, h2⟩
      · cases hs
      · exact S.ap j k o p l h1 h2 h3 h4
def O.data : O → Option D
  | .lst ds => some (.lst ds)
  | .dK ds => some (.dic ds)
  | .dT ds => some (.dit ds)
  | .pool _ _ => none
theorem OHas.dn {K : PySem.W.Frag} {l : Addr} {o : O} {x : D} (h : OHas K B H l o) (e : o.data = some x) : ∃ u, H l = some u ∧ ∀ {B' : Hp}, Ex B B' → B' l = some u → Dn K B' (.ref l) x := by
  cases o with
  | lst ds => cases e; obtain ⟨vs, q, r⟩ := h; exact ⟨_, q, fun e z => .lst z (r.mono e)⟩
  | dK ds => cases e; obtain ⟨vs, q, r⟩ := h; exact ⟨_, q, fun e z => .dic (.inl z) (r.mono e)⟩
  | dT ds => cases e; obtain ⟨vs, q, r⟩ := h; exact ⟨_, q, fun e z => .dit z (r.mono e)⟩
  | pool m c => cases e
/-- what a name owns is known to all from now on -/
theorem Sees.freeze (S : Sees E Δ σ B H) {i : Nat} {o : O} {x : D} (h : Δ[i]? = some (.own o)) (e : o.data = some x) : ∃ B', Ex B B' ∧ Sees E (Δ.set i (.d x)) σ B' H ∧ ∃ v, σ[i]? = some (some v) ∧ Dn E.K B' v x := by
  obtain ⟨l, e1, hB, hE, r⟩ := S.own h
  obtain ⟨u, hu, fu⟩ := r.dn e
  have hE' : E.H l = none := by
    rcases hE with z | ⟨⟨m, c, z⟩, _⟩
    · exact z
    · subst z; cases e
  have ex : Ex B (upd B l u) := Ex.new hB
  have dn : Dn E.K (upd B l u) (.ref l) x := fu ex upd_same
  refine ⟨upd B l u, ex, ⟨upd_ex S.sub hu, ⟨S.rn.eb.trans ex, S.rn.eh, S.rn.th, fun a q n => ?_⟩, fun j s hj => ?_, fun j k o p l h1 h2 h3 h4 => ?_⟩, .ref l, e1, dn⟩
  · have na : a ≠ l := by rintro rfl; exact q hE'
    rw [upd_ne na]; exact S.rn.fr a q n
  · rcases getElem?_set_cases hj with ⟨e, hs⟩ | ⟨ne, hj⟩
    · subst e hs
      exact ⟨_, e1, dn⟩
    · have q := S.sl j s hj
      cases s with
      | un => trivial
      | d y => obtain ⟨v, e2, r2⟩ := q; exact ⟨v, e2, r2.mono ex⟩
      | own o2 =>
        obtain ⟨l2, e2, n2, m2, r2⟩ := q
        have nl : l2 ≠ l := by rintro rfl; exact ne (S.ap i j o o2 _ h hj e1 e2)
        exact ⟨l2, e2, by rw [upd_ne nl]; exact n2, m2, r2.mono ex rfl⟩
  · rcases getElem?_set_cases h1 with ⟨e, hs⟩ | ⟨e1, h1⟩
    · cases hs
    · rcases getElem?_set_cases h2 with ⟨e, hs⟩ | ⟨e2, h2⟩
      · cases hs
      · exact S.ap j k o p l h1 h2 h3 h4
/-- a new thing that no name owns is known from now on -/
theorem Sees.froze (S : Sees E Δ σ B H) {l : Addr} {u : HO} (hE : E.H l = none) (hB : B l = none) (hl : H l = some u) (new : ∀ (j : Nat) (p : O), Δ[j]? = some (Slot.own p) → σ[j]? ≠ some (some (V.ref l))) : Ex B (upd B l u) ∧ Sees E Δ σ (upd B l u) H := by
  have ex : Ex B (upd B l u) := Ex.new hB
  refine ⟨ex, upd_ex S.sub hl, ⟨S.rn.eb.trans ex, S.rn.eh, S.rn.th, fun a q n => ?_⟩, fun j s hj => ?_, S.ap⟩
  · have na : a ≠ l := by rintro rfl; exact q hE
    rw [upd_ne na]; exact S.rn.fr a q n
  · have q := S.sl j s hj
    cases s with
    | un => trivial
    | d y => obtain ⟨v, e2, r2⟩ := q; exact ⟨v, e2, r2.mono ex⟩
    | own o2 =>
      obtain ⟨l2, e2, n2, m2, r2⟩ := q
      have nl : l2 ≠ l := by rintro rfl; exact new j o2 hj e2
      exact ⟨l2, e2, by rw [upd_ne nl]; exact n2, m2, r2.mono ex rfl⟩
/-- the slots of a block's own names are forgotten -/
def wipeD (Δ : List Slot) : List Nat → List Slot
  | [] => Δ
  | v :: vs => (wipeD Δ vs).set v .un
theorem Sees.wipe (S : Sees E Δ σ B H) : ∀ vs : List Nat, Sees E (wipeD Δ vs) (L2.wipe σ vs) B H
  | [] => S
  | v :: vs => (S.wipe vs).setU
/-- progress that changes pools alone -/
structure Pp (Δ : List Slot) (σ : L2.St) (B H B' H' : Hp) : Prop where
  eb : Ex B B'
  eh : ∀ a o, (∀ (i : Nat) (m : Addr) (c : PoolSt), Δ[i]? = some (Slot.own (.pool m c)) → σ[i]? ≠ some (some (V.ref a))) → H a = some o → H' a = some o
  th : ∀ a, H a ≠ none → H' a ≠ none
  fr : ∀ a, H a ≠ none → B a = none → B' a = none
theorem Pp.of (p : Pg B H B' H') : Pp Δ σ B H B' H' := ⟨p.eb, fun a o _ h => p.eh a o h, p.rn.th, p.rn.fr⟩
theorem Pp.trans {B2 H2 : Hp} (a : Pp Δ σ B H B' H') (b : Pp Δ σ B' H' B2 H2) : Pp Δ σ B H B2 H2 :=
  ⟨a.eb.trans b.eb, fun x o n h => b.eh x o n (a.eh x o n h), fun x h => b.th x (a.th x h), fun x h n => b.fr x (a.th x h) (a.fr x h n)⟩
theorem Pp.put {l : Addr} {u : HO} (p : Pp Δ σ B H B' H') (h : H l = none) : Pp Δ σ B H B' (upd H' l u) :=
  ⟨p.eb, fun a o n q => by rw [upd_ne (ne_of_none q h)]; exact p.eh a o n q, fun a q => by
    by_cases na : a = l
    · subst na; exact absurd h q
    · rw [upd_ne na]; exact p.th a q, p.fr⟩
end
end Kn
/-! K2: the calculus: judgements over data, their rules. -/
namespace Kn
open PySem PySem.Spec PyProof.Rows L2

/-! ### syntax against heaps, by the meaning itself -/
def WE (X : Cx) (e : Expr) : TE := fun σ H Q => ∀ (pins : List (Addr × Obj)) (s : Shared), Inv X pins σ H s → wpAny (model X.prog X.w) X.A (eval e X.env) (EP X pins σ Q) X.xe s
def WT (X : Cx) (e : Expr) : TT := fun σ H Q => ∀ (pins : List (Addr × Obj)) (s : Shared), Inv X pins σ H s → wpAny (model X.prog X.w) X.A (isTrue e X.env (eval e X.env)) (TP X pins σ Q) X.xe s
def WA (X : Cx) (es : List Expr) : TA := fun σ H Q => ∀ (pos : Pos) (pins : List (Addr × Obj)) (s : Shared), Inv X pins σ H s → wpAny (model X.prog X.w) X.A (spliced (backTo pos (starEach es X.env))) (AP X pins σ Q) X.xe s
def WS (X : Cx) (st : Stmt) : TS := fun D σ H => ∀ (pins : List (Addr × Obj)) (s : Shared), Inv X pins σ H s → wpAny (model X.prog X.w) X.A (exec st X.env) (SP X pins D) X.xe s
def WSs (X : Cx) (st : List Stmt) : TS := fun D σ H => ∀ (pins : List (Addr × Obj)) (s : Shared), Inv X pins σ H s → wpAny (model X.prog X.w) X.A (execs st X.env) (SP X pins D) X.xe s
def WG (X : Cx) (tg : Expr) : TG := fun v σ H Q => ∀ (pins : List (Addr × Obj)) (s : Shared) (u : Value), Inv X pins σ H s → RelV v u → wpAny (model X.prog X.w) X.A (assign tg X.env u) (fun _ s' => ∃ σ' H', Inv X pins σ' H' s' ∧ Q σ' H') X.xe s
def WI (X : Cx) (tg iter : Expr) : TI := fun σ H R => ∀ (pins : List (Addr × Obj)) (s : Shared), Inv X pins σ H s → wpAny (model X.prog X.w) X.A (eval iter X.env) (fun v s1 => wpAny (model X.prog X.w) X.A (pyIter v) (PIE X pins σ tg R) X.xe s1) X.xe s
section
variable {X : Cx}
theorem pe_W (e : Expr) : PE X e (WE X e) := ⟨fun pins s σ H Q I h => h pins s I⟩
theorem pt_W (e : Expr) : PT X e (WT X e) := ⟨fun pins s σ H Q I h => h pins s I⟩
theorem pa_W (es : List Expr) : PA X es (WA X es) := ⟨fun pos pins s σ H Q I h => h pos pins s I⟩
theorem ps_W (st : Stmt) : PS X st (WS X st) := ⟨fun pins s σ H D I h => h pins s I⟩
theorem pss_W (st : List Stmt) : PSs X st (WSs X st) := ⟨fun pins s σ H D I h => h pins s I⟩
theorem pg_W (tg : Expr) : PG X tg (WG X tg) := ⟨fun pins s σ H v u Q I r h => h pins s u I r⟩
theorem pi_W (tg iter : Expr) : PI X tg iter (WI X tg iter) := ⟨fun pins s σ H R I h => h pins s I⟩
theorem WE.of {e : Expr} {t : TE} {σ : L2.St} {H : Hp} {Q : VK} (h : PE X e t) (q : t σ H Q) : WE X e σ H Q := fun pins s I => h.run pins s σ H Q I q
theorem WT.of {e : Expr} {t : TT} {σ : L2.St} {H : Hp} {Q : Bool → Hp → Prop} (h : PT X e t) (q : t σ H Q) : WT X e σ H Q := fun pins s I => h.run pins s σ H Q I q
theorem WA.of {es : List Expr} {t : TA} {σ : L2.St} {H : Hp} {Q : List V → Hp → Prop} (h : PA X es t) (q : t σ H Q) : WA X es σ H Q := fun pos pins s I => h.run pos pins s σ H Q I q
theorem WS.of {st : Stmt} {t : TS} {D : Ends} {σ : L2.St} {H : Hp} (h : PS X st t) (q : t D σ H) : WS X st D σ H := fun pins s I => h.run pins s σ H D I q
theorem WSs.of {st : List Stmt} {t : TS} {D : Ends} {σ : L2.St} {H : Hp} (h : PSs X st t) (q : t D σ H) : WSs X st D σ H := fun pins s I => h.run pins s σ H D I q
theorem WG.of {tg : Expr} {t : TG} {v : V} {σ : L2.St} {H : Hp} {Q : L2.St → Hp → Prop} (h : PG X tg t) (q : t v σ H Q) : WG X tg v σ H Q := fun pins s u I r => h.run pins s σ H v u Q I r q
theorem WI.of {tg iter : Expr} {t : TI} {σ : L2.St} {H : Hp} {R : It → Hp → Prop} (h : PI X tg iter t) (q : t σ H R) : WI X tg iter σ H R := fun pins s I => h.run pins s σ H R I q
theorem WE.mono {e : Expr} {σ : L2.St} {H : Hp} {Q Q' : VK} (h : WE X e σ H Q) (k : ∀ v H', Q v H' → Q' v H') : WE X e σ H Q' := fun pins s I => thn (h pins s I) fun v s' ⟨x, H', I', r, q⟩ => ⟨x, H', I', r, k x H' q⟩
end

/-! ### what is known of a context -/
structure Cz (E : En) (N : List Str) (vb wb : List Bool) (G : List Str) (sc : Scope) (k : Nat) (X : Cx) : Prop where
  hsc : X.env.scope = sc
  hP : X.prog = E.P
  hw : X.w = E.w
  hK : X.K = E.K
  hm : X.mg = E.mg
  hb : X.base = E.base
  hN : X.N = N
  nd : N.Nodup
  calm : X.calm = true
  pass : PassesOwn (model X.prog X.w) X.A X.env X.xe
  room : Room k X.A
  vis : ∀ (i : Nat) (x : Str), vb[i]? = some true → N[i]? = some x → Vis X.env.scope x ∧ (x == ("__debug__" : Str)) = false ∧ (x == ("__classdict__" : Str)) = false
  loc : ∀ (i : Nat) (x : Str), wb[i]? = some true → N[i]? = some x → Loc X.env.scope x ∧ (X.fn x = true ∨ X.env.scope.names.lookup x = some .local)
  gl : ∀ (i : Nat) (x : Str), G[i]? = some x → Gl X x ∧ (x == ("__debug__" : Str)) = false

/-! ### judgements -/
def Dr (K : PySem.W.Frag) (B H : Hp) (v : V) : D → Prop
  | .lst ds => ∃ (a : Addr) (vs : List V), v = .ref a ∧ H a = some (.lst vs) ∧ DnL K B vs ds
  | .dic ds => ∃ (a : Addr) (vs : List (Key × V)), v = .ref a ∧ Rd H a (.dK vs) ∧ DnK K B vs ds
  | .dit ds => ∃ (a : Addr) (vs : List (List Key × V)), v = .ref a ∧ H a = some (.dT vs) ∧ DnH K B vs ds
  | d => Dn K B v d
theorem Dn.r {K : PySem.W.Frag} {B H : Hp} {v : V} {d : D} (h : Dn K B v d) (e : Ex B H) : Dr K B H v d := by
  cases h with
  | lst h r => exact ⟨_, _, rfl, e _ _ h, r⟩
  | dic h r => exact ⟨_, _, rfl, e.rd h, r⟩
  | dit h r => exact ⟨_, _, rfl, e _ _ h, r⟩
  | non => exact .non
  | bl b => exact .bl b
  | int i => exact .int i
  | str x => exact .str x
  | tup h r => exact .tup h r
  | ins h r => exact .ins h r
theorem Dr.step {K : PySem.W.Frag} {B H B' H' : Hp} {v : V} {d : D} (h : Dr K B H v d) (p : Pg B H B' H') : Dr K B' H' v d := by
  cases d with
  | lst ds => obtain ⟨a, vs, e, q, r⟩ := h; exact ⟨a, vs, e, p.eh _ _ q, r.mono p.eb⟩
  | dic ds => obtain ⟨a, vs, e, q, r⟩ := h; exact ⟨a, vs, e, p.eh.rd q, r.mono p.eb⟩
  | dit ds => obtain ⟨a, vs, e, q, r⟩ := h; exact ⟨a, vs, e, p.eh _ _ q, r.mono p.eb⟩
  | non => exact Dn.mono p.eb h
  | bl b => exact Dn.mono p.eb h
  | int i => exact Dn.mono p.eb h
  | str x => exact Dn.mono p.eb h
  | tup xs => exact Dn.mono p.eb h
  | ins C fs => exact Dn.mono p.eb h
/-- e gives d and changes nothing that was -/
def Ev (X : Cx) (E : En) (e : Expr) (Δ : List Slot) (d : D) : Prop := ∀ σ B H, Sees E Δ σ B H → ∀ Q : VK, (∀ v B' H', Pg B H B' H' → Dn E.K B' v d → Q v H') → WE X e σ H Q
/-- .. to be read at once -/
def EvR (X : Cx) (E : En) (e : Expr) (Δ : List Slot) (d : D) : Prop := ∀ σ B H, Sees E Δ σ B H → ∀ Q : VK, (∀ v B' H', Pg B H B' H' → Dr E.K B' H' v d → Q v H') → WE X e σ H Q
/-- a new thing, not yet known -/
def EvF (X : Cx) (E : En) (e : Expr) (Δ : List Slot) (o : O) : Prop := ∀ σ B H, Sees E Δ σ B H → ∀ Q : VK, (∀ l B' H', Pg B H B' H' → H l = none → B' l = none → OHas E.K B' H' l o → Q (.ref l) H') → WE X e σ H Q
def EvT (X : Cx) (E : En) (e : Expr) (Δ : List Slot) (b : Bool) : Prop := ∀ σ B H, Sees E Δ σ B H → ∀ Q : Bool → Hp → Prop, (∀ B' H', Pg B H B' H' → Q b H') → WT X e σ H Q
def EvA (X : Cx) (E : En) (es : List Expr) (Δ : List Slot) (ds : List D) : Prop := ∀ σ B H, Sees E Δ σ B H → ∀ Q : List V → Hp → Prop, (∀ vs B' H', Pg B H B' H' → DnL E.K B' vs ds → Q vs H') → WA X es σ H Q
/-- e gives some d of which P holds; what names own stays as it is told -/
def Do (X : Cx) (E : En) (e : Expr) (Δ : List Slot) (P : D → Prop) : Prop := ∀ σ B H, Sees E Δ σ B H → ∀ Q : VK, (∀ v B' H' d, Pp Δ σ B H B' H' → Sees E Δ σ B' H' → Dn E.K B' v d → P d → Q v H') → WE X e σ H Q

section
variable {X : Cx} {E : En} {e : Expr} {Δ : List Slot} {d : D} {o : O}
theorem Ev.r (h : Ev X E e Δ d) : EvR X E e Δ d := fun σ B H S Q q => h σ B H S Q fun v B' H' p r => q v B' H' p (r.r p.sub)
theorem EvF.froz {B H B' H' : Hp} {l : Addr} {x : D} (p : Pg B H B' H') (hl : H l = none) (hB : B' l = none) (h : OHas E.K B' H' l o) (e : o.data = some x) : ∃ B2, Pg B H B2 H' ∧ Dn E.K B2 (.ref l) x := by
  obtain ⟨u, hu, f⟩ := h.dn e
  have ex : Ex B' (upd B' l u) := Ex.new hB
  refine ⟨upd B' l u, ⟨⟨p.eb.trans ex, p.rn.eh, p.rn.th, fun a q n => ?_⟩, upd_ex p.sub hu⟩, f ex upd_same⟩
  have na : a ≠ l := by rintro rfl; exact q hl
  rw [upd_ne na]
  exact p.rn.fr a q n
theorem EvF.kn {x : D} (h : EvF X E e Δ o) (hx : o.data = some x) : Ev X E e Δ x := fun σ B H S Q q => h σ B H S Q fun l B' H' p hl hB ho => by
  obtain ⟨B2, p2, r⟩ := EvF.froz p hl hB ho hx
  exact q _ B2 H' p2 r
theorem EvF.ld {ds : List D} (h : EvF X E e Δ (.lst ds)) : Ev X E e Δ (.lst ds) := h.kn rfl
theorem EvF.lr {ds : List D} (h : EvF X E e Δ (.lst ds)) : EvR X E e Δ (.lst ds) := h.ld.r
theorem Do.of {P : D → Prop} (h : Ev X E e Δ d) (hP : P d) : Do X E e Δ P := fun σ B H S Q q => h σ B H S Q fun v B' H' p r => q v B' H' d (.of p) (S.step p) r hP
theorem Do.mono {P P' : D → Prop} (h : Do X E e Δ P) (k : ∀ d, P d → P' d) : Do X E e Δ P' := fun σ B H S Q q => h σ B H S Q fun v B' H' d x s r p => q v B' H' d x s r (k d p)
theorem Ev.is {d' : D} (h : Ev X E e Δ d) (k : d = d') : Ev X E e Δ d' := k ▸ h
theorem EvT.is {b b' : Bool} (h : EvT X E e Δ b) (k : b = b') : EvT X E e Δ b' := k ▸ h
end

/-! ### names, constants -/
section
variable {X : Cx} {E : En} {N G : List Str} {vb wb : List Bool} {sc : Scope} {k : Nat} {Δ : List Slot} {d d1 d2 d3 : D} {a b c : Expr} {pos : Pos} {j : Nat}
theorem ev_nm (C : Cz E N vb wb G sc k X) (i : Nat) {x : Str} (hd : Δ[i]? = some (.d d)) (hv : vb[i]? = some true := by rfl) (hN : N[i]? = some x := by rfl) : Ev X E (.Name x pos) Δ d := fun σ B H S Q q => by
  obtain ⟨v, e, r⟩ := S.get hd
  obtain ⟨h1, h2, h3⟩ := C.vis i x hv hN
  exact WE.of (pe_var (i := i) (by rw [C.hN]; exact hN) h1 h2 h3) ⟨v, e, q v B H (Pg.refl S.sub) r⟩
theorem er_own (C : Cz E N vb wb G sc k X) (i : Nat) {x : Str} {o : O} (hd : Δ[i]? = some (.own o)) (ho : o.data = some d) (hv : vb[i]? = some true := by rfl) (hN : N[i]? = some x := by rfl) : EvR X E (.Name x pos) Δ d := fun σ B H S Q q => by
  obtain ⟨l, e, _, _, r⟩ := S.own hd
  obtain ⟨h1, h2, h3⟩ := C.vis i x hv hN
  refine WE.of (pe_var (i := i) (by rw [C.hN]; exact hN) h1 h2 h3) ⟨.ref l, e, q _ B H (Pg.refl S.sub) ?_⟩
  cases o with
  | lst ds => cases ho; obtain ⟨vs, z, r⟩ := r; exact ⟨l, vs, rfl, z, r⟩
  | dK ds => cases ho; obtain ⟨vs, z, r⟩ := r; exact ⟨l, vs, rfl, .inl z, r⟩
  | dT ds => cases ho; obtain ⟨vs, z, r⟩ := r; exact ⟨l, vs, rfl, z, r⟩
  | pool m c => cases ho
theorem ev_int {i : Int} : Ev X E (.Constant (.int i) j pos) Δ (.int i) := fun σ B H S Q q => WE.of pe_int (q _ B H (Pg.refl S.sub) (.int i))
theorem ev_bl {x : Bool} : Ev X E (.Constant (.bool x) j pos) Δ (.bl x) := fun σ B H S Q q => WE.of pe_bl (q _ B H (Pg.refl S.sub) (.bl x))
theorem ev_non : Ev X E (.Constant .none j pos) Δ .non := fun σ B H S Q q => WE.of pe_non (q _ B H (Pg.refl S.sub) .non)
theorem ev_str {x : Str} : Ev X E (.Constant (.str x) j pos) Δ (.str x) := fun σ B H S Q q => WE.of pe_str (q _ B H (Pg.refl S.sub) (.str x))
/-- a module's constant -/
theorem ev_gint (C : Cz E N vb wb G sc k X) (i : Nat) {x : Str} {n : Int} {t : Tok} (hm : E.mg x = some (.int n t)) (hG : G[i]? = some x := by rfl) : Ev X E (.Name x pos) Δ (.int n) := fun σ B H S Q q => by
  obtain ⟨h1, h2⟩ := C.gl i x hG
  exact WE.of (pe_glob (v := .int n) h1 (by rw [C.hm]; exact hm) ⟨t, rfl⟩ h2) (q _ B H (Pg.refl S.sub) (.int n))
theorem ev_gstr (C : Cz E N vb wb G sc k X) (i : Nat) {x z : Str} {t : Tok} (hm : E.mg x = some (.str z t)) (hG : G[i]? = some x := by rfl) : Ev X E (.Name x pos) Δ (.str z) := fun σ B H S Q q => by
  obtain ⟨h1, h2⟩ := C.gl i x hG
  exact WE.of (pe_glob (v := .str z) h1 (by rw [C.hm]; exact hm) ⟨t, rfl⟩ h2) (q _ B H (Pg.refl S.sub) (.str z))

/-! ### operators -/
/-- an operation on values that gives d -/
def RD (K : PySem.W.Frag) (r : R2) (d1 d2 d : D) : Prop := ∀ B H x y, Ex B H → Dr K B H x d1 → Dr K B H y d2 → ∀ Q : VK, (∀ v B' H', Pg B H B' H' → Dn K B' v d → Q v H') → r x y H Q
def RF (K : PySem.W.Frag) (r : R2) (d1 d2 : D) (o : O) : Prop := ∀ B H x y, Ex B H → Dr K B H x d1 → Dr K B H y d2 → ∀ Q : VK, (∀ l B' H', Pg B H B' H' → H l = none → B' l = none → OHas K B' H' l o → Q (.ref l) H') → r x y H Q
theorem ev_two {e : Expr} {r : R2} (hp : ∀ ta tb, PE X a ta → PE X b tb → PE X e (tOp r ta tb)) (ha : EvR X E a Δ d1) (hb : EvR X E b Δ d2) (hr : RD E.K r d1 d2 d) : Ev X E e Δ d := fun σ B H S Q q =>
  WE.of (hp _ _ (pe_W a) (pe_W b)) (ha σ B H S _ fun x B1 H1 p1 r1 => hb σ B1 H1 (S.step p1) _ fun y B2 H2 p2 r2 => hr B2 H2 x y p2.sub (r1.step p2) r2 Q fun v B3 H3 p3 r3 => q v B3 H3 ((p1.trans p2).trans p3) r3)
theorem ef_two {e : Expr} {r : R2} {o : O} (hp : ∀ ta tb, PE X a ta → PE X b tb → PE X e (tOp r ta tb)) (ha : EvR X E a Δ d1) (hb : EvR X E b Δ d2) (hr : RF E.K r d1 d2 o) : EvF X E e Δ o := fun σ B H S Q q =>
  WE.of (hp _ _ (pe_W a) (pe_W b)) (ha σ B H S _ fun x B1 H1 p1 r1 => hb σ B1 H1 (S.step p1) _ fun y B2 H2 p2 r2 => hr B2 H2 x y p2.sub (r1.step p2) r2 Q fun l B3 H3 p3 hl hB r3 => q l B3 H3 ((p1.trans p2).trans p3) ((p1.trans p2).eh.free hl) hB r3)
theorem Dr.int_inv {K : PySem.W.Frag} {B H : Hp} {v : V} {i : Int} (h : Dr K B H v (.int i)) : v = .int i := by
  have h : Dn K B v (.int i) := h
  cases h; rfl
theorem Dr.str_inv {K : PySem.W.Frag} {B H : Hp} {v : V} {i : Str} (h : Dr K B H v (.str i)) : v = .str i := by
  have h : Dn K B v (.str i) := h
  cases h; rfl
theorem Dr.bl_inv {K : PySem.W.Frag} {B H : Hp} {v : V} {i : Bool} (h : Dr K B H v (.bl i)) : v = .bl i := by
  have h : Dn K B v (.bl i) := h
  cases h; rfl
theorem Dr.tup_inv {K : PySem.W.Frag} {B H : Hp} {v : V} {ds : List D} (h : Dr K B H v (.tup ds)) : ∃ a vs, v = .ref a ∧ B a = some (.tup vs) ∧ DnL K B vs ds := by
  have h0 : Dn K B v (.tup ds) := h
  cases h0 with
  | tup h1 r => exact ⟨_, _, rfl, h1, r⟩
theorem rd_I {K : PySem.W.Frag} {C : Int → Int → Prop} {g : Int → Int → Int} {i j : Int} (hc : C i j) : RD K (rI C fun i j => .int (g i j)) (.int i) (.int j) (.int (g i j)) := fun B H x y e h1 h2 Q q => ⟨i, j, h1.int_inv, h2.int_inv, hc, q _ B H (Pg.refl e) (.int _)⟩
theorem rd_I0 {K : PySem.W.Frag} {g : Int → Int → Int} {i j : Int} : RD K (rI0 fun i j => .int (g i j)) (.int i) (.int j) (.int (g i j)) := fun B H x y e h1 h2 Q q => ⟨i, j, h1.int_inv, h2.int_inv, q _ B H (Pg.refl e) (.int _)⟩
theorem ev_add {i j : Int} (ha : Ev X E a Δ (.int i)) (hb : Ev X E b Δ (.int j)) : Ev X E (.BinOp a .Add b pos) Δ (.int (i + j)) := ev_two (fun _ _ => pe_op op_add) ha.r hb.r rd_I0
theorem ev_sub {i j : Int} (ha : Ev X E a Δ (.int i)) (hb : Ev X E b Δ (.int j)) : Ev X E (.BinOp a .Sub b pos) Δ (.int (i - j)) := ev_two (fun _ _ => pe_op op_sub) ha.r hb.r rd_I0
theorem ev_mul {i j : Int} (ha : Ev X E a Δ (.int i)) (hb : Ev X E b Δ (.int j)) (hc : CMul i j) : Ev X E (.BinOp a .Mult b pos) Δ (.int (i * j)) := ev_two (fun _ _ => pe_op op_mul) ha.r hb.r (rd_I hc)
theorem ev_mod {i j : Int} (ha : Ev X E a Δ (.int i)) (hb : Ev X E b Δ (.int j)) (hc : 0 < j) : Ev X E (.BinOp a .Mod b pos) Δ (.int (i % j)) := ev_two (fun _ _ => pe_op op_mod) ha.r hb.r (rd_I hc)
theorem ev_fdiv {i j : Int} (ha : Ev X E a Δ (.int i)) (hb : Ev X E b Δ (.int j)) (hc : CDiv i j) : Ev X E (.BinOp a .FloorDiv b pos) Δ (.int (i / j)) := ev_two (fun _ _ => pe_op op_fdiv) ha.r hb.r (rd_I hc)
theorem ev_pow {i j : Int} (ha : Ev X E a Δ (.int i)) (hb : Ev X E b Δ (.int j)) (hc : CPow i j) : Ev X E (.BinOp a .Pow b pos) Δ (.int (i ^ j.toNat)) := ev_two (fun _ _ => pe_op op_pow) ha.r hb.r (rd_I hc)
theorem sz_of {n : Nat} (h : n ≤ 1000000) : n ≤ sizeLine := Nat.le_trans h (by decide)
theorem ev_cats {x y : Str} (ha : Ev X E a Δ (.str x)) (hb : Ev X E b Δ (.str y)) (hl : x.length + y.length ≤ 1000000) : Ev X E (.BinOp a .Add b pos) Δ (.str (x ++ y)) :=
  ev_two (fun _ _ => pe_op op_add_str) ha.r hb.r fun B H v u e h1 h2 Q q => ⟨x, y, h1.str_inv, h2.str_inv, sz_of hl, q _ B H (Pg.refl e) (.str _)⟩
/-- xs + ys, a new list -/
theorem ef_cat {xs ys : List D} (ha : EvR X E a Δ (.lst xs)) (hb : EvR X E b Δ (.lst ys)) (hl : xs.length + ys.length ≤ 1000000) : EvF X E (.BinOp a .Add b pos) Δ (.lst (xs ++ ys)) :=
  ef_two (fun _ _ => pe_op op_cat) ha hb fun B H v u e h1 h2 Q q => by
    obtain ⟨p1, vs, e1, q1, r1⟩ := h1
    obtain ⟨p2, us, e2, q2, r2⟩ := h2
    exact ⟨p1, p2, vs, us, e1, e2, q1, q2, by rw [r1.length, r2.length]; exact sz_of hl, fun p np => q p B _ (Pg.apart e np) np (e.free np) ⟨_, upd_same, (r1.append r2)⟩⟩
end
end Kn
/-! K3: comparisons, tests, calls, items, displays. -/
namespace Kn
open PySem PySem.Spec PyProof.Rows L2
section
variable {X : Cx} {E : En} {N G : List Str} {vb wb : List Bool} {sc : Scope} {k : Nat} {Δ : List Slot} {d d1 d2 d3 : D} {a b c : Expr} {pos : Pos} {j : Nat} {es : List Expr} {ds : List D}

/-! ### comparisons -/
def Co (X : Cx) (E : En) (op : CmpOp) (d1 d2 : D) (x : Bool) : Prop := ∃ r : R2, OpR X (compareOp op) r ∧ RD E.K r d1 d2 (.bl x)
theorem ev_cmp {op : CmpOp} {x : Bool} (h : Co X E op d1 d2 x) (ha : EvR X E a Δ d1) (hb : EvR X E b Δ d2) (hm : behindInMarks op b = false := by first | exact nomark _ | rfl) : Ev X E (.Compare a [op] [b] pos) Δ (.bl x) := by
  obtain ⟨r, ho, hr⟩ := h
  exact ev_two (fun _ _ h1 h2 => pe_cmpR ho h1 h2 hm) ha hb hr
theorem et_cmp {op : CmpOp} {x : Bool} (h : Co X E op d1 d2 x) (ha : EvR X E a Δ d1) (hb : EvR X E b Δ d2) (hm : behindInMarks op b = false := by first | exact nomark _ | rfl) : EvT X E (.Compare a [op] [b] pos) Δ x := by
  obtain ⟨r, ho, hr⟩ := h
  exact fun σ B H S Q q => WT.of (pt_cmpR ho (pe_W a) (pe_W b) hm) (ha σ B H S _ fun x B1 H1 p1 r1 => hb σ B1 H1 (S.step p1) _ fun y B2 H2 p2 r2 => hr B2 H2 x y p2.sub (r1.step p2) r2 _ fun v B3 H3 p3 r3 => by
    cases r3
    exact ⟨_, rfl, q B3 H3 ((p1.trans p2).trans p3)⟩)
theorem co_bl {op : CmpOp} {r : R2} {x : Bool} (ho : OpR X (compareOp op) r) (h : ∀ B H v u, Ex B H → Dr E.K B H v d1 → Dr E.K B H u d2 → ∀ Q : VK, Q (.bl x) H → r v u H Q) : Co X E op d1 d2 x :=
  ⟨r, ho, fun B H v u e h1 h2 Q q => h B H v u e h1 h2 Q (q _ B H (Pg.refl e) (.bl x))⟩
theorem co_eqI {i l : Int} : Co X E .Eq (.int i) (.int l) (decide (i = l)) := co_bl op_eq fun B H v u e h1 h2 Q q => by
  rw [h1.int_inv, h2.int_inv]
  exact ⟨rfl, by rw [show decide (V.int i = V.int l) = decide (i = l) from by rw [dec_int]; exact Bool.beq_eq_decide_eq ..]; exact q⟩
theorem co_neI {i l : Int} : Co X E .NotEq (.int i) (.int l) (!decide (i = l)) := co_bl op_ne fun B H v u e h1 h2 Q q => by
  rw [h1.int_inv, h2.int_inv]
  exact ⟨rfl, by rw [show decide (V.int i = V.int l) = decide (i = l) from by rw [dec_int]; exact Bool.beq_eq_decide_eq ..]; exact q⟩
theorem dec_strV {x y : Str} : decide (V.str x = V.str y) = decide (x = y) := by
  by_cases h : x = y
  · subst h; simp
  · have h' : ¬ V.str x = V.str y := fun e => h (V.str.inj e)
    rw [decide_eq_false h, decide_eq_false h']
theorem co_eqS {x y : Str} : Co X E .Eq (.str x) (.str y) (decide (x = y)) := co_bl op_eq fun B H v u e h1 h2 Q q => by
  rw [h1.str_inv, h2.str_inv]
  exact ⟨rfl, by rw [dec_strV]; exact q⟩
theorem co_neS {x y : Str} : Co X E .NotEq (.str x) (.str y) (!decide (x = y)) := co_bl op_ne fun B H v u e h1 h2 Q q => by
  rw [h1.str_inv, h2.str_inv]
  exact ⟨rfl, by rw [dec_strV]; exact q⟩
theorem co_lt {i l : Int} : Co X E .Lt (.int i) (.int l) (decide (i < l)) := co_bl op_lt fun B H v u e h1 h2 Q q => ⟨i, l, h1.int_inv, h2.int_inv, q⟩
theorem co_le {i l : Int} : Co X E .LtE (.int i) (.int l) (decide (i ≤ l)) := co_bl op_le fun B H v u e h1 h2 Q q => ⟨i, l, h1.int_inv, h2.int_inv, q⟩
theorem co_gt {i l : Int} : Co X E .Gt (.int i) (.int l) (decide (l < i)) := co_bl op_gt fun B H v u e h1 h2 Q q => ⟨i, l, h1.int_inv, h2.int_inv, q⟩
theorem co_ge {i l : Int} : Co X E .GtE (.int i) (.int l) (decide (l ≤ i)) := co_bl op_ge fun B H v u e h1 h2 Q q => ⟨i, l, h1.int_inv, h2.int_inv, q⟩
theorem co_leS {x y : Str} : Co X E .LtE (.str x) (.str y) (!decide (y.cps.toList < x.cps.toList)) := co_bl op_le_str fun B H v u e h1 h2 Q q => ⟨x, y, h1.str_inv, h2.str_inv, q⟩
theorem co_inS {c : Nat} {z : Str} : Co X E .In (.str ⟨#[c]⟩) (.str z) (decide (c ∈ z.cps.toList)) := co_bl op_in_sign fun B H v u e h1 h2 Q q => ⟨c, z, h1.str_inv, h2.str_inv, q⟩
theorem co_notinS {c : Nat} {z : Str} : Co X E .NotIn (.str ⟨#[c]⟩) (.str z) (!decide (c ∈ z.cps.toList)) := co_bl op_notIn_sign fun B H v u e h1 h2 Q q => ⟨c, z, h1.str_inv, h2.str_inv, q⟩
/-- strs in a list or tuple -/
def seqD (d : D) (xs : List Str) : Prop := d = .lst (xs.map D.str) ∨ d = .tup (xs.map D.str)
theorem inV_strs (x : Str) : ∀ xs : List Str, inV (.str x) (xs.map V.str) = decide (x ∈ xs)
  | [] => rfl
  | y :: r => by
    have ih := inV_strs x r
    unfold inV at ih ⊢
    rw [List.map_cons, List.any_cons, ih]
    show (eqV (V.str y) (V.str x) || _) = _
    by_cases h : x = y
    · subst h; simp [eqV]
    · have h' : ¬ y = x := fun e => h e.symm
      have e : eqV (V.str y) (V.str x) = false := by
        simp [eqV]
        first | exact h' | exact fun e => h' e | simp [h'] | skip
      rw [e]
      simp [h]
theorem flat_strs : ∀ xs : List Str, (xs.map V.str).all flatV = true
  | [] => rfl
  | _ :: r => by rw [List.map_cons, List.all_cons, flat_strs r]; rfl
theorem seq_in {K : PySem.W.Frag} {B H : Hp} {u : V} {d : D} {xs : List Str} (e : Ex B H) (h : Dr K B H u d) (hd : seqD d xs) : ∃ p, u = .ref p ∧ (SqL K H p (xs.map V.str) ∨ SqT K H p (xs.map V.str)) := by
  rcases hd with rfl | rfl
  · obtain ⟨p, vs, h1, h2, h3⟩ := h
    rw [h3.of_strs] at h2
    exact ⟨p, h1, .inl (SqL.of h2)⟩
  · obtain ⟨p, vs, h1, h2, h3⟩ := h.tup_inv
    rw [h3.of_strs] at h2
    exact ⟨p, h1, .inr (SqT.of (e _ _ h2))⟩
theorem co_in (C : Cz E N vb wb G sc k X) {x : Str} {xs : List Str} (h : seqD d2 xs) : Co X E .In (.str x) d2 (decide (x ∈ xs)) := co_bl op_in_seq fun B H v u e h1 h2 Q q => by
  obtain ⟨p, hp, hs⟩ := seq_in e h2 h
  rw [h1.str_inv]
  exact ⟨p, _, hp, by rw [C.hK]; exact hs, rfl, flat_strs xs, by rw [inV_strs]; exact q⟩
theorem co_notin (C : Cz E N vb wb G sc k X) {x : Str} {xs : List Str} (h : seqD d2 xs) : Co X E .NotIn (.str x) d2 (!decide (x ∈ xs)) := co_bl op_notIn_seq fun B H v u e h1 h2 Q q => by
  obtain ⟨p, hp, hs⟩ := seq_in e h2 h
  rw [h1.str_inv]
  exact ⟨p, _, hp, by rw [C.hK]; exact hs, rfl, flat_strs xs, by rw [inV_strs]; exact q⟩
/-- a key of a dict of data -/
inductive KeyD (K : PySem.W.Frag) : D → Key → Prop
  | int (i : Int) : KeyD K (.int i) (.inl i)
  | str (x : Str) : KeyD K (.str x) (.inr x)
def luD (d : D) (kd : D) (r : Option D) : Prop := (∃ ds k, d = .dic ds ∧ (kd = .int k ∧ r = luK ds (.inl k))) ∨ (∃ ds k, d = .dic ds ∧ (kd = .str k ∧ r = luK ds (.inr k))) ∨
  ∃ (ds : List (List Key × D)) (ks : List Key) (es : List D), d = .dit ds ∧ kd = .tup es ∧ es = ks.map (fun k => match k with | .inl i => D.int i | .inr x => D.str x) ∧ r = luK ds ks
theorem kV_dn {K : PySem.W.Frag} {B : Hp} : ∀ {vs : List V} {ks : List Key}, DnL K B vs (ks.map (fun k => match k with | .inl i => D.int i | .inr x => D.str x)) → vs = ks.map kV
  | _, [], .nil => rfl
  | _, .inl i :: r, .cons h t => by cases h; rw [kV_dn t]; rfl
  | _, .inr x :: r, .cons h t => by cases h; rw [kV_dn t]; rfl
theorem DnO.outs {K : PySem.W.Frag} {B : Hp} {o : Option V} {d : Option D} (h : DnO K B o d) : (∃ v x, o = some v ∧ d = some x ∧ Dn K B v x) ∨ (o = none ∧ d = none) := by
  cases o <;> cases d <;> first | exact .inr ⟨rfl, rfl⟩ | exact .inl ⟨_, _, rfl, rfl, h⟩ | exact h.elim
theorem luD_get {K : PySem.W.Frag} {B H : Hp} {u y : V} {d kd : D} {r : Option D} (e : Ex B H) (hl : luD d kd r) (hd : Dr K B H u d) (hk : Dr K B H y kd) : ∃ a o, u = .ref a ∧ DGet H a y o ∧ DnO K B o r := by
  rcases hl with ⟨ds, n, rfl, rfl, rfl⟩ | ⟨ds, n, rfl, rfl, rfl⟩ | ⟨ds, ks, es, rfl, rfl, rfl, rfl⟩
  · obtain ⟨a, vs, h1, h2, h3⟩ := hd
    rw [hk.int_inv]
    exact ⟨a, _, h1, (.inl ⟨_, .inl n, h2, rfl, rfl⟩), h3.lu _⟩
  · obtain ⟨a, vs, h1, h2, h3⟩ := hd
    rw [hk.str_inv]
    exact ⟨a, _, h1, (.inl ⟨_, .inr n, h2, rfl, rfl⟩), h3.lu _⟩
  · obtain ⟨a, vs, h1, h2, h3⟩ := hd
    obtain ⟨b, us, e1, e2, e3⟩ := hk.tup_inv
    rw [kV_dn e3] at e2
    rw [e1]
    exact ⟨a, _, h1, DGet.t h2 (e _ _ e2), h3.lu _⟩
theorem or_din (hu : X.A.units + 1 < cLine) : OpR X (compareOp .In) (fun x y H Q => ∃ a o, y = .ref a ∧ DGet H a x o ∧ Q (.bl o.isSome) H) := by
  intro pins s σ H x y v u Q I r1 r2 h
  obtain ⟨a, o, rfl, g, q⟩ := h
  cases r2
  exact d_in hu I g r1 fun s' I' => ⟨.bl _, H, I', rfl, q⟩
theorem or_dnotin (hu : X.A.units + 1 < cLine) : OpR X (compareOp .NotIn) (fun x y H Q => ∃ a o, y = .ref a ∧ DGet H a x o ∧ Q (.bl (!o.isSome)) H) := by
  intro pins s σ H x y v u Q I r1 r2 h
  obtain ⟨a, o, rfl, g, q⟩ := h
  cases r2
  exact d_notIn hu I g r1 fun s' I' => ⟨.bl _, H, I', rfl, q⟩
theorem co_ind (C : Cz E N vb wb G sc k X) {r : Option D} (h : luD d2 d1 r) : Co X E .In d1 d2 r.isSome := co_bl (or_din (hu_of C.room)) fun B H v u e h1 h2 Q q => by
  obtain ⟨a, o, e1, g, z⟩ := luD_get e h h2 h1
  exact ⟨a, o, e1, g, by rw [z.isSome]; exact q⟩
theorem co_notind (C : Cz E N vb wb G sc k X) {r : Option D} (h : luD d2 d1 r) : Co X E .NotIn d1 d2 (!r.isSome) := co_bl (or_dnotin (hu_of C.room)) fun B H v u e h1 h2 Q q => by
  obtain ⟨a, o, e1, g, z⟩ := luD_get e h h2 h1
  exact ⟨a, o, e1, g, by rw [z.isSome]; exact q⟩
theorem lu_str {ds : List (Key × D)} {x : Str} : luD (.dic ds) (.str x) (luK ds (.inr x)) := .inr (.inl ⟨ds, x, rfl, rfl, rfl⟩)
theorem lu_tup {ds : List (List Key × D)} {ks : List Key} : luD (.dit ds) (.tup (ks.map (fun k => match k with | .inl i => D.int i | .inr x => D.str x))) (luK ds ks) := .inr (.inr ⟨ds, ks, _, rfl, rfl, rfl, rfl⟩)
/-- None -/
theorem isN_data : ∀ {K : PySem.W.Frag} {B H : Hp} {v : V} {d : D}, Dr K B H v d → decide (v = .non) = (match d with | .non => true | _ => false) := fun {K B H v d} h => by
  cases d with
  | non => have h : Dn K B v .non := h; cases h; rfl
  | bl b => have h : Dn K B v (.bl b) := h; cases h; rfl
  | int b => have h : Dn K B v (.int b) := h; cases h; rfl
  | str b => have h : Dn K B v (.str b) := h; cases h; rfl
  | tup b => have h : Dn K B v (.tup b) := h; cases h; rfl
  | ins b c => have h : Dn K B v (.ins b c) := h; cases h; rfl
  | lst b => obtain ⟨a, vs, e, _⟩ := h; rw [e]; rfl
  | dic b => obtain ⟨a, vs, e, _⟩ := h; rw [e]; rfl
  | dit b => obtain ⟨a, vs, e, _⟩ := h; rw [e]; rfl
theorem co_is : Co X E .Is d1 .non (match d1 with | .non => true | _ => false) := co_bl op_isN fun B H v u e h1 h2 Q q => by
  have h : Dn E.K B u .non := h2
  cases h
  exact ⟨rfl, by rw [isN_data h1]; exact q⟩
theorem co_isnot : Co X E .IsNot d1 .non (!(match d1 with | .non => true | _ => false)) := co_bl op_notN fun B H v u e h1 h2 Q q => by
  have h : Dn E.K B u .non := h2
  cases h
  exact ⟨rfl, by rw [isN_data h1]; exact q⟩

/-! ### tests -/
def WW (X : Cx) (e : Expr) : TT := fun σ H Q => ∀ (whole : Sem Value) (pins : List (Addr × Obj)) (s : Shared), Inv X pins σ H s → wpAny (model X.prog X.w) X.A (isTrue e X.env whole) (TP X pins σ Q) X.xe s
theorem pw_W (e : Expr) : PW X e (WW X e) := ⟨fun wh pins s σ H Q I h => h wh pins s I⟩
theorem WW.of {e : Expr} {t : TT} {σ : L2.St} {H : Hp} {Q : Bool → Hp → Prop} (h : PW X e t) (q : t σ H Q) : WW X e σ H Q := fun wh pins s I => h.run wh pins s σ H Q I q
def EvW (X : Cx) (E : En) (e : Expr) (Δ : List Slot) (b : Bool) : Prop := ∀ σ B H, Sees E Δ σ B H → ∀ Q : Bool → Hp → Prop, (∀ B' H', Pg B H B' H' → Q b H') → WW X e σ H Q
theorem EvW.t {e : Expr} {x : Bool} (h : EvW X E e Δ x) : EvT X E e Δ x := fun σ B H S Q q => WT.of (pw_W e).pt (h σ B H S Q q)
theorem ew_and1 {x : Bool} (h : EvT X E a Δ x) : EvW X E (.BoolOp .And [a] pos) Δ x := fun σ B H S Q q => WW.of (pw_and1 (pt_W a)) (h σ B H S Q q)
theorem ew_or1 {x : Bool} (h : EvT X E a Δ x) : EvW X E (.BoolOp .Or [a] pos) Δ x := fun σ B H S Q q => WW.of (pw_or1 (pt_W a)) (h σ B H S Q q)
theorem ew_and {x y : Bool} (h : EvT X E a Δ x) (h2 : x = true → EvW X E (.BoolOp .And (b :: es) pos) Δ y) : EvW X E (.BoolOp .And (a :: b :: es) pos) Δ (x && y) := fun σ B H S Q q => WW.of (pw_and (pt_W a) (pw_W _)) (h σ B H S _ fun B1 H1 p1 => by
  cases x with
  | true => exact h2 rfl σ B1 H1 (S.step p1) Q fun B2 H2 p2 => q B2 H2 (p1.trans p2)
  | false => exact q B1 H1 p1)
theorem ew_or {x y : Bool} (h : EvT X E a Δ x) (h2 : x = false → EvW X E (.BoolOp .Or (b :: es) pos) Δ y) : EvW X E (.BoolOp .Or (a :: b :: es) pos) Δ (x || y) := fun σ B H S Q q => WW.of (pw_or (pt_W a) (pw_W _)) (h σ B H S _ fun B1 H1 p1 => by
  cases x with
  | false => exact h2 rfl σ B1 H1 (S.step p1) Q fun B2 H2 p2 => q B2 H2 (p1.trans p2)
  | true => exact q B1 H1 p1)
theorem et_not {x : Bool} (h : EvT X E a Δ x) : EvT X E (.UnaryOp .Not a pos) Δ (!x) := fun σ B H S Q q => WT.of (pt_not (pt_W a)) (h σ B H S _ fun B1 H1 p1 => q B1 H1 p1)
theorem et_val {e : Expr} {x : Bool} (h : Ev X E e Δ (.bl x)) (he : ∀ whole, isTrue e X.env whole = (do let v ← whole; standAt e.pos; holding [v] (truthy v)) := by intro _; rfl) : EvT X E e Δ x := fun σ B H S Q q => WT.of (pt_val (pe_W e) he) (h σ B H S _ fun v B1 H1 p1 r1 => by
  cases r1
  exact ⟨x, rfl, q B1 H1 p1⟩)
/-- a list that is read, by its truth -/
theorem et_list (C : Cz E N vb wb G sc k X) {e : Expr} {xs : List D} (h : EvR X E e Δ (.lst xs)) (he : ∀ whole, isTrue e X.env whole = (do let v ← whole; standAt e.pos; holding [v] (truthy v)) := by intro _; rfl) : EvT X E e Δ (!xs.isEmpty) := fun σ B H S Q q => WT.of (pt_truth (pe_W e) he) (h σ B H S _ fun v B1 H1 p1 r1 => by
  obtain ⟨a, vs, e1, e2, e3⟩ := r1
  subst e1
  refine ⟨!vs.isEmpty, .inl ⟨vs, SqL.of e2, rfl⟩, ?_⟩
  have : vs.isEmpty = xs.isEmpty := by
    have := e3.length
    cases vs <;> cases xs <;> first | rfl | simp at this
  rw [this]
  exact q B1 H1 p1)
theorem ev_one {op : BoolOp} (h : Ev X E a Δ d) : Ev X E (.BoolOp op [a] pos) Δ d := fun σ B H S Q q => WE.of (pe_one (pe_W a)) (h σ B H S Q q)
theorem ev_and {x y : Bool} (h : Ev X E a Δ (.bl x)) (h2 : x = true → Ev X E (.BoolOp .And (b :: es) pos) Δ (.bl y)) : Ev X E (.BoolOp .And (a :: b :: es) pos) Δ (.bl (x && y)) := fun σ B H S Q q => WE.of (pe_and (pe_W a) (pe_W _)) (h σ B H S _ fun v B1 H1 p1 r1 => by
  cases r1
  refine ⟨x, rfl, ?_⟩
  cases x with
  | true => exact h2 rfl σ B1 H1 (S.step p1) Q fun v B2 H2 p2 r2 => q v B2 H2 (p1.trans p2) r2
  | false => exact q _ B1 H1 p1 (.bl false))
theorem ev_or {x y : Bool} (h : Ev X E a Δ (.bl x)) (h2 : x = false → Ev X E (.BoolOp .Or (b :: es) pos) Δ (.bl y)) : Ev X E (.BoolOp .Or (a :: b :: es) pos) Δ (.bl (x || y)) := fun σ B H S Q q => WE.of (pe_or (pe_W a) (pe_W _)) (h σ B H S _ fun v B1 H1 p1 r1 => by
  cases r1
  refine ⟨x, rfl, ?_⟩
  cases x with
  | false => exact h2 rfl σ B1 H1 (S.step p1) Q fun v B2 H2 p2 r2 => q v B2 H2 (p1.trans p2) r2
  | true => exact q _ B1 H1 p1 (.bl true))
theorem ev_not {x : Bool} (h : Ev X E a Δ (.bl x)) : Ev X E (.UnaryOp .Not a pos) Δ (.bl (!x)) := fun σ B H S Q q => WE.of (pe_not (pe_W a)) (h σ B H S _ fun v B1 H1 p1 r1 => by
  cases r1
  exact ⟨x, rfl, q _ B1 H1 p1 (.bl _)⟩)
theorem ev_ifx {x : Bool} (h : EvT X E c Δ x) (h1 : x = true → Ev X E a Δ d) (h2 : x = false → Ev X E b Δ d) : Ev X E (.IfExp c a b pos) Δ d := fun σ B H S Q q => WE.of (pe_ifExp (pt_W c) (pe_W a) (pe_W b)) (h σ B H S _ fun B1 H1 p1 => by
  cases x with
  | true => exact h1 rfl σ B1 H1 (S.step p1) Q fun v B2 H2 p2 r2 => q v B2 H2 (p1.trans p2) r2
  | false => exact h2 rfl σ B1 H1 (S.step p1) Q fun v B2 H2 p2 r2 => q v B2 H2 (p1.trans p2) r2)
theorem or_false {f : Value → Value → Sem Value} : OpR X f (fun _ _ _ _ => False) := fun _ _ _ _ _ _ _ _ _ _ _ _ h => h.elim
/-- a < b < c -/
theorem ev_chain {op op' : CmpOp} {x y : Bool} (h : Co X E op d1 d2 x) (h' : x = true → Co X E op' d2 d3 y) (ha : Ev X E a Δ d1) (hb : Ev X E b Δ d2) (hc : Ev X E c Δ d3) (hm : lastMarks [op, op'] [b, c] = false := by rfl) : Ev X E (.Compare a [op, op'] [b, c] pos) Δ (.bl (x && y)) := by
  obtain ⟨r, ho, hr⟩ := h
  cases x with
  | true =>
    obtain ⟨rr, hrr, hy⟩ := h' rfl
    exact fun σ B H S Q q => WE.of (pe_chain ho hrr (pe_W a) (pe_W b) (pe_W c) hm) (ha σ B H S _ fun u B1 H1 p1 r1 => hb σ B1 H1 (S.step p1) _ fun v B2 H2 p2 r2 => hr B2 H2 u v p2.sub ((r1.mono p2.eb).r p2.sub) (r2.r p2.sub) _ fun z B3 H3 p3 r3 => by
      cases r3
      refine ⟨true, rfl, ?_⟩
      rw [if_pos rfl]
      exact hc σ B3 H3 (((S.step p1).step p2).step p3) _ fun w B4 H4 p4 r4 => hy B4 H4 v w p4.sub ((r2.mono (p3.trans p4).eb).r p4.sub) (r4.r p4.sub) Q fun w' B5 H5 p5 r5 => q w' B5 H5 ((((p1.trans p2).trans p3).trans p4).trans p5) r5)
  | false =>
    exact fun σ B H S Q q => WE.of (pe_chain ho (or_false (f := compareOp op')) (pe_W a) (pe_W b) (pe_W c) hm) (ha σ B H S _ fun u B1 H1 p1 r1 => hb σ B1 H1 (S.step p1) _ fun v B2 H2 p2 r2 => hr B2 H2 u v p2.sub ((r1.mono p2.eb).r p2.sub) (r2.r p2.sub) _ fun z B3 H3 p3 r3 => by
      cases r3
      refine ⟨false, rfl, ?_⟩
      rw [if_neg Bool.false_ne_true]
      exact q _ B3 H3 ((p1.trans p2).trans p3) (.bl false))
end
end Kn
/-! K4: arguments, calls, items, slices, displays. -/
namespace Kn
open PySem PySem.Spec PyProof.Rows L2
section
variable {X : Cx} {E : En} {N G : List Str} {vb wb : List Bool} {sc : Scope} {k : Nat} {Δ : List Slot} {d d1 d2 d3 : D} {a b c e : Expr} {pos p apos : Pos} {j : Nat} {es : List Expr} {ds : List D}

/-! ### argument lists -/
theorem ea_nil : EvA X E [] Δ [] := fun σ B H S Q q => WA.of pa_nil (q [] B H (Pg.refl S.sub) .nil)
theorem ea_cons (h : Ev X E a Δ d) (r : EvA X E es Δ ds) (hs : starEach (a :: es) X.env = (false, eval a X.env) :: starEach es X.env := by rfl) : EvA X E (a :: es) Δ (d :: ds) := fun σ B H S Q q =>
  WA.of (pa_cons (pe_W a) (pa_W es) hs) (h σ B H S _ fun v B1 H1 p1 r1 => r σ B1 H1 (S.step p1) _ fun vs B2 H2 p2 r2 => q (v :: vs) B2 H2 (p1.trans p2) (.cons (r1.mono p2.eb) r2))
/-- arguments to be read at once -/
inductive DrL (K : PySem.W.Frag) (B H : Hp) : List V → List D → Prop
  | nil : DrL K B H [] []
  | cons {v : V} {d : D} {vs : List V} {ds : List D} : Dr K B H v d → DrL K B H vs ds → DrL K B H (v :: vs) (d :: ds)
theorem DrL.step {K : PySem.W.Frag} {B H B' H' : Hp} (p : Pg B H B' H') : ∀ {vs : List V} {ds : List D}, DrL K B H vs ds → DrL K B' H' vs ds
  | _, _, .nil => .nil
  | _, _, .cons h r => .cons (h.step p) (r.step p)
def EvAR (X : Cx) (E : En) (es : List Expr) (Δ : List Slot) (ds : List D) : Prop := ∀ σ B H, Sees E Δ σ B H → ∀ Q : List V → Hp → Prop, (∀ vs B' H', Pg B H B' H' → DrL E.K B' H' vs ds → Q vs H') → WA X es σ H Q
theorem ar_nil : EvAR X E [] Δ [] := fun σ B H S Q q => WA.of pa_nil (q [] B H (Pg.refl S.sub) .nil)
theorem ar_cons (h : EvR X E a Δ d) (r : EvAR X E es Δ ds) (hs : starEach (a :: es) X.env = (false, eval a X.env) :: starEach es X.env := by rfl) : EvAR X E (a :: es) Δ (d :: ds) := fun σ B H S Q q =>
  WA.of (pa_cons (pe_W a) (pa_W es) hs) (h σ B H S _ fun v B1 H1 p1 r1 => r σ B1 H1 (S.step p1) _ fun vs B2 H2 p2 r2 => q (v :: vs) B2 H2 (p1.trans p2) (.cons (r1.step p2) r2))

/-! ### built-ins -/
def RC (K : PySem.W.Frag) (r : List V → Hp → VK → Prop) (ds : List D) (d : D) : Prop := ∀ B H vs, Ex B H → DrL K B H vs ds → ∀ Q : VK, (∀ v B' H', Pg B H B' H' → Dn K B' v d → Q v H') → r vs H Q
def RCF (K : PySem.W.Frag) (r : List V → Hp → VK → Prop) (ds : List D) (o : O) : Prop := ∀ B H vs, Ex B H → DrL K B H vs ds → ∀ Q : VK, (∀ l B' H', Pg B H B' H' → H l = none → B' l = none → OHas K B' H' l o → Q (.ref l) H') → r vs H Q
theorem ev_callB (C : Cz E N vb wb G sc k X) (i : Nat) {x : Str} {id : String} {r : List V → Hp → VK → Prop} (hc : CallR X (.builtin id) r) (hr : RC E.K r ds d) (ha : EvAR X E (a :: es) Δ ds) (hm : E.mg x = none) (hv : bootBuiltins x = some (.builtin id)) (hG : G[i]? = some x := by rfl)
    (hn : x ≠ "__name__" := by decide) (he : starEach (a :: es) X.env = (false, eval a X.env) :: starEach es X.env := by rfl) (hpl : (backTo pos (starEach es X.env)).any (·.1) = false := by rfl) : Ev X E (.Call (.Name x p) (a :: es) [] pos) Δ d := fun σ B H S Q q => by
  obtain ⟨h1, h2⟩ := C.gl i x hG
  exact WE.of (pe_callB hc h1 (by rw [C.hm]; exact hm) hv (pa_W _) hn h2 he hpl) (ha σ B H S _ fun vs B1 H1 p1 r1 => hr B1 H1 vs p1.sub r1 Q fun v B2 H2 p2 r2 => q v B2 H2 (p1.trans p2) r2)
theorem ev_callTy (C : Cz E N vb wb G sc k X) (i : Nat) {x : Str} {T : String} {r : List V → Hp → VK → Prop} (hc : CallR X (.type T) r) (hr : RC E.K r ds d) (ha : EvAR X E (a :: es) Δ ds) (hm : E.mg x = none) (hv : bootBuiltins x = some (.type T)) (hG : G[i]? = some x := by rfl)
    (hn : x ≠ "__name__" := by decide) (he : starEach (a :: es) X.env = (false, eval a X.env) :: starEach es X.env := by rfl) (hpl : (backTo pos (starEach es X.env)).any (·.1) = false := by rfl) : Ev X E (.Call (.Name x p) (a :: es) [] pos) Δ d := fun σ B H S Q q => by
  obtain ⟨h1, h2⟩ := C.gl i x hG
  exact WE.of (pe_callTy hc h1 (by rw [C.hm]; exact hm) hv (pa_W _) hn h2 he hpl) (ha σ B H S _ fun vs B1 H1 p1 r1 => hr B1 H1 vs p1.sub r1 Q fun v B2 H2 p2 r2 => q v B2 H2 (p1.trans p2) r2)
theorem ef_callTy (C : Cz E N vb wb G sc k X) (i : Nat) {x : Str} {T : String} {r : List V → Hp → VK → Prop} {o : O} (hc : CallR X (.type T) r) (hr : RCF E.K r ds o) (ha : EvAR X E (a :: es) Δ ds) (hm : E.mg x = none) (hv : bootBuiltins x = some (.type T)) (hG : G[i]? = some x := by rfl)
    (hn : x ≠ "__name__" := by decide) (he : starEach (a :: es) X.env = (false, eval a X.env) :: starEach es X.env := by rfl) (hpl : (backTo pos (starEach es X.env)).any (·.1) = false := by rfl) : EvF X E (.Call (.Name x p) (a :: es) [] pos) Δ o := fun σ B H S Q q => by
  obtain ⟨h1, h2⟩ := C.gl i x hG
  exact WE.of (pe_callTy hc h1 (by rw [C.hm]; exact hm) hv (pa_W _) hn h2 he hpl) (ha σ B H S _ fun vs B1 H1 p1 r1 => hr B1 H1 vs p1.sub r1 Q fun l B2 H2 p2 hl hB r2 => q l B2 H2 (p1.trans p2) (p1.eh.free hl) hB r2)
/-- len -/
inductive LenD : D → Nat → Prop
  | str (x : Str) : x.length ≤ 1000000 → LenD (.str x) x.length
  | lst (xs : List D) : LenD (.lst xs) xs.length
  | tup (xs : List D) : LenD (.tup xs) xs.length
theorem rc_len (C : Cz E N vb wb G sc k X) {n : Nat} (h : LenD d1 n) : RC E.K (fun xs H Q => ∃ x n, xs = [x] ∧ LenV X.K x H n ∧ Q (.int n) H) [d1] (.int n) := fun B H vs e r Q q => by
  cases r with
  | cons r1 r2 =>
    cases r2
    refine ⟨_, n, rfl, ?_, q _ B H (Pg.refl e) (.int _)⟩
    cases h with
    | str x hx => rw [r1.str_inv]; exact ⟨sz_of hx, rfl⟩
    | lst xs =>
      obtain ⟨a, vs, e1, e2, e3⟩ := r1
      rw [e1]
      exact .inl ⟨vs, SqL.of e2, e3.length.symm⟩
    | tup xs =>
      obtain ⟨a, vs, e1, e2, e3⟩ := r1.tup_inv
      rw [e1]
      exact .inr ⟨vs, SqT.of (e _ _ e2), e3.length.symm⟩
theorem ev_len (C : Cz E N vb wb G sc k X) (i : Nat) {n : Nat} (ha : EvR X E a Δ d1) (h : LenD d1 n) (hm : E.mg "len" = none) (hG : G[i]? = some ("len" : Str) := by rfl) (he : starEach [a] X.env = (false, eval a X.env) :: starEach [] X.env := by rfl) : Ev X E (.Call (.Name "len" p) [a] [] pos) Δ (.int n) :=
  ev_callB C i call_len (rc_len C h) (ar_cons ha ar_nil he) hm PySem.boot_len hG (by decide) he rfl
/-- tuple(xs), list(xs) -/
def itemsD : D → Option (List D)
  | .lst xs => some xs
  | .tup xs => some xs
  | _ => none
theorem items_seq {K : PySem.W.Frag} {B H : Hp} {u : V} {d : D} {xs : List D} (e : Ex B H) (h : Dr K B H u d) (hd : itemsD d = some xs) : ∃ p vs, u = .ref p ∧ (SqL K H p vs ∨ SqT K H p vs) ∧ DnL K B vs xs := by
  cases d with
  | lst ys => cases hd; obtain ⟨p, vs, h1, h2, h3⟩ := h; exact ⟨p, vs, h1, .inl (SqL.of h2), h3⟩
  | tup ys => cases hd; obtain ⟨p, vs, h1, h2, h3⟩ := h.tup_inv; exact ⟨p, vs, h1, .inr (SqT.of (e _ _ h2)), h3⟩
  | _ => cases hd
theorem boot_tuple : bootBuiltins "tuple" = some (.type "tuple") := by decide +kernel
theorem boot_list : bootBuiltins "list" = some (.type "list") := by decide +kernel
theorem ev_tuple (C : Cz E N vb wb G sc k X) (i : Nat) {xs : List D} (ha : EvR X E a Δ d1) (h : itemsD d1 = some xs) (hm : E.mg "tuple" = none) (hG : G[i]? = some ("tuple" : Str) := by rfl) (he : starEach [a] X.env = (false, eval a X.env) :: starEach [] X.env := by rfl) : Ev X E (.Call (.Name "tuple" p) [a] [] pos) Δ (.tup xs) :=
  ev_callTy C i call_tuple_of (fun B H vs e r Q q => by
    cases r with
    | cons r1 r2 =>
      cases r2
      cases d1 with
      | lst ys =>
        cases h
        obtain ⟨u, vs, h1, h2, h3⟩ := r1
        exact ⟨u, vs, by rw [h1], .inl ⟨SqL.of h2, fun l nl => q _ _ _ (Pg.new e nl) (.tup upd_same (h3.mono (Ex.new (e.free nl))))⟩⟩
      | tup ys =>
        cases h
        obtain ⟨u, vs, h1, h2, h3⟩ := r1.tup_inv
        exact ⟨u, vs, by rw [h1], .inr ⟨SqT.of (e _ _ h2), by rw [h1] at r1; exact q _ B H (Pg.refl e) r1⟩⟩
      | _ => cases h) (ar_cons ha ar_nil he) hm boot_tuple hG (by decide) he rfl
theorem ef_list (C : Cz E N vb wb G sc k X) (i : Nat) {xs : List D} (ha : EvR X E a Δ d1) (h : itemsD d1 = some xs) (hm : E.mg "list" = none) (hG : G[i]? = some ("list" : Str) := by rfl) (he : starEach [a] X.env = (false, eval a X.env) :: starEach [] X.env := by rfl) : EvF X E (.Call (.Name "list" p) [a] [] pos) Δ (.lst xs) :=
  ef_callTy C i call_list_of (fun B H vs e r Q q => by
    cases r with
    | cons r1 r2 =>
      cases r2
      obtain ⟨u, vs, h1, h2, h3⟩ := items_seq e r1 h
      exact ⟨u, vs, by rw [h1], by rw [C.hK]; exact h2, fun l nl => q l B _ (Pg.apart e nl) nl (e.free nl) ⟨vs, upd_same, h3⟩⟩) (ar_cons ha ar_nil he) hm boot_list hG (by decide) he rfl
/-- all([..]) -/
theorem boot_all : bootBuiltins "all" = some (.builtin "all") := by decide +kernel
theorem ev_all (C : Cz E N vb wb G sc k X) (i : Nat) {bs : List Bool} (ha : EvR X E a Δ (.lst (bs.map D.bl))) (hm : E.mg "all" = none) (hG : G[i]? = some ("all" : Str) := by rfl) (he : starEach [a] X.env = (false, eval a X.env) :: starEach [] X.env := by rfl) : Ev X E (.Call (.Name "all" p) [a] [] pos) Δ (.bl (bs.all id)) :=
  ev_callB C i (cr_all C.calm) (fun B H vs e r Q q => by
    cases r with
    | cons r1 r2 =>
      cases r2
      obtain ⟨u, vs, h1, h2, h3⟩ := r1
      rw [h3.of_bls] at h2
      exact ⟨u, bs, by rw [h1], SqL.of h2, q _ B H (Pg.refl e) (.bl _)⟩) (ar_cons ha ar_nil he) hm boot_all hG (by decide) he rfl
/-- ord, int -/
theorem ev_ord (C : Cz E N vb wb G sc k X) (i : Nat) {x : Str} (ha : Ev X E a Δ (.str x)) (h : x.length = 1) (hm : E.mg "ord" = none) (hG : G[i]? = some ("ord" : Str) := by rfl) (he : starEach [a] X.env = (false, eval a X.env) :: starEach [] X.env := by rfl) : Ev X E (.Call (.Name "ord" p) [a] [] pos) Δ (.int (x.cps.getD 0 0 : Nat)) :=
  ev_callB C i call_ord (fun B H vs e r Q q => by
    cases r with
    | cons r1 r2 =>
      cases r2
      exact ⟨x, by rw [r1.str_inv], h, q _ B H (Pg.refl e) (.int _)⟩) (ar_cons ha.r ar_nil he) hm (by decide +kernel) hG (by decide) he rfl
theorem ev_intI (C : Cz E N vb wb G sc k X) (i : Nat) {n : Int} (ha : Ev X E a Δ (.int n)) (hm : E.mg "int" = none) (hG : G[i]? = some ("int" : Str) := by rfl) (he : starEach [a] X.env = (false, eval a X.env) :: starEach [] X.env := by rfl) : Ev X E (.Call (.Name "int" p) [a] [] pos) Δ (.int n) :=
  ev_callTy C i call_int1 (fun B H vs e r Q q => by
    cases r with
    | cons r1 r2 =>
      cases r2
      exact .inl ⟨n, by rw [r1.int_inv], q _ B H (Pg.refl e) (.int _)⟩) (ar_cons ha.r ar_nil he) hm (by decide +kernel) hG (by decide) he rfl
theorem ev_intB (C : Cz E N vb wb G sc k X) (i : Nat) {n : Bool} (ha : Ev X E a Δ (.bl n)) (hm : E.mg "int" = none) (hG : G[i]? = some ("int" : Str) := by rfl) (he : starEach [a] X.env = (false, eval a X.env) :: starEach [] X.env := by rfl) : Ev X E (.Call (.Name "int" p) [a] [] pos) Δ (.int (if n then 1 else 0)) :=
  ev_callTy C i call_int1 (fun B H vs e r Q q => by
    cases r with
    | cons r1 r2 =>
      cases r2
      exact .inr ⟨n, by rw [r1.bl_inv], q _ B H (Pg.refl e) (.int _)⟩) (ar_cons ha.r ar_nil he) hm (by decide +kernel) hG (by decide) he rfl
/-- isinstance(x, T), T a built-in class -/
def tyN : D → String
  | .non => "NoneType" | .bl _ => "bool" | .int _ => "int" | .str _ => "str" | .lst _ => "list" | .tup _ => "tuple" | .dic _ => "dict" | .dit _ => "dict" | .ins _ _ => "?"
def isiB (d : D) (T : String) : Option Bool := match d with
  | .ins _ _ => none
  | .dic _ => none
  | d => kitB (tyN d) T
theorem ty_data {K : PySem.W.Frag} {B H : Hp} {v : V} {d : D} (e : Ex B H) (h : Dr K B H v d) (hi : ∀ C fs, d ≠ .ins C fs) (hi2 : ∀ ds, d ≠ .dic ds) : TyX K H v (.type (tyN d)) := by
  cases d with
  | non => have h : Dn K B v .non := h; cases h; exact .base .non
  | bl b => have h : Dn K B v (.bl b) := h; cases h; exact .base (.bl b)
  | int b => have h : Dn K B v (.int b) := h; cases h; exact .base (.int b)
  | str b => have h : Dn K B v (.str b) := h; cases h; exact .base (.str b)
  | tup b => obtain ⟨a, vs, e1, e2, _⟩ := h.tup_inv; rw [e1]; exact .base (.tup (e _ _ e2))
  | ins b c => exact absurd rfl (hi b c)
  | lst b => obtain ⟨a, vs, e1, e2, _⟩ := h; rw [e1]; exact .base (.lst e2)
  | dic b => exact absurd rfl (hi2 b)
  | dit b => obtain ⟨a, vs, e1, e2, _⟩ := h; rw [e1]; exact .base (.dT e2)
theorem boot_isinstance' : bootBuiltins "isinstance" = some (.builtin "isinstance") := by decide +kernel
theorem ev_isi (C : Cz E N vb wb G sc k X) (i l : Nat) {T : String} {y : Str} {x : Bool} {p2 : Pos} (ha : EvR X E a Δ d) (h : isiB d T = some x) (hm : E.mg "isinstance" = none) (hm2 : E.mg y = none) (hv : bootBuiltins y = some (.type T)) (hG : G[i]? = some ("isinstance" : Str) := by rfl) (hG2 : G[l]? = some y := by rfl) (hy : y ≠ "__name__" := by decide)
    (he : starEach [a, .Name y p2] X.env = (false, eval a X.env) :: starEach [.Name y p2] X.env := by rfl) : Ev X E (.Call (.Name "isinstance" p) [a, .Name y p2] [] pos) Δ (.bl x) := fun σ B H S Q q => by
  obtain ⟨g1, g2⟩ := C.gl i _ hG
  obtain ⟨g3, g4⟩ := C.gl l _ hG2
  refine WE.of (pe_callB call_isi g1 (by rw [C.hm]; exact hm) boot_isinstance' (pa_cons (pe_W a) (pa_cons (pe_bltn (v := .ty T) g3 (by rw [C.hm]; exact hm2) hv rfl hy g4) pa_nil) he) (by decide) g2 he rfl) ?_
  refine ha σ B H S _ fun v B1 H1 p1 r1 => ?_
  have hi : ∀ C fs, d ≠ .ins C fs := by rintro C fs rfl; cases h
  have hi2 : ∀ ds, d ≠ .dic ds := by rintro ds rfl; cases h
  refine ⟨v, .ty T, .type (tyN d), .type T, x, rfl, .ty T, by rw [C.hK]; exact ty_data p1.sub r1 hi hi2, ?_, q _ B1 H1 p1 (.bl x)⟩
  have h' : kitB (tyN d) T = some x := by
    cases d <;> first | exact h | cases h
  exact kit_ty h'

/-! ### displays, items, slices -/
theorem ev_tup {x1 : Nat} (h : EvA X E es Δ ds) (hl : ds.length ≤ 1000000 := by exact Nat.le_of_ble_eq_true rfl) : Ev X E (.Tuple es x1 pos) Δ (.tup ds) := fun σ B H S Q q => WE.of (pe_tup (pa_W es)) (h σ B H S _ fun vs B1 H1 p1 r1 =>
  ⟨by rw [r1.length]; exact sz_of hl, fun p np => q _ _ _ (p1.trans (Pg.new p1.sub np)) (.tup upd_same (r1.mono (Ex.new (p1.sub.free np))))⟩)
theorem ef_lst (h : EvA X E es Δ ds) (hl : ds.length ≤ 1000000 := by exact Nat.le_of_ble_eq_true rfl) : EvF X E (.List es pos) Δ (.lst ds) := fun σ B H S Q q => WE.of (pe_lst (pa_W es)) (h σ B H S _ fun vs B1 H1 p1 r1 =>
  ⟨by rw [r1.length]; exact sz_of hl, fun p np => q p B1 _ (p1.trans (Pg.apart p1.sub np)) (p1.eh.free np) (p1.sub.free np) ⟨vs, upd_same, r1⟩⟩)
theorem ef_dic0 : EvF X E (.Dict [] [] pos) Δ (.dK []) := fun σ B H S Q q => WE.of pe_dnewK fun p np => q p B _ (Pg.apart S.sub np) np (S.sub.free np) ⟨[], upd_same, .nil⟩
theorem ef_dit0 : EvF X E (.Dict [] [] pos) Δ (.dT []) := fun σ B H S Q q => WE.of pe_dnewT fun p np => q p B _ (Pg.apart S.sub np) np (S.sub.free np) ⟨[], upd_same, .nil⟩
theorem atI_dn {K : PySem.W.Frag} {B : Hp} {vs : List V} {ds : List D} {i : Int} (r : DnL K B vs ds) (h : atI ds i = some d) : ∃ v, atI vs i = some v ∧ Dn K B v d := by
  unfold atI at h ⊢
  rw [r.length]
  cases e : ixN ds.length i with
  | none => rw [e] at h; cases h
  | some n =>
    rw [e] at h
    exact r.get h
/-- x[i] of a list, a tuple -/
theorem rd_ixs (C : Cz E N vb wb G sc k X) {xs : List D} {i : Int} (h : itemsD d1 = some xs) (hi : atI xs i = some d) : RD E.K (rIx X.K) d1 (.int i) d := fun B H u y e h1 h2 Q q => by
  obtain ⟨p, vs, e1, e2, e3⟩ := items_seq e h1 h
  obtain ⟨v, hv, rv⟩ := atI_dn e3 hi
  have hq := q v B H (Pg.refl e) rv
  rw [e1, h2.int_inv]
  rcases e2 with e2 | e2
  · exact .inl ⟨p, vs, i, v, rfl, rfl, by rw [C.hK]; exact e2, hv, hq⟩
  · exact .inr (.inl ⟨p, vs, i, v, rfl, rfl, by rw [C.hK]; exact e2, hv, hq⟩)
theorem ev_ix (C : Cz E N vb wb G sc k X) {xs : List D} {i : Int} (ha : EvR X E a Δ d1) (hb : Ev X E b Δ (.int i)) (h : itemsD d1 = some xs) (hi : atI xs i = some d) (hs : PlainIx b := by exact fun _ _ => rfl) : Ev X E (.Subscript a b pos) Δ d :=
  ev_two (fun _ _ h1 h2 => pe_ix ix_seq h1 h2 hs) ha hb.r (rd_ixs C h hi)
/-- x[n], n written: the n-th -/
theorem at_n {xs : List D} {n : Nat} (h : xs[n]? = some d) : atI xs (n : Int) = some d := atI_nat h
/-- s[i] of a text -/
theorem ev_ixS {x : Str} {i : Int} {ch : Nat} (ha : Ev X E a Δ (.str x)) (hb : Ev X E b Δ (.int i)) (hl : x.length ≤ 1000000) (hi : atI x.cps.toList i = some ch) (hs : PlainIx b := by exact fun _ _ => rfl) : Ev X E (.Subscript a b pos) Δ (.str ⟨#[ch]⟩) :=
  ev_two (fun _ _ h1 h2 => pe_ix ix_str h1 h2 hs) ha.r hb.r fun B H u y e h1 h2 Q q => ⟨x, i, ch, h1.str_inv, h2.int_inv, sz_of hl, hi, q _ B H (Pg.refl e) (.str _)⟩
/-- d[k] of a dict -/
theorem ev_dget (C : Cz E N vb wb G sc k X) (ha : EvR X E a Δ d1) (hb : Ev X E b Δ d2) (h : luD d1 d2 (some d)) (hs : NoSl b := by exact fun _ _ => rfl) : Ev X E (.Subscript a b pos) Δ d := fun σ B H S Q q =>
  WE.of (pe_dget (hu_of C.room) (pe_W a) (pe_W b) hs) (ha σ B H S _ fun u B1 H1 p1 r1 => hb σ B1 H1 (S.step p1) _ fun y B2 H2 p2 r2 => by
    obtain ⟨x, o, e1, g, z⟩ := luD_get p2.sub h (r1.step p2) (r2.r p2.sub)
    obtain ⟨v, rfl, rv⟩ := z.some_of
    exact ⟨x, v, e1, g, q v B2 H2 (p1.trans p2) rv⟩)
/-- parts of a slice -/
def EvO (X : Cx) (E : En) (e : Option Expr) (Δ : List Slot) (o : Option Int) : Prop := match e, o with
  | none, none => True
  | some e, some i => Ev X E e Δ (.int i)
  | _, _ => False
def tO (X : Cx) : Option Expr → TO
  | none => tNoPart
  | some e => tPart (WE X e)
theorem po_W (e : Option Expr) : PO X e (tO X e) := by
  cases e with
  | none => exact po_none
  | some e => exact po_some (pe_W e)
theorem EvO.run {e : Option Expr} {o : Option Int} (h : EvO X E e Δ o) {σ : L2.St} {B H : Hp} (S : Sees E Δ σ B H) {Q : Option Int → Hp → Prop} (q : ∀ B' H', Pg B H B' H' → Q o H') : tO X e σ H Q := by
  cases e with
  | none =>
    cases o with
    | none => exact q B H (Pg.refl S.sub)
    | some i => exact h.elim
  | some e =>
    cases o with
    | none => exact h.elim
    | some i =>
      have h : Ev X E e Δ (.int i) := h
      exact h σ B H S _ fun v B1 H1 p1 r1 => by
        cases r1
        exact ⟨i, rfl, q B1 H1 p1⟩
theorem ev_slS {x : Str} {lo hi : Option Expr} {l u : Option Int} {p2 : Pos} (ha : Ev X E a Δ (.str x)) (h1 : EvO X E lo Δ l) (h2 : EvO X E hi Δ u) (hl : x.length ≤ 1000000) : Ev X E (.Subscript a (.Slice lo hi none p2) pos) Δ (.str (cutS x l u)) := fun σ B H S Q q =>
  WE.of (pe_slice sl_str (pe_W a) (po_W lo) (po_W hi)) (ha σ B H S _ fun v B1 H1 p1 r1 => h1.run (S.step p1) fun B2 H2 p2 => h2.run ((S.step p1).step p2) fun B3 H3 p3 => by
    cases r1
    exact ⟨x, rfl, sz_of hl, q _ B3 H3 ((p1.trans p2).trans p3) (.str _)⟩)
def cutD (xs : List D) (lo hi : Option Int) : List D := (xs.drop (HT.sIx xs.length 0 lo)).take (HT.sIx xs.length xs.length hi - HT.sIx xs.length 0 lo)
theorem DnL.cut {K : PySem.W.Frag} {B : Hp} {vs : List V} {xs : List D} (r : DnL K B vs xs) (lo hi : Option Int) : DnL K B (cutV vs lo hi) (cutD xs lo hi) := by
  unfold cutV cutD
  rw [r.length]
  exact (r.drop _).take _
theorem ef_slL (C : Cz E N vb wb G sc k X) {xs : List D} {lo hi : Option Expr} {l u : Option Int} {p2 : Pos} (ha : EvR X E a Δ (.lst xs)) (h1 : EvO X E lo Δ l) (h2 : EvO X E hi Δ u) : EvF X E (.Subscript a (.Slice lo hi none p2) pos) Δ (.lst (cutD xs l u)) := fun σ B H S Q q =>
  WE.of (pe_slice sl_list (pe_W a) (po_W lo) (po_W hi)) (ha σ B H S _ fun v B1 H1 p1 r1 => h1.run (S.step p1) fun B2 H2 p2 => h2.run ((S.step p1).step p2) fun B3 H3 p3 => by
    obtain ⟨w, vs, e1, e2, e3⟩ := (r1.step p2).step p3
    exact ⟨w, vs, e1, SqL.of e2, fun p np => q p B3 _ (((p1.trans p2).trans p3).trans (Pg.apart p3.sub np)) (((p1.trans p2).trans p3).eh.free np) (p3.sub.free np) ⟨_, upd_same, e3.cut l u⟩⟩)
theorem cutV_all {vs : List V} {lo hi : Option Int} (h : HT.sIx vs.length 0 lo = 0 ∧ HT.sIx vs.length vs.length hi = vs.length) : cutV vs lo hi = vs := by
  unfold cutV
  rw [h.1, h.2]
  simp
theorem ev_slT (C : Cz E N vb wb G sc k X) {xs : List D} {lo hi : Option Expr} {l u : Option Int} {p2 : Pos} (ha : Ev X E a Δ (.tup xs)) (h1 : EvO X E lo Δ l) (h2 : EvO X E hi Δ u) : Ev X E (.Subscript a (.Slice lo hi none p2) pos) Δ (.tup (cutD xs l u)) := fun σ B H S Q q =>
  WE.of (pe_slice sl_tupA (pe_W a) (po_W lo) (po_W hi)) (ha σ B H S _ fun v B1 H1 p1 r1 => h1.run (S.step p1) fun B2 H2 p2 => h2.run ((S.step p1).step p2) fun B3 H3 p3 => by
    have r3 := (r1.mono p2.eb).mono p3.eb
    cases r3 with
    | @tup w vs _ e2 e3 =>
      refine ⟨w, vs, rfl, SqT.of (p3.sub _ _ e2), fun z => ?_, fun z p np => q _ _ _ (((p1.trans p2).trans p3).trans (Pg.new p3.sub np)) (.tup upd_same ((e3.cut l u).mono (Ex.new (p3.sub.free np))))⟩
      refine q _ B3 H3 ((p1.trans p2).trans p3) (.tup e2 ?_)
      have := e3.cut l u
      rw [cutV_all z] at this
      exact this)
/-- t + u of tuples -/
theorem ev_catT {xs ys : List D} (ha : Ev X E a Δ (.tup xs)) (hb : Ev X E b Δ (.tup ys)) (hl : xs.length + ys.length ≤ 1000000) : Ev X E (.BinOp a .Add b pos) Δ (.tup (xs ++ ys)) :=
  ev_two (fun _ _ => pe_op op_catA) ha.r hb.r fun B H v u e h1 h2 Q q => by
    obtain ⟨p1, vs, e1, q1, r1⟩ := h1.tup_inv
    obtain ⟨p2, us, e2, q2, r2⟩ := h2.tup_inv
    have r3 := r1.append r2
    refine ⟨p1, p2, vs, us, e1, e2, SqT.of (e _ _ q1), SqT.of (e _ _ q2), by rw [r1.length, r2.length]; exact sz_of hl, fun z => ?_, fun _ z => ?_, fun _ _ p np => q _ _ _ (Pg.new e np) (.tup upd_same (r3.mono (Ex.new (e.free np))))⟩
    · subst z
      exact q _ B H (Pg.refl e) (.tup q2 r3)
    · subst z
      rw [List.append_nil] at r3
      exact q _ B H (Pg.refl e) (.tup q1 r3)
end
end Kn
/-! K5: calls of the text's own defs, loops, statements, comprehensions, a def's body. -/
namespace Kn
open PySem PySem.Spec PyProof.Rows L2

/-! ### promises -/
/-- a def of the text, by its name -/
structure FnD (P : Program) (w : World) (K : PySem.W.Frag) (mg : Str → Option Value) (base : Heap) (x : Str) (j : Nat) (sp : Sp) : Prop where
  ex : ∃ (f : Addr) (fd : FuncData) (ps : List Str), mg x = some (.ref f) ∧ PySem.W.keepIn K (.ref f) = true ∧ Binds K fd ps [] ∧ FnOk P w K mg base CX0 j f fd ps sp
/-- data to a datum -/
def spR (K : PySem.W.Frag) (R : List D → D → Prop) : Sp := fun vs H Q _ => ∃ B ds d, Ex B H ∧ DnL K B vs ds ∧ R ds d ∧ ∀ v B' H', Pg B H B' H' → Dn K B' v d → Q v H'
/-- data to a new list (dict) -/
def spL (K : PySem.W.Frag) (R : List D → O → Prop) : Sp := fun vs H Q _ => ∃ B ds o, Ex B H ∧ DnL K B vs ds ∧ R ds o ∧ ∀ l B' H', Pg B H B' H' → H l = none → B' l = none → OHas K B' H' l o → Q (.ref l) H'
/-- the pool first; which datum comes is open -/
def spP (K : PySem.W.Frag) (pre : List D → Prop) (post : List D → D → Prop) : Sp := fun vs H Q _ => ∃ B p c ws ds, vs = .ref p :: ws ∧ Ex B H ∧ B p = none ∧ OHas K B H p (.pool p (.some c)) ∧ DnL K B ws ds ∧ pre ds ∧
  ∀ v B' H' d, post ds d → Rn [p] B H B' H' → Ex B' H' → OHas K B' H' p (.pool p (.some c)) → Dn K B' v d → Q v H'
/-- data to some datum; to some new thing -/
def spN (K : PySem.W.Frag) (pre : List D → Prop) (post : List D → D → Prop) : Sp := fun vs H Q _ => ∃ B ds, Ex B H ∧ DnL K B vs ds ∧ pre ds ∧ ∀ v B' H' d, post ds d → Pg B H B' H' → Dn K B' v d → Q v H'
def spM (K : PySem.W.Frag) (pre : List D → Prop) (post : List D → O → Prop) : Sp := fun vs H Q _ => ∃ B ds, Ex B H ∧ DnL K B vs ds ∧ pre ds ∧ ∀ l B' H' o, post ds o → Pg B H B' H' → H l = none → B' l = none → OHas K B' H' l o → Q (.ref l) H'
section
variable {X : Cx} {E : En} {N G : List Str} {vb wb : List Bool} {sc : Scope} {k : Nat} {Δ Δ' : List Slot} {d d1 d2 d3 : D} {a b c e : Expr} {pos p apos : Pos} {j : Nat} {es : List Expr} {ds : List D}
theorem FnD.run {x : Str} {sp : Sp} (F : FnD E.P E.w E.K E.mg E.base x j sp) (C : Cz E N vb wb G sc k X) : ∃ (f : Addr) (fd : FuncData) (ps : List Str), X.mg x = some (.ref f) ∧ PySem.W.keepIn X.K (.ref f) = true ∧ Binds X.K fd ps [] ∧ FnOk X.prog X.w X.K X.mg X.base CX0 j f fd ps sp := by
  obtain ⟨f, fd, ps, h1, h2, h3, h4⟩ := F.ex
  rw [C.hP, C.hw, C.hK, C.hm, C.hb]
  exact ⟨f, fd, ps, h1, h2, h3, h4⟩
theorem ev_call (C : Cz E N vb wb G sc k X) (i : Nat) {x : Str} {R : List D → D → Prop} (F : FnD E.P E.w E.K E.mg E.base x j (spR E.K R)) (ha : EvA X E (a :: es) Δ ds) (hR : R ds d) (hj : j ≤ k := by decide) (hG : G[i]? = some x := by rfl)
    (he : starEach (a :: es) X.env = (false, eval a X.env) :: starEach es X.env := by rfl) (hpl : (backTo pos (starEach es X.env)).any (·.1) = false := by rfl) : Ev X E (.Call (.Name x p) (a :: es) [] pos) Δ d := fun σ B H S Q q => by
  obtain ⟨h1, h2⟩ := C.gl i x hG
  obtain ⟨f, fd, ps, g1, g2, g3, g4⟩ := F.run C
  exact WE.of (pe_call g4 (C.room.mono hj) h1 g1 g2 g3 .nil pass0 (pa_W _) h2 he hpl) (ha σ B H S _ fun vs B1 H1 p1 r1 => ⟨B1, ds, d, p1.sub, by rw [List.append_nil]; exact r1, hR, fun v B2 H2 p2 r2 => q v B2 H2 (p1.trans p2) r2⟩)
theorem ef_call (C : Cz E N vb wb G sc k X) (i : Nat) {x : Str} {R : List D → O → Prop} {o : O} (F : FnD E.P E.w E.K E.mg E.base x j (spL E.K R)) (ha : EvA X E (a :: es) Δ ds) (hR : R ds o) (hj : j ≤ k := by decide) (hG : G[i]? = some x := by rfl)
    (he : starEach (a :: es) X.env = (false, eval a X.env) :: starEach es X.env := by rfl) (hpl : (backTo pos (starEach es X.env)).any (·.1) = false := by rfl) : EvF X E (.Call (.Name x p) (a :: es) [] pos) Δ o := fun σ B H S Q q => by
  obtain ⟨h1, h2⟩ := C.gl i x hG
  obtain ⟨f, fd, ps, g1, g2, g3, g4⟩ := F.run C
  exact WE.of (pe_call g4 (C.room.mono hj) h1 g1 g2 g3 .nil pass0 (pa_W _) h2 he hpl) (ha σ B H S _ fun vs B1 H1 p1 r1 => ⟨B1, ds, o, p1.sub, by rw [List.append_nil]; exact r1, hR, fun l B2 H2 p2 hl hB r2 => q l B2 H2 (p1.trans p2) (p1.eh.free hl) hB r2⟩)
theorem ev_call0 (C : Cz E N vb wb G sc k X) (i : Nat) {x : Str} {R : List D → D → Prop} (F : FnD E.P E.w E.K E.mg E.base x j (spR E.K R)) (hR : R [] d) (hj : j ≤ k := by decide) (hG : G[i]? = some x := by rfl) : Ev X E (.Call (.Name x p) [] [] pos) Δ d := fun σ B H S Q q => by
  obtain ⟨h1, h2⟩ := C.gl i x hG
  obtain ⟨f, fd, ps, g1, g2, g3, g4⟩ := F.run C
  exact WE.of (pe_call0 g4 (C.room.mono hj) h1 g1 g2 g3 .nil pass0 h2) ⟨B, [], d, S.sub, .nil, hR, fun v B2 H2 p2 r2 => q v B2 H2 p2 r2⟩

/-! ### effects upon the pool -/
def DoT (X : Cx) (E : En) (e : Expr) (Δ : List Slot) (P : Bool → Prop) : Prop := ∀ σ B H, Sees E Δ σ B H → ∀ Q : Bool → Hp → Prop, (∀ B' H' b, Pp Δ σ B H B' H' → Sees E Δ σ B' H' → P b → Q b H') → WT X e σ H Q
def DoA (X : Cx) (E : En) (es : List Expr) (Δ : List Slot) (P : List D → Prop) : Prop := ∀ σ B H, Sees E Δ σ B H → ∀ Q : List V → Hp → Prop, (∀ vs B' H' ds, Pp Δ σ B H B' H' → Sees E Δ σ B' H' → DnL E.K B' vs ds → P ds → Q vs H') → WA X es σ H Q
/-- a new thing, which one is open -/
def DoF (X : Cx) (E : En) (e : Expr) (Δ : List Slot) (P : O → Prop) : Prop := ∀ σ B H, Sees E Δ σ B H → ∀ Q : VK, (∀ l B' H' o, Pp Δ σ B H B' H' → Sees E Δ σ B' H' → H l = none → B' l = none → OHas E.K B' H' l o → P o → Q (.ref l) H') → WE X e σ H Q
theorem Sees.enone {σ : L2.St} {B H : Hp} (S : Sees E Δ σ B H) {l : Addr} (h : H l = none) : E.H l = none := by
  cases q : E.H l with
  | none => rfl
  | some u => exact absurd h (S.rn.th l (by rw [q]; simp))
theorem DoF.of {o : O} {P : O → Prop} (h : EvF X E e Δ o) (hP : P o) : DoF X E e Δ P := fun σ B H S Q q => h σ B H S Q fun l B' H' p hl hB r => q l B' H' o (.of p) (S.step p) hl hB r hP
theorem DoF.mono {P P' : O → Prop} (h : DoF X E e Δ P) (k : ∀ o, P o → P' o) : DoF X E e Δ P' := fun σ B H S Q q => h σ B H S Q fun l B' H' o x s hl hB r p => q l B' H' o x s hl hB r (k o p)
theorem DoF.kn {P : O → Prop} {P' : D → Prop} (h : DoF X E e Δ P) (k : ∀ o, P o → ∃ x, o.data = some x ∧ P' x) : Do X E e Δ P' := fun σ B H S Q q => h σ B H S Q fun l B' H' o x S' hl hB r hP => by
  obtain ⟨y, hy, hP'⟩ := k o hP
  obtain ⟨u, hu, f⟩ := r.dn hy
  obtain ⟨ex, S2⟩ := S'.froze (S.enone hl) hB hu (S.noone hl)
  refine q _ _ H' y ⟨x.eb.trans ex, x.eh, x.th, fun a ha n => ?_⟩ S2 (f ex upd_same) hP'
  have na : a ≠ l := by rintro rfl; exact ha hl
  rw [upd_ne na]
  exact x.fr a ha n
theorem DoT.of {x : Bool} {P : Bool → Prop} (h : EvT X E e Δ x) (hP : P x) : DoT X E e Δ P := fun σ B H S Q q => h σ B H S Q fun B' H' p => q B' H' x (.of p) (S.step p) hP
theorem DoT.mono {P P' : Bool → Prop} (h : DoT X E e Δ P) (k : ∀ b, P b → P' b) : DoT X E e Δ P' := fun σ B H S Q q => h σ B H S Q fun B' H' b x s p => q B' H' b x s (k b p)
theorem DoA.of {P : List D → Prop} (h : EvA X E es Δ ds) (hP : P ds) : DoA X E es Δ P := fun σ B H S Q q => h σ B H S Q fun vs B' H' p r => q vs B' H' ds (.of p) (S.step p) r hP
theorem da_nil {P : List D → Prop} (h : P []) : DoA X E [] Δ P := DoA.of ea_nil h
theorem da_cons {P : List D → Prop} (h : Do X E a Δ fun d => DoA X E es Δ fun ds => P (d :: ds)) (hs : starEach (a :: es) X.env = (false, eval a X.env) :: starEach es X.env := by rfl) : DoA X E (a :: es) Δ P := fun σ B H S Q q =>
  WA.of (pa_cons (pe_W a) (pa_W es) hs) (h σ B H S _ fun v B1 H1 d x1 S1 r1 h1 => h1 σ B1 H1 S1 _ fun vs B2 H2 ds x2 S2 r2 h2 => q (v :: vs) B2 H2 (d :: ds) (x1.trans x2) S2 (.cons (r1.mono x2.eb) r2) h2)
theorem do_two {r : R2} {P : D → Prop} (hp : ∀ ta tb, PE X a ta → PE X b tb → PE X e (tOp r ta tb)) (h : Do X E a Δ fun d1 => Do X E b Δ fun d2 => ∃ d, RD E.K r d1 d2 d ∧ P d) : Do X E e Δ P := fun σ B H S Q q =>
  WE.of (hp _ _ (pe_W a) (pe_W b)) (h σ B H S _ fun x B1 H1 d1 x1 S1 r1 h1 => h1 σ B1 H1 S1 _ fun y B2 H2 d2 x2 S2 r2 ⟨d, hr, hP⟩ => hr B2 H2 x y S2.sub ((r1.mono x2.eb).r S2.sub) (r2.r S2.sub) Q fun v B3 H3 p3 r3 => q v B3 H3 d ((x1.trans x2).trans (.of p3)) (S2.step p3) r3 hP)
theorem do_add {P : D → Prop} (h : Do X E a Δ fun d1 => Do X E b Δ fun d2 => ∃ i j, d1 = .int i ∧ d2 = .int j ∧ P (.int (i + j))) : Do X E (.BinOp a .Add b pos) Δ P :=
  do_two (fun _ _ => pe_op op_add) (h.mono fun d1 h1 => h1.mono fun d2 ⟨i, j, e1, e2, hP⟩ => by subst e1 e2; exact ⟨_, rd_I0, hP⟩)
theorem do_cats {P : D → Prop} (h : Do X E a Δ fun d1 => Do X E b Δ fun d2 => ∃ x y, d1 = .str x ∧ d2 = .str y ∧ x.length + y.length ≤ 1000000 ∧ P (.str (x ++ y))) : Do X E (.BinOp a .Add b pos) Δ P :=
  do_two (fun _ _ => pe_op op_add_str) (h.mono fun d1 h1 => h1.mono fun d2 ⟨x, y, e1, e2, hl, hP⟩ => by
    subst e1 e2
    exact ⟨_, fun B H v u e h1 h2 Q q => ⟨x, y, h1.str_inv, h2.str_inv, sz_of hl, q _ B H (Pg.refl e) (.str _)⟩, hP⟩)
theorem do_ix (C : Cz E N vb wb G sc k X) {P : D → Prop} (h : Do X E a Δ fun d1 => Do X E b Δ fun d2 => ∃ xs i d, itemsD d1 = some xs ∧ d2 = .int i ∧ atI xs i = some d ∧ P d) (hs : PlainIx b := by exact fun _ _ => rfl) : Do X E (.Subscript a b pos) Δ P :=
  do_two (fun _ _ h1 h2 => pe_ix ix_seq h1 h2 hs) (h.mono fun d1 h1 => h1.mono fun d2 ⟨xs, i, d, e1, e2, e3, hP⟩ => by subst e2; exact ⟨d, rd_ixs C e1 e3, hP⟩)
theorem do_ixS {P : D → Prop} (h : Do X E a Δ fun d1 => Do X E b Δ fun d2 => ∃ x i ch, d1 = .str x ∧ d2 = .int i ∧ x.length ≤ 1000000 ∧ atI x.cps.toList i = some ch ∧ P (.str ⟨#[ch]⟩)) (hs : PlainIx b := by exact fun _ _ => rfl) : Do X E (.Subscript a b pos) Δ P :=
  do_two (fun _ _ h1 h2 => pe_ix ix_str h1 h2 hs) (h.mono fun d1 h1 => h1.mono fun d2 ⟨x, i, ch, e1, e2, hl, e3, hP⟩ => by
    subst e1 e2
    exact ⟨_, fun B H u y e h1 h2 Q q => ⟨x, i, ch, h1.str_inv, h2.int_inv, sz_of hl, e3, q _ B H (Pg.refl e) (.str _)⟩, hP⟩)
theorem do_tup {x1 : Nat} {P : D → Prop} (h : DoA X E es Δ fun ds => ds.length ≤ 1000000 ∧ P (.tup ds)) : Do X E (.Tuple es x1 pos) Δ P := fun σ B H S Q q => WE.of (pe_tup (pa_W es)) (h σ B H S _ fun vs B1 H1 ds x1 S1 r1 ⟨hl, hP⟩ =>
  ⟨by rw [r1.length]; exact sz_of hl, fun p np => q _ _ _ _ (x1.trans (.of (Pg.new S1.sub np))) (S1.step (Pg.new S1.sub np)) (.tup upd_same (r1.mono (Ex.new (S1.sub.free np)))) hP⟩)
theorem do_lst {P : D → Prop} (h : DoA X E es Δ fun ds => ds.length ≤ 1000000 ∧ P (.lst ds)) : Do X E (.List es pos) Δ P := fun σ B H S Q q => WE.of (pe_lst (pa_W es)) (h σ B H S _ fun vs B1 H1 ds x1 S1 r1 ⟨hl, hP⟩ =>
  ⟨by rw [r1.length]; exact sz_of hl, fun p np => q _ _ _ _ (x1.trans (.of (Pg.new S1.sub np))) (S1.step (Pg.new S1.sub np)) (.lst upd_same (r1.mono (Ex.new (S1.sub.free np)))) hP⟩)
/-- a call with the pool -/
theorem do_call (C : Cz E N vb wb G sc k X) (i n : Nat) {x y : Str} {lp cp : Addr} {py : Pos} {pre : List D → Prop} {post : List D → D → Prop} {P : D → Prop} (F : FnD E.P E.w E.K E.mg E.base x j (spP E.K pre post)) (hpool : Δ[n]? = some (.own (.pool lp (.some cp))))
    (ha : DoA X E es Δ fun ds => pre ds ∧ ∀ d, post ds d → P d) (hv : vb[n]? = some true := by rfl) (hN : N[n]? = some y := by rfl) (hj : j ≤ k := by decide) (hG : G[i]? = some x := by rfl)
    (he : starEach (.Name y py :: es) X.env = (false, eval (.Name y py) X.env) :: starEach es X.env := by rfl) (hpl : (backTo pos (starEach es X.env)).any (·.1) = false := by rfl) : Do X E (.Call (.Name x p) (.Name y py :: es) [] pos) Δ P := fun σ B H S Q q => by
  obtain ⟨h1, h2⟩ := C.gl i x hG
  obtain ⟨f, fd, ps, g1, g2, g3, g4⟩ := F.run C
  obtain ⟨v1, v2, v3⟩ := C.vis n y hv hN
  obtain ⟨l, el, _, _, hlp, _⟩ := S.own hpool
  subst hlp
  refine WE.of (pe_call g4 (C.room.mono hj) h1 g1 g2 g3 .nil pass0 (pa_cons (pe_var (i := n) (by rw [C.hN]; exact hN) v1 v2 v3) (pa_W es) he) h2 he hpl) ⟨.ref l, el, ?_⟩
  refine ha σ B H S _ fun vs B1 H1 ds x1 S1 r1 ⟨hpre, hpost⟩ => ?_
  obtain ⟨l', el', nB, mE, ho⟩ := S1.own hpool
  rw [el] at el'; cases el'
  refine ⟨B1, l, cp, vs, ds, by rw [List.append_nil], S1.sub, nB, ho, r1, hpre, fun v B2 H2 d hd rn sub ho2 r2 => ?_⟩
  refine q v B2 H2 d (x1.trans ⟨rn.eb, fun b u nb hb => rn.eh b u (by simp only [List.mem_singleton]; rintro rfl; exact nb n _ (.some cp) hpool el) hb, rn.th, rn.fr⟩) ⟨sub, ⟨S1.rn.eb.trans rn.eb, fun b u nb hb => ?_, fun b hb => rn.th b (S1.rn.th b hb), fun b hb nb => rn.fr b (S1.rn.th b hb) (S1.rn.fr b hb nb)⟩, fun i2 s hs => ?_, S1.ap⟩ r2 (hpost d hd)
  · refine rn.eh b u ?_ (S1.rn.eh b u nb hb)
    simp only [List.mem_singleton]
    rintro rfl
    rcases mE with z | ⟨_, z⟩
    · rw [z] at hb; cases hb
    · exact nb z
  · have qs := S1.sl i2 s hs
    cases s with
    | un => trivial
    | d y => obtain ⟨u, e3, r3⟩ := qs; exact ⟨u, e3, r3.mono rn.eb⟩
    | own o2 =>
      obtain ⟨l2, e2, n2, m2, r3⟩ := qs
      by_cases hll : l2 = l
      · subst hll
        have := S1.ap i2 n _ _ _ hs hpool e2 el
        subst this
        rw [hpool] at hs; cases hs
        exact ⟨l2, e2, rn.fr l2 r3.there n2, m2, ho2⟩
      · refine ⟨l2, e2, rn.fr l2 r3.there n2, m2, r3.mono rn.eb ?_⟩
        cases hu : H1 l2 with
        | none => exact absurd hu r3.there
        | some u => exact rn.eh l2 u (by simpa using hll) hu
/-- tests with effects -/
theorem dt_cmp {op : CmpOp} {r : R2} {P : Bool → Prop} (ho : OpR X (compareOp op) r) (h : Do X E a Δ fun d1 => Do X E b Δ fun d2 => ∃ x, RD E.K r d1 d2 (.bl x) ∧ P x) (hm : behindInMarks op b = false := by first | exact nomark _ | rfl) : DoT X E (.Compare a [op] [b] pos) Δ P := fun σ B H S Q q =>
  WT.of (pt_cmpR ho (pe_W a) (pe_W b) hm) (h σ B H S _ fun x B1 H1 d1 x1 S1 r1 h1 => h1 σ B1 H1 S1 _ fun y B2 H2 d2 x2 S2 r2 ⟨z, hr, hP⟩ => hr B2 H2 x y S2.sub ((r1.mono x2.eb).r S2.sub) (r2.r S2.sub) _ fun v B3 H3 p3 r3 => by
    cases r3
    exact ⟨z, rfl, q B3 H3 z ((x1.trans x2).trans (.of p3)) (S2.step p3) hP⟩)
theorem rd_eqI {i j : Int} {K : PySem.W.Frag} : RD K rEq (.int i) (.int j) (.bl (decide (i = j))) := fun B H v u e h1 h2 Q q => by
  rw [h1.int_inv, h2.int_inv]
  exact ⟨rfl, by rw [show decide (V.int i = V.int j) = decide (i = j) from by rw [dec_int]; exact Bool.beq_eq_decide_eq ..]; exact q _ B H (Pg.refl e) (.bl _)⟩
theorem dt_eqI {P : Bool → Prop} (h : Do X E a Δ fun d1 => Do X E b Δ fun d2 => ∃ i j, d1 = .int i ∧ d2 = .int j ∧ P (decide (i = j))) (hm : behindInMarks .Eq b = false := by first | exact nomark _ | rfl) : DoT X E (.Compare a [.Eq] [b] pos) Δ P :=
  dt_cmp op_eq (h.mono fun d1 h1 => h1.mono fun d2 ⟨i, j, e1, e2, hP⟩ => by subst e1 e2; exact ⟨_, rd_eqI, hP⟩) hm
theorem de_eqI {P : D → Prop} (h : Do X E a Δ fun d1 => Do X E b Δ fun d2 => ∃ i j, d1 = .int i ∧ d2 = .int j ∧ P (.bl (decide (i = j)))) (hm : behindInMarks .Eq b = false := by first | exact nomark _ | rfl) : Do X E (.Compare a [.Eq] [b] pos) Δ P :=
  do_two (fun _ _ h1 h2 => pe_cmpR op_eq h1 h2 hm) (h.mono fun d1 h1 => h1.mono fun d2 ⟨i, j, e1, e2, hP⟩ => by subst e1 e2; exact ⟨_, rd_eqI, hP⟩)
theorem de_one {op : BoolOp} {P : D → Prop} (h : Do X E a Δ P) : Do X E (.BoolOp op [a] pos) Δ P := fun σ B H S Q q => WE.of (pe_one (pe_W a)) (h σ B H S Q q)
theorem de_or {P : D → Prop} (h : Do X E a Δ fun d1 => ∃ x, d1 = .bl x ∧ (x = true → P (.bl true)) ∧ (x = false → Do X E (.BoolOp .Or (b :: es) pos) Δ P)) : Do X E (.BoolOp .Or (a :: b :: es) pos) Δ P := fun σ B H S Q q => WE.of (pe_or (pe_W a) (pe_W _)) (h σ B H S _ fun v B1 H1 d1 x1 S1 r1 ⟨x, e1, h1, h2⟩ => by
  subst e1
  cases r1
  refine ⟨x, rfl, ?_⟩
  cases x with
  | false => exact h2 rfl σ B1 H1 S1 Q fun v B2 H2 d x2 S2 r2 hP => q v B2 H2 d (x1.trans x2) S2 r2 hP
  | true => exact q _ B1 H1 _ x1 S1 (.bl true) (h1 rfl))
def DoW (X : Cx) (E : En) (e : Expr) (Δ : List Slot) (P : Bool → Prop) : Prop := ∀ σ B H, Sees E Δ σ B H → ∀ Q : Bool → Hp → Prop, (∀ B' H' b, Pp Δ σ B H B' H' → Sees E Δ σ B' H' → P b → Q b H') → WW X e σ H Q
theorem DoW.t {P : Bool → Prop} (h : DoW X E e Δ P) : DoT X E e Δ P := fun σ B H S Q q => WT.of (pw_W e).pt (h σ B H S Q q)
theorem dw_and1 {P : Bool → Prop} (h : DoT X E a Δ P) : DoW X E (.BoolOp .And [a] pos) Δ P := fun σ B H S Q q => WW.of (pw_and1 (pt_W a)) (h σ B H S Q q)
theorem dw_and {P : Bool → Prop} (h : DoT X E a Δ fun x => (x = true → DoW X E (.BoolOp .And (b :: es) pos) Δ P) ∧ (x = false → P false)) : DoW X E (.BoolOp .And (a :: b :: es) pos) Δ P := fun σ B H S Q q => WW.of (pw_and (pt_W a) (pw_W _)) (h σ B H S _ fun B1 H1 x x1 S1 ⟨h1, h2⟩ => by
  cases x with
  | true => exact h1 rfl σ B1 H1 S1 Q fun B2 H2 y x2 S2 hP => q B2 H2 y (x1.trans x2) S2 hP
  | false => exact q B1 H1 false x1 S1 (h2 rfl))
theorem dt_not {P : Bool → Prop} (h : DoT X E a Δ fun x => P (!x)) : DoT X E (.UnaryOp .Not a pos) Δ P := fun σ B H S Q q => WT.of (pt_not (pt_W a)) (h σ B H S _ fun B1 H1 x x1 S1 hP => q B1 H1 (!x) x1 S1 hP)
theorem dt_val {P : Bool → Prop} (h : Do X E e Δ fun d => ∃ x, d = .bl x ∧ P x) (he : ∀ whole, isTrue e X.env whole = (do let v ← whole; standAt e.pos; holding [v] (truthy v)) := by intro _; rfl) : DoT X E e Δ P := fun σ B H S Q q => WT.of (pt_val (pe_W e) he) (h σ B H S _ fun v B1 H1 d x1 S1 r1 ⟨x, e1, hP⟩ => by
  subst e1
  cases r1
  exact ⟨x, rfl, q B1 H1 x x1 S1 hP⟩)
theorem do_callN (C : Cz E N vb wb G sc k X) (i : Nat) {x : Str} {pre : List D → Prop} {post : List D → D → Prop} {P : D → Prop} (F : FnD E.P E.w E.K E.mg E.base x j (spN E.K pre post)) (ha : DoA X E (a :: es) Δ fun ds => pre ds ∧ ∀ d, post ds d → P d) (hj : j ≤ k := by decide) (hG : G[i]? = some x := by rfl)
    (he : starEach (a :: es) X.env = (false, eval a X.env) :: starEach es X.env := by rfl) (hpl : (backTo pos (starEach es X.env)).any (·.1) = false := by rfl) : Do X E (.Call (.Name x p) (a :: es) [] pos) Δ P := fun σ B H S Q q => by
  obtain ⟨h1, h2⟩ := C.gl i x hG
  obtain ⟨f, fd, ps, g1, g2, g3, g4⟩ := F.run C
  exact WE.of (pe_call g4 (C.room.mono hj) h1 g1 g2 g3 .nil pass0 (pa_W _) h2 he hpl) (ha σ B H S _ fun vs B1 H1 ds x1 S1 r1 ⟨hpre, hpost⟩ => ⟨B1, ds, S1.sub, by rw [List.append_nil]; exact r1, hpre, fun v B2 H2 d hd p2 r2 => q v B2 H2 d (x1.trans (.of p2)) (S1.step p2) r2 (hpost d hd)⟩)
theorem df_callM (C : Cz E N vb wb G sc k X) (i : Nat) {x : Str} {pre : List D → Prop} {post : List D → O → Prop} {P : O → Prop} (F : FnD E.P E.w E.K E.mg E.base x j (spM E.K pre post)) (ha : DoA X E (a :: es) Δ fun ds => pre ds ∧ ∀ d, post ds d → P d) (hj : j ≤ k := by decide) (hG : G[i]? = some x := by rfl)
    (he : starEach (a :: es) X.env = (false, eval a X.env) :: starEach es X.env := by rfl) (hpl : (backTo pos (starEach es X.env)).any (·.1) = false := by rfl) : DoF X E (.Call (.Name x p) (a :: es) [] pos) Δ P := fun σ B H S Q q => by
  obtain ⟨h1, h2⟩ := C.gl i x hG
  obtain ⟨f, fd, ps, g1, g2, g3, g4⟩ := F.run C
  refine WE.of (pe_call g4 (C.room.mono hj) h1 g1 g2 g3 .nil pass0 (pa_W _) h2 he hpl) (ha σ B H S _ fun vs B1 H1 ds x1 S1 r1 ⟨hpre, hpost⟩ => ⟨B1, ds, S1.sub, by rw [List.append_nil]; exact r1, hpre, fun l B2 H2 o ho p2 hl hB r2 => ?_⟩)
  refine q l B2 H2 o (x1.trans (.of p2)) (S1.step p2) ?_ hB r2 (hpost o ho)
  cases h : H l with
  | none => rfl
  | some u => exact absurd hl (x1.th l (by rw [h]; simp))
end
end Kn
/-! K6: walks, targets, statements, loops, a def's body. -/
namespace Kn
open PySem PySem.Spec PyProof.Rows L2

/-! ### walks -/
structure Wk (K : PySem.W.Frag) (J : It) (Bw : Hp) (ds : List D) : Prop where
  goes : ∀ i B H, i < ds.length → Ex Bw B → Ex B H → J.go i H
  stops : ∀ B H, Ex Bw B → Ex B H → J.stop ds.length H
  yields : ∀ i B H x H', i < ds.length → Ex Bw B → Ex B H → J.yld i H x H' → ∃ B' d, Pg B H B' H' ∧ ds[i]? = some d ∧ Dn K B' x d
def DoI (X : Cx) (E : En) (tg iter : Expr) (Δ : List Slot) (P : List D → Prop) : Prop := ∀ σ B H, Sees E Δ σ B H → ∀ R : It → Hp → Prop, (∀ J B' H' ds, Pp Δ σ B H B' H' → Sees E Δ σ B' H' → Wk E.K J B' ds → P ds → R J H') → WI X tg iter σ H R
section
variable {X : Cx} {E : En} {N G : List Str} {vb wb : List Bool} {sc : Scope} {k : Nat} {Δ Δ' : List Slot} {d d1 d2 d3 : D} {a b c e tg iter : Expr} {pos p apos : Pos} {j : Nat} {es : List Expr} {ds : List D}
theorem wk_list {K : PySem.W.Frag} {B : Hp} {l : Addr} {vs : List V} (h : B l = some (.lst vs)) (r : DnL K B vs ds) : Wk K (Itl K l) B ds where
  goes := fun i B' H hi x s => walk_list.goes i H (by rw [r.length]; exact hi) (SqL.of (s _ _ (x _ _ h)))
  stops := fun B' H x s => r.length ▸ walk_list.stops H (SqL.of (s _ _ (x _ _ h)))
  yields := fun i B' H v H' hi x s y => by
    obtain ⟨rfl, hv⟩ := walk_list.yields i H v H' (by rw [r.length]; exact hi) (SqL.of (s _ _ (x _ _ h))) y
    obtain ⟨d, hd, rd⟩ := r.at hv
    exact ⟨B', d, Pg.refl s, hd, rd.mono x⟩
theorem wk_tup {K : PySem.W.Frag} {B : Hp} {l : Addr} {vs : List V} (h : B l = some (.tup vs)) (r : DnL K B vs ds) : Wk K (Itt K l) B ds where
  goes := fun i B' H hi x s => walk_tup.goes i H (by rw [r.length]; exact hi) (SqT.of (s _ _ (x _ _ h)))
  stops := fun B' H x s => r.length ▸ walk_tup.stops H (SqT.of (s _ _ (x _ _ h)))
  yields := fun i B' H v H' hi x s y => by
    obtain ⟨rfl, hv⟩ := walk_tup.yields i H v H' (by rw [r.length]; exact hi) (SqT.of (s _ _ (x _ _ h))) y
    obtain ⟨d, hd, rd⟩ := r.at hv
    exact ⟨B', d, Pg.refl s, hd, rd.mono x⟩
def upto : Int → Nat → List D
  | _, 0 => []
  | lo, n + 1 => .int lo :: upto (lo + 1) n
theorem upto_len : ∀ (lo : Int) (n : Nat), (upto lo n).length = n
  | _, 0 => rfl
  | lo, n + 1 => congrArg (· + 1) (upto_len (lo + 1) n)
theorem upto_get : ∀ {lo : Int} {n i : Nat}, i < n → (upto lo n)[i]? = some (.int (lo + (i : Nat)))
  | lo, n + 1, 0, _ => by
    show some (D.int lo) = _
    simp
  | lo, n + 1, i + 1, h => by
    show (upto (lo + 1) n)[i]? = _
    rw [upto_get (Nat.lt_of_succ_lt_succ h)]
    congr 2
    omega
theorem wk_range {K : PySem.W.Frag} {B : Hp} {lo : Int} {n : Nat} : Wk K (Itr lo n) B (upto lo n) where
  goes := fun i B' H hi x s => walk_range.goes i H (by rw [upto_len] at hi; exact hi) trivial
  stops := fun B' H x s => by rw [upto_len]; exact walk_range.stops H trivial
  yields := fun i B' H v H' hi x s y => by
    rw [upto_len] at hi
    obtain ⟨rfl, rfl⟩ := walk_range.yields i H v H' hi trivial y
    exact ⟨B', _, Pg.refl s, upto_get hi, .int _⟩
def chars (z : Str) : List D := z.cps.toList.map fun c => .str ⟨#[c]⟩
theorem wk_str {K : PySem.W.Frag} {B : Hp} {z : Str} : Wk K (Its z) B (chars z) where
  goes := fun i B' H hi x s => walk_str.goes i H (by unfold chars at hi; simpa using hi) trivial
  stops := fun B' H x s => by
    have e : (chars z).length = z.cps.size := by unfold chars; simp
    rw [e]; exact walk_str.stops H trivial
  yields := fun i B' H v H' hi x s y => by
    obtain ⟨rfl, c, hc, rfl⟩ := walk_str.yields i H v H' (by unfold chars at hi; simpa using hi) trivial y
    refine ⟨B', .str ⟨#[c]⟩, Pg.refl s, ?_, .str _⟩
    unfold chars
    simp only [List.getElem?_map, Array.getElem?_toList, hc, Option.map_some]
def enumF : Nat → List D → List D
  | _, [] => []
  | n, x :: r => .tup [.int (n : Nat), x] :: enumF (n + 1) r
def enumD (ds : List D) : List D := enumF 0 ds
theorem enumF_len : ∀ (n : Nat) (ds : List D), (enumF n ds).length = ds.length
  | _, [] => rfl
  | n, _ :: r => congrArg (· + 1) (enumF_len (n + 1) r)
theorem enumF_get : ∀ {n i : Nat} {ds : List D} {x : D}, ds[i]? = some x → (enumF n ds)[i]? = some (.tup [.int ((n + i : Nat) : Int), x])
  | n, 0, y :: r, x, h => by
    have e : y = x := by simpa using h
    subst e
    rfl
  | n, i + 1, _ :: r, x, h => by
    show (enumF (n + 1) r)[i]? = _
    rw [enumF_get (n := n + 1) (i := i) (ds := r) (x := x) (by simpa using h)]
    have e : n + 1 + i = n + (i + 1) := by omega
    rw [e]
theorem enumD_len (ds : List D) : (enumD ds).length = ds.length := enumF_len 0 ds
theorem enumD_get {i : Nat} {x : D} (h : ds[i]? = some x) : (enumD ds)[i]? = some (.tup [.int (i : Nat), x]) := by
  have := enumF_get (n := 0) h
  rw [Nat.zero_add] at this
  exact this
/-- iter gives a list or tuple that all know -/
theorem di_list (C : Cz E N vb wb G sc k X) {P : List D → Prop} (h : Do X E iter Δ fun d => ∃ ds, d = .lst ds ∧ P ds) : DoI X E tg iter Δ P := fun σ B H S R q => WI.of (pi_list (pe_W iter)) (h σ B H S _ fun v B1 H1 d x1 S1 r1 ⟨ds, e, hP⟩ => by
  subst e
  cases r1 with
  | @lst l vs _ e r =>
    refine ⟨l, rfl, ⟨vs, SqL.of (S1.sub _ _ e)⟩, ?_⟩
    rw [C.hK]
    exact q _ B1 H1 ds x1 S1 (wk_list e r) hP)
theorem di_tup (C : Cz E N vb wb G sc k X) {P : List D → Prop} (h : Do X E iter Δ fun d => ∃ ds, d = .tup ds ∧ P ds) : DoI X E tg iter Δ P := fun σ B H S R q => WI.of (pi_tup (pe_W iter)) (h σ B H S _ fun v B1 H1 d x1 S1 r1 ⟨ds, e, hP⟩ => by
  subst e
  cases r1 with
  | @tup l vs _ e r =>
    refine ⟨l, rfl, ⟨vs, SqT.of (S1.sub _ _ e)⟩, ?_⟩
    rw [C.hK]
    exact q _ B1 H1 ds x1 S1 (wk_tup e r) hP)
theorem di_str {P : List D → Prop} (h : Do X E iter Δ fun d => ∃ z, d = .str z ∧ P (chars z)) : DoI X E tg iter Δ P := fun σ B H S R q => WI.of (pi_str (pe_W iter)) (h σ B H S _ fun v B1 H1 d x1 S1 r1 ⟨z, e, hP⟩ => by
  subst e
  cases r1
  exact ⟨z, rfl, q _ B1 H1 _ x1 S1 wk_str hP⟩)
theorem di_range (C : Cz E N vb wb G sc k X) (i : Nat) {P : List D → Prop} (h : Do X E a Δ fun d => ∃ n : Nat, d = .int (n : Int) ∧ n ≤ 1000000 ∧ P (upto 0 n)) (hm : E.mg "range" = none) (hG : G[i]? = some ("range" : Str) := by rfl) (he : starEach [a] X.env = (false, eval a X.env) :: starEach [] X.env := by rfl) :
    DoI X E tg (.Call (.Name "range" p) [a] [] pos) Δ P := fun σ B H S R q => WI.of (pi_range1 (C.gl i _ hG).1 (by rw [C.hm]; exact hm) (pa_cons (pe_W a) pa_nil he) he) (h σ B H S _ fun v B1 H1 d x1 S1 r1 ⟨n, e, hn, hP⟩ => by
  subst e
  cases r1
  refine ⟨n, rfl, by omega, by omega, ?_⟩
  have e2 : ((n : Int)).toNat = n := Int.toNat_natCast n
  rw [e2]
  exact q _ B1 H1 _ x1 S1 wk_range hP)
theorem di_range2 (C : Cz E N vb wb G sc k X) (i : Nat) {P : List D → Prop} {lo hi : Int} (ha : Ev X E a Δ (.int lo)) (hb : Ev X E b Δ (.int hi)) (hl : 0 ≤ lo ∧ lo ≤ 1000000 ∧ 0 ≤ hi ∧ hi ≤ 1000000) (hP : P (upto lo (hi - lo).toNat)) (hm : E.mg "range" = none) (hG : G[i]? = some ("range" : Str) := by rfl)
    (he : starEach [a, b] X.env = [(false, eval a X.env), (false, eval b X.env)] := by rfl) (he2 : starEach [b] X.env = [(false, eval b X.env)] := by rfl) :
    DoI X E tg (.Call (.Name "range" p) [a, b] [] pos) Δ P := fun σ B H S R q => WI.of (pi_range2 (C.gl i _ hG).1 (by rw [C.hm]; exact hm) (pa_cons (pe_W a) (pa_cons (pe_W b) pa_nil he2) (by rw [he, he2])) he he2) (ha σ B H S _ fun v B1 H1 p1 r1 => hb σ B1 H1 (S.step p1) _ fun u B2 H2 p2 r2 => by
  cases r1
  cases r2
  exact ⟨lo, hi, rfl, by omega, q _ B2 H2 _ (.of (p1.trans p2)) (S.step (p1.trans p2)) wk_range hP⟩)

/-! ### targets -/
/-- giving d to a target; ts: the slots that may change -/
def Bd (X : Cx) (E : En) (tg : Expr) (ts : List Nat) (d : D) (Δ : List Slot) (P : List Slot → Prop) : Prop := ∀ σ B H v, Sees E Δ σ B H → Dn E.K B v d → σ.length = X.N.length → ∀ Q : L2.St → Hp → Prop, (∀ σ' Δ', Sees E Δ' σ' B H → (∀ i, i ∉ ts → Δ'[i]? = Δ[i]?) → (∀ i, i ∉ ts → σ'[i]? = σ[i]?) → σ'.length = σ.length → (∀ (i : Nat) (o : O), Δ'[i]? = some (Slot.own o) → Δ[i]? = some (Slot.own o)) → P Δ' → Q σ' H) → WG X tg v σ H Q
def WGs (X : Cx) (es : List Expr) : TGs := fun vs σ H Q => ∀ (pins : List (Addr × Obj)) (s : Shared) (us : List Value), Inv X pins σ H s → Vals vs us → wpAny (model X.prog X.w) X.A (assignInOrder ((assignEach es X.env).map (·.2)) us) (fun _ s' => ∃ σ' H', Inv X pins σ' H' s' ∧ Q σ' H') X.xe s
theorem pgs_W (es : List Expr) : PGs X es (WGs X es) := ⟨fun pins s σ H vs us Q I r h => h pins s us I r⟩
def BdS (X : Cx) (E : En) (es : List Expr) (ts : List Nat) (ds : List D) (Δ : List Slot) (P : List Slot → Prop) : Prop := ∀ σ B H vs, Sees E Δ σ B H → DnL E.K B vs ds → σ.length = X.N.length → ∀ Q : L2.St → Hp → Prop, (∀ σ' Δ', Sees E Δ' σ' B H → (∀ i, i ∉ ts → Δ'[i]? = Δ[i]?) → (∀ i, i ∉ ts → σ'[i]? = σ[i]?) → σ'.length = σ.length → (∀ (i : Nat) (o : O), Δ'[i]? = some (Slot.own o) → Δ[i]? = some (Slot.own o)) → P Δ' → Q σ' H) → WGs X es vs σ H Q
theorem bd_nm (C : Cz E N vb wb G sc k X) (i : Nat) {x : Str} {ts : List Nat} {P : List Slot → Prop} (hP : P (Δ.set i (.d d))) (hts : i ∈ ts := by decide) (hw : wb[i]? = some true := by rfl) (hN : N[i]? = some x := by rfl) : Bd X E (.Name x pos) ts d Δ P := fun σ B H v S r hl Q q => by
  obtain ⟨h1, h2⟩ := C.loc i x hw hN
  have hN' : X.N[i]? = some x := by rw [C.hN]; exact hN
  refine WG.of (pg_name (i := i) (by rw [C.hN]; exact C.nd) hN' h1 h2) ?_
  have hi : i < σ.length := by rw [hl]; exact (List.getElem?_eq_some_iff.mp hN').1
  exact q _ _ (S.setD hi r) (fun l hl => List.getElem?_set_ne fun z => hl (by rw [← z]; exact hts)) (fun l hl => List.getElem?_set_ne fun z => hl (by rw [← z]; exact hts)) List.length_set (fun l o hl => by
    rcases getElem?_set_cases hl with ⟨_, z⟩ | ⟨_, z⟩
    · cases z
    · exact z) hP
theorem bs_nil {ts : List Nat} {P : List Slot → Prop} (hP : P Δ) : BdS X E [] ts [] Δ P := fun σ B H vs S r hl Q q => by
  cases r
  intro pins s us I rv
  exact (pgs_nil (X := X)).run pins s σ H [] us Q I rv ⟨rfl, q σ Δ S (fun _ _ => rfl) (fun _ _ => rfl) rfl (fun _ _ h => h) hP⟩
theorem bs_cons {ts : List Nat} {P : List Slot → Prop} (h : Bd X E a ts d Δ fun Δ' => BdS X E es ts ds Δ' P) (hs : (assignEach (a :: es) X.env).map (·.2) = assign a X.env :: (assignEach es X.env).map (·.2) := by rfl) : BdS X E (a :: es) ts (d :: ds) Δ P := fun σ B H vs S r hl Q q => by
  cases r with
  | cons r rr =>
    intro pins s us I rv
    refine (pgs_cons (pg_W a) (pgs_W es) hs).run pins s σ H _ us Q I rv ⟨_, _, rfl, ?_⟩
    exact h σ B H _ S r hl _ fun σ1 Δ1 S1 k1 k2 k3 k4 h1 => h1 σ1 B H _ S1 rr (k3.trans hl) Q fun σ2 Δ2 S2 g1 g2 g3 g4 hP => q σ2 Δ2 S2 (fun i hi => (g1 i hi).trans (k1 i hi)) (fun i hi => (g2 i hi).trans (k2 i hi)) (g3.trans k3) (fun i o h => k4 i o (g4 i o h)) hP
theorem bd_tup (C : Cz E N vb wb G sc k X) {x1 : Nat} {ts : List Nat} {P : List Slot → Prop} (h : BdS X E es ts ds Δ P) (hn : (assignEach es X.env).length = ds.length := by rfl) (hst : (assignEach es X.env).findIdx? (·.1) = none := by rfl) : Bd X E (.Tuple es x1 pos) ts (.tup ds) Δ P := fun σ B H v S r hl Q q => by
  cases r with
  | @tup l vs _ e r =>
    refine WG.of (pg_tup C.calm (pgs_W es) rfl hst) ⟨l, vs, rfl, SqT.of (S.sub _ _ e), by rw [hn, r.length], ?_⟩
    exact h σ B H vs S r hl Q q

/-! ### statements -/
structure Ps where
  nx : List Slot → Prop
  rt : D → List Slot → Prop := fun _ _ => False
  rf : O → List Slot → Prop := fun _ _ => False
  bk : List Slot → Prop := fun _ => False
  ct : List Slot → Prop := fun _ => False
/-- what is wanted in heaps is met by what is wanted in data -/
structure Meets (X : Cx) (E : En) (B : Hp) (P : Ps) (D0 : Ends) : Prop where
  nx : ∀ σ' B' H' Δ', Ex B B' → Sees E Δ' σ' B' H' → P.nx Δ' → D0.nx σ' H'
  bk : ∀ σ' B' H' Δ', Ex B B' → Sees E Δ' σ' B' H' → P.bk Δ' → D0.bk σ' H'
  ct : ∀ σ' B' H' Δ', Ex B B' → Sees E Δ' σ' B' H' → P.ct Δ' → D0.ct σ' H'
  rt : ∀ v σ' B' H' d Δ', Ex B B' → Sees E Δ' σ' B' H' → Dn E.K B' v d → P.rt d Δ' → D0.rt v H'
  rf : ∀ l σ' B' H' o Δ', Ex B B' → Sees E Δ' σ' B' H' → E.H l = none → B' l = none → OHas E.K B' H' l o → P.rf o Δ' → D0.rt (.ref l) H'
def GoS (X : Cx) (E : En) (st : Stmt) (Δ : List Slot) (P : Ps) : Prop := ∀ σ B H, Sees E Δ σ B H → ∀ D0 : Ends, Meets X E B P D0 → WS X st D0 σ H
def Go (X : Cx) (E : En) (sts : List Stmt) (Δ : List Slot) (P : Ps) : Prop := ∀ σ B H, Sees E Δ σ B H → ∀ D0 : Ends, Meets X E B P D0 → WSs X sts D0 σ H
theorem Meets.later {B B' : Hp} {P : Ps} {D0 : Ends} (M : Meets X E B P D0) (x : Ex B B') : Meets X E B' P D0 :=
  ⟨fun σ' B2 H' Δ' e => M.nx σ' B2 H' Δ' (x.trans e), fun σ' B2 H' Δ' e => M.bk σ' B2 H' Δ' (x.trans e), fun σ' B2 H' Δ' e => M.ct σ' B2 H' Δ' (x.trans e), fun v σ' B2 H' d Δ' e => M.rt v σ' B2 H' d Δ' (x.trans e), fun l σ' B2 H' o Δ' e => M.rf l σ' B2 H' o Δ' (x.trans e)⟩
theorem go_nil {P : Ps} (h : P.nx Δ) : Go X E [] Δ P := fun σ B H S D0 M => WSs.of pss_nil (M.nx σ B H Δ (Ex.refl B) S h)
theorem go_cons {P : Ps} {st : Stmt} {rest : List Stmt} (h : GoS X E st Δ { P with nx := fun Δ' => Go X E rest Δ' P }) : Go X E (st :: rest) Δ P := fun σ B H S D0 M =>
  WSs.of (pss_cons (ps_W st) (pss_W rest)) (h σ B H S _ ⟨fun σ' B' H' Δ' x S' hg => hg σ' B' H' S' D0 (M.later x), M.bk, M.ct, M.rt, M.rf⟩)
/-- what a name owns is known from now on -/
theorem go_kn {P : Ps} {sts : List Stmt} (i : Nat) {o : O} {x : D} (hi : Δ[i]? = some (.own o)) (ho : o.data = some x) (h : Go X E sts (Δ.set i (.d x)) P) : Go X E sts Δ P := fun σ B H S D0 M => by
  obtain ⟨B', x, S', _⟩ := S.freeze hi ho
  exact h σ B' H S' D0 (M.later x)
theorem gs_kn {P : Ps} {st : Stmt} (i : Nat) {o : O} {x : D} (hi : Δ[i]? = some (.own o)) (ho : o.data = some x) (h : GoS X E st (Δ.set i (.d x)) P) : GoS X E st Δ P := fun σ B H S D0 M => by
  obtain ⟨B', x, S', _⟩ := S.freeze hi ho
  exact h σ B' H S' D0 (M.later x)
theorem go_less {P : Ps} {sts : List Stmt} (i : Nat) (h : Go X E sts (Δ.set i .un) P) : Go X E sts Δ P := fun σ B H S D0 M => h σ B H S.less D0 M
/-- name = e -/
theorem gs_set (C : Cz E N vb wb G sc k X) (i : Nat) {x : Str} {pos' : Pos} {P : Ps} (he : Do X E e Δ fun d => P.nx (Δ.set i (.d d))) (hs : swapsWith e (some (.Name x pos')) pos.line X.env = pure false := by rfl) (hw : wb[i]? = some true := by rfl) (hN : N[i]? = some x := by rfl) : GoS X E (.Assign [.Name x pos'] e pos) Δ P := fun σ B H S D0 M => by
  obtain ⟨h1, h2⟩ := C.loc i x hw hN
  have hN' : X.N[i]? = some x := by rw [C.hN]; exact hN
  intro pins s I
  have hl : σ.length = X.N.length := I.len
  have hi : i < σ.length := by rw [hl]; exact (List.getElem?_eq_some_iff.mp hN').1
  refine (WS.of (ps_set (i := i) (by rw [C.hN]; exact C.nd) hN' h1 (pe_W e) hs h2) ?_ : WS X _ D0 σ H) pins s I
  exact he σ B H S _ fun v B' H' d x S' r hP => M.nx _ B' H' _ x.eb (S'.setD hi r) hP
/-- name = a new thing -/
theorem gs_new (C : Cz E N vb wb G sc k X) (i : Nat) {x : Str} {pos' : Pos} {P : Ps} (he : DoF X E e Δ fun o => P.nx (Δ.set i (.own o))) (hs : swapsWith e (some (.Name x pos')) pos.line X.env = pure false := by rfl) (hw : wb[i]? = some true := by rfl) (hN : N[i]? = some x := by rfl) : GoS X E (.Assign [.Name x pos'] e pos) Δ P := fun σ B H S D0 M => by
  obtain ⟨h1, h2⟩ := C.loc i x hw hN
  have hN' : X.N[i]? = some x := by rw [C.hN]; exact hN
  intro pins s I
  have hl : σ.length = X.N.length := I.len
  have hi : i < σ.length := by rw [hl]; exact (List.getElem?_eq_some_iff.mp hN').1
  refine (WS.of (ps_set (i := i) (by rw [C.hN]; exact C.nd) hN' h1 (pe_W e) hs h2) ?_ : WS X _ D0 σ H) pins s I
  exact he σ B H S _ fun l B' H' o x S' hn hB r hP => M.nx _ B' H' _ x.eb (S'.setO hi hB (S.enone hn) r (S.noone hn)) hP
/-- targets = e -/
theorem gs_asg {P : Ps} {tg : Expr} (ts : List Nat) (he : Do X E e Δ fun d => Bd X E tg ts d Δ P.nx) (hs : swapsWithSole [tg] e pos.line X.env = pure false := by rfl) (hw : swappedStores [tg] e X.env = pure none := by rfl)
    (h1 : (assignEach [tg] X.env).map (·.2) = [assign tg X.env] := by rfl) : GoS X E (.Assign [tg] e pos) Δ P := fun σ B H S D0 M => by
  intro pins s I
  have hl : σ.length = X.N.length := I.len
  refine (WS.of (ps_asg (pe_W e) (pg_W tg) hs hw h1) ?_ : WS X _ D0 σ H) pins s I
  exact he σ B H S _ fun v B' H' d x S' r hb => hb σ B' H' v S' r hl _ fun σ' Δ' S2 _ _ _ _ hP => M.nx σ' B' H' Δ' x.eb S2 hP
theorem gs_aug (C : Cz E N vb wb G sc k X) (i : Nat) {x : Str} {pos' : Pos} {P : Ps} {n m : Int} (hi : Δ[i]? = some (.d (.int n))) (he : Ev X E e Δ (.int m)) (hP : P.nx (Δ.set i (.d (.int (n + m))))) (hw : wb[i]? = some true := by rfl) (hN : N[i]? = some x := by rfl) : GoS X E (.AugAssign (.Name x pos') .Add e pos) Δ P := fun σ B H S D0 M => by
  obtain ⟨h1, h2⟩ := C.loc i x hw hN
  have hN' : X.N[i]? = some x := by rw [C.hN]; exact hN
  intro pins s I
  have hl : σ.length = X.N.length := I.len
  have hil : i < σ.length := by rw [hl]; exact (List.getElem?_eq_some_iff.mp hN').1
  refine (WS.of (ps_aug (i := i) (by rw [C.hN]; exact C.nd) hN' h1 (pe_W e) ip_add h2) ?_ : WS X _ D0 σ H) pins s I
  obtain ⟨v, ev, rv⟩ := S.get hi
  cases rv
  refine ⟨.int n, ev, he σ B H S _ fun u B1 H1 p1 r1 => ?_⟩
  cases r1
  exact ⟨n, m, rfl, rfl, M.nx _ B1 H1 _ p1.eb ((S.step p1).setD hil (.int _)) hP⟩
theorem gs_ret {P : Ps} (he : Do X E e Δ fun d => P.rt d Δ) : GoS X E (.Return (some e) pos) Δ P := fun σ B H S D0 M => WS.of (ps_ret (pe_W e)) (he σ B H S _ fun v B' H' d x S' r hP => M.rt v σ B' H' d Δ x.eb S' r hP)
theorem gs_retF {P : Ps} (he : DoF X E e Δ fun o => P.rf o Δ) : GoS X E (.Return (some e) pos) Δ P := fun σ B H S D0 M => WS.of (ps_ret (pe_W e)) (he σ B H S _ fun l B' H' o x S' hn hB r hP => M.rf l σ B' H' o Δ x.eb S' (S.enone hn) hB r hP)
/-- return of what a name owns -/
theorem gs_retO (C : Cz E N vb wb G sc k X) (i : Nat) {x : Str} {o : O} {pos' : Pos} {P : Ps} (hi : Δ[i]? = some (.own o)) (hn : o.data.isSome = true) (hP : P.rf o Δ) (hv : vb[i]? = some true := by rfl) (hN : N[i]? = some x := by rfl) : GoS X E (.Return (some (.Name x pos')) pos) Δ P := fun σ B H S D0 M => by
  obtain ⟨h1, h2, h3⟩ := C.vis i x hv hN
  obtain ⟨l, el, hB, hE, r⟩ := S.own hi
  have hE' : E.H l = none := by
    rcases hE with z | ⟨⟨m, c, z⟩, _⟩
    · exact z
    · subst z; cases hn
  exact WS.of (ps_ret (pe_var (i := i) (by rw [C.hN]; exact hN) h1 h2 h3)) ⟨_, el, M.rf l σ B H o Δ (Ex.refl B) S hE' hB r hP⟩
theorem gs_if {P : Ps} {c : Expr} {s1 s2 : List Stmt} (hc : DoT X E c Δ fun b => (b = true → Go X E s1 Δ P) ∧ (b = false → Go X E s2 Δ P)) : GoS X E (.If c s1 s2 pos) Δ P := fun σ B H S D0 M => WS.of (ps_if (pt_W c) (pss_W s1) (pss_W s2)) (hc σ B H S _ fun B' H' b x S' ⟨h1, h2⟩ => by
  cases b with
  | true => exact h1 rfl σ B' H' S' D0 (M.later x.eb)
  | false => exact h2 rfl σ B' H' S' D0 (M.later x.eb))
theorem gs_ifE {P : Ps} {c : Expr} {s1 s2 : List Stmt} {x : Bool} (hc : EvT X E c Δ x) (h1 : x = true → Go X E s1 Δ P) (h2 : x = false → Go X E s2 Δ P) : GoS X E (.If c s1 s2 pos) Δ P := gs_if (DoT.of hc ⟨h1, h2⟩)
theorem gs_break {P : Ps} (h : P.bk Δ) : GoS X E (.Break pos) Δ P := fun σ B H S D0 M => WS.of ps_break (M.bk σ B H Δ (Ex.refl B) S h)
theorem gs_continue {P : Ps} (h : P.ct Δ) : GoS X E (.Continue pos) Δ P := fun σ B H S D0 M => WS.of ps_continue (M.ct σ B H Δ (Ex.refl B) S h)
theorem gs_pass {P : Ps} (h : P.nx Δ) : GoS X E (.Pass pos) Δ P := fun σ B H S D0 M => WS.of ps_pass (M.nx σ B H Δ (Ex.refl B) S h)
theorem gs_mono {P P' : Ps} {st : Stmt} (h : GoS X E st Δ P) (h1 : ∀ Δ', P.nx Δ' → P'.nx Δ') (h2 : ∀ d Δ', P.rt d Δ' → P'.rt d Δ') (h3 : ∀ o Δ', P.rf o Δ' → P'.rf o Δ') (h4 : ∀ Δ', P.bk Δ' → P'.bk Δ') (h5 : ∀ Δ', P.ct Δ' → P'.ct Δ') : GoS X E st Δ P' := fun σ B H S D0 M =>
  h σ B H S D0 ⟨fun a b c d e f g => M.nx a b c d e f (h1 _ g), fun a b c d e f g => M.bk a b c d e f (h4 _ g), fun a b c d e f g => M.ct a b c d e f (h5 _ g), fun v a b c d Δ' e f r g => M.rt v a b c d Δ' e f r (h2 _ _ g), fun l a b c d Δ' e f i j r g => M.rf l a b c d Δ' e f i j r (h3 _ _ g)⟩
/-- what holds between a statement and the rest -/
theorem gs_via {P : Ps} {st : Stmt} (J : List Slot → Prop) (h : GoS X E st Δ { nx := J, rt := P.rt, rf := P.rf, bk := P.bk, ct := P.ct }) (k : ∀ Δ', J Δ' → P.nx Δ') : GoS X E st Δ P := gs_mono h k (fun _ _ h => h) (fun _ _ h => h) (fun _ h => h) (fun _ h => h)
end
end Kn
/-! K7: loops, comprehensions. -/
namespace Kn
open PySem PySem.Spec PyProof.Rows L2
theorem WG.len {X : Cx} {tg : Expr} {v : V} {σ : L2.St} {H : Hp} {Q : L2.St → Hp → Prop} (h : σ.length = X.N.length → WG X tg v σ H Q) : WG X tg v σ H Q := fun pins s u I r => h I.len pins s u I r
section
variable {X : Cx} {E : En} {N G : List Str} {vb wb : List Bool} {sc : Scope} {k : Nat} {Δ Δ' : List Slot} {d d1 d2 d3 : D} {a b c e tg iter elt : Expr} {pos p apos : Pos} {j : Nat} {es : List Expr} {ds : List D} {vs ts : List Nat}

theorem gs_for (C : Cz E N vb wb G sc k X) {P : Ps} {body : List Stmt} (ts : List Nat)
    (hi : DoI X E tg iter Δ fun ds => ∃ J : List D → List Slot → Prop, J ds Δ ∧ (∀ x r Δ2, J (x :: r) Δ2 → Bd X E tg ts x Δ2 fun Δ3 => Go X E body Δ3 { nx := J r, rt := P.rt, rf := P.rf, bk := P.nx, ct := J r }) ∧ (∀ Δ2, J [] Δ2 → P.nx Δ2))
    (hs : ∀ x, foldedSetIterable iter X.env x = pure x := by intro _; rfl) : GoS X E (.For tg iter body [] pos) Δ P := fun σ B H S D0 M => by
  refine WS.of (ps_for C.pass C.calm (pi_W tg iter) (pg_W tg) (pss_W body) hs) (hi σ B H S _ fun I B1 H1 ds x1' S1 wk ⟨J, j0, jt, jd⟩ => ?_)
  have x1 : Ex B B1 := x1'.eb
  refine ⟨fun i m σ' H' => ∃ B' Δ', i ≤ ds.length ∧ m = ds.length - i ∧ Sees E Δ' σ' B' H' ∧ Ex B1 B' ∧ J (ds.drop i) Δ', ⟨ds.length, B1, Δ, Nat.zero_le _, rfl, S1, Ex.refl B1, j0⟩, ?_⟩
  rintro i m σ2 H2 ⟨B2, Δ2, hle, rfl, S2, x2, j2⟩
  by_cases hlt : i < ds.length
  · refine .inr ⟨wk.goes i B2 H2 hlt x2 S2.sub, fun σ' H' => ∃ B' Δ', Sees E Δ' σ' B' H' ∧ Ex B1 B' ∧ J (ds.drop (i + 1)) Δ', fun σ' H' ⟨B', Δ', S', x', j'⟩ => ⟨ds.length - (i + 1), by omega, B', Δ', hlt, rfl, S', x', j'⟩, fun v H3 y => ?_⟩
    obtain ⟨B3, d, pg, hd, rd⟩ := wk.yields i B2 H2 v H3 hlt x2 S2.sub y
    have ed : ds.drop i = d :: ds.drop (i + 1) := by
      rw [List.drop_eq_getElem_cons hlt]
      congr 1
      rw [List.getElem?_eq_getElem hlt] at hd
      exact Option.some.inj hd
    rw [ed] at j2
    refine WG.len fun hl => jt d _ Δ2 j2 σ2 B3 H3 v (S2.step pg) rd hl _ fun σ4 Δ4 S4 _ _ _ _ hgo => hgo σ4 B3 H3 S4 _ ?_
    have x3 : Ex B1 B3 := x2.trans pg.eb
    exact ⟨fun σ' B' H' Δ' x' S' q => ⟨B', Δ', S', x3.trans x', q⟩, fun σ' B' H' Δ' x' S' q => M.nx σ' B' H' Δ' ((x1.trans x3).trans x') S' q, fun σ' B' H' Δ' x' S' q => ⟨B', Δ', S', x3.trans x', q⟩,
      fun v σ' B' H' d Δ' x' S' r q => M.rt v σ' B' H' d Δ' ((x1.trans x3).trans x') S' r q, fun l σ' B' H' o Δ' x' S' hE hB r q => M.rf l σ' B' H' o Δ' ((x1.trans x3).trans x') S' hE hB r q⟩
  · have e : i = ds.length := by omega
    subst e
    rw [List.drop_length] at j2
    exact .inl ⟨wk.stops B2 H2 x2 S2.sub, M.nx σ2 B2 H2 Δ2 (x1.trans x2) S2 (jd Δ2 j2)⟩

theorem gs_while (C : Cz E N vb wb G sc k X) {P : Ps} {body : List Stmt} (J : Nat → List Slot → Prop) {m0 : Nat} (h0 : J m0 Δ)
    (hs : ∀ m Δ2, J m Δ2 → ∃ x, EvT X E c Δ2 x ∧ (x = true → Go X E body Δ2 { nx := fun Δ3 => ∃ m', m' < m ∧ J m' Δ3, rt := P.rt, rf := P.rf, bk := P.nx, ct := fun Δ3 => ∃ m', m' < m ∧ J m' Δ3 }) ∧ (x = false → P.nx Δ2)) : GoS X E (.While c body [] pos) Δ P := fun σ B H S D0 M => by
  refine WS.of (ps_while C.pass (pt_W c) (pss_W body)) ⟨fun m σ' H' => ∃ B' Δ', Sees E Δ' σ' B' H' ∧ Ex B B' ∧ J m Δ', ⟨m0, B, Δ, S, Ex.refl B, h0⟩, ?_⟩
  rintro m σ2 H2 ⟨B2, Δ2, S2, x2, j2⟩
  obtain ⟨x, ht, h1, h2⟩ := hs m Δ2 j2
  refine ht σ2 B2 H2 S2 _ fun B3 H3 p3 => ?_
  cases x with
  | true =>
    rw [if_pos rfl]
    refine ⟨fun σ' H' => ∃ B' Δ', Sees E Δ' σ' B' H' ∧ Ex B B' ∧ ∃ m', m' < m ∧ J m' Δ', fun σ' H' ⟨B', Δ', S', x', m', hm, q⟩ => ⟨m', hm, B', Δ', S', x', q⟩, ?_⟩
    have x3 : Ex B B3 := x2.trans p3.eb
    exact h1 rfl σ2 B3 H3 (S2.step p3) _ ⟨fun σ' B' H' Δ' x' S' q => ⟨B', Δ', S', x3.trans x', q⟩, fun σ' B' H' Δ' x' S' q => M.nx σ' B' H' Δ' (x3.trans x') S' q, fun σ' B' H' Δ' x' S' q => ⟨B', Δ', S', x3.trans x', q⟩,
      fun v σ' B' H' d Δ' x' S' r q => M.rt v σ' B' H' d Δ' (x3.trans x') S' r q, fun l σ' B' H' o Δ' x' S' hE hB r q => M.rf l σ' B' H' o Δ' (x3.trans x') S' hE hB r q⟩
  | false =>
    rw [if_neg Bool.false_ne_true]
    exact M.nx σ2 B3 H3 Δ2 (x2.trans p3.eb) (S2.step p3) (h2 rfl)

/-! ### comprehensions -/
/-- no slot of vs owns -/
def noOwn (Δ : List Slot) : List Nat → Prop
  | [] => True
  | v :: vs => (match Δ[v]? with | some (.own _) => False | _ => True) ∧ noOwn Δ vs
theorem noOwn.at {Δ : List Slot} : ∀ {vs : List Nat}, noOwn Δ vs → ∀ i o, Δ[i]? = some (Slot.own o) → i ∉ vs
  | [], _, _, _, _ => by simp
  | v :: vs, h, i, o, e => by
    obtain ⟨h1, h2⟩ := h
    intro hm
    rcases List.mem_cons.mp hm with z | z
    · subst z
      rw [e] at h1
      exact h1
    · exact h2.at i o e z
theorem wipeD_out {Δ : List Slot} : ∀ {vs : List Nat} {i : Nat}, i ∉ vs → (wipeD Δ vs)[i]? = Δ[i]?
  | [], _, _ => rfl
  | v :: vs, i, h => by
    have h1 : v ≠ i := fun e => h (by rw [e]; exact List.mem_cons_self)
    have h2 : i ∉ vs := fun e => h (List.mem_cons_of_mem _ e)
    show ((wipeD Δ vs).set v .un)[i]? = _
    rw [List.getElem?_set_ne h1]
    exact wipeD_out h2
theorem wipe_out {σ : L2.St} : ∀ {vs : List Nat} {i : Nat}, i ∉ vs → (L2.wipe σ vs)[i]? = σ[i]?
  | [], _, _ => rfl
  | v :: vs, i, h => by
    have h1 : v ≠ i := fun e => h (by rw [e]; exact List.mem_cons_self)
    have h2 : i ∉ vs := fun e => h (List.mem_cons_of_mem _ e)
    show ((L2.wipe σ vs).set v none)[i]? = _
    rw [List.getElem?_set_ne h1]
    exact wipe_out h2
theorem wipe_in {σ : L2.St} : ∀ {vs : List Nat} {i : Nat}, i ∈ vs → i < σ.length → (L2.wipe σ vs)[i]? = some none
  | v :: vs, i, h, hl => by
    show ((L2.wipe σ vs).set v none)[i]? = _
    by_cases e : v = i
    · subst e
      exact List.getElem?_set_self (by rw [wipe_length]; exact hl)
    · rw [List.getElem?_set_ne e]
      rcases List.mem_cons.mp h with z | z
      · exact absurd z.symm e
      · exact wipe_in z hl
/-- the block's slots but its own stand as they stood -/
theorem wipe_back {σ σ2 : L2.St} {vs : List Nat} (hl : σ2.length = (L2.wipe σ vs).length) (h : ∀ i, i ∉ vs → σ2[i]? = (L2.wipe σ vs)[i]?) : L2.wipe σ2 vs = L2.wipe σ vs := by
  rw [wipe_length] at hl
  apply List.ext_getElem?
  intro i
  by_cases hi : i ∈ vs
  · by_cases hl2 : i < σ.length
    · rw [wipe_in hi hl2, wipe_in hi (by rw [hl]; exact hl2)]
    · rw [List.getElem?_eq_none (by rw [wipe_length]; omega), List.getElem?_eq_none (by rw [wipe_length]; omega)]
  · rw [wipe_out hi, h i hi]
/-- out of a block -/
theorem Sees.unblock {E : En} {Δ Δ3 : List Slot} {σ σ2 : L2.St} {B H B' H' : Hp} (S : Sees E Δ σ B H) (S3 : Sees E Δ3 σ2 B' H') (x : Ex B B') (no : noOwn Δ vs) (h1 : ∀ i, i ∉ vs → Δ3[i]? = (wipeD Δ vs)[i]?) (h2 : ∀ i, i ∉ vs → σ2[i]? = (L2.wipe σ vs)[i]?) : Sees E Δ σ B' H' := by
  refine ⟨S3.sub, S3.rn, fun i s hs => ?_, S.ap⟩
  have q := S.sl i s hs
  cases s with
  | un => trivial
  | d y => obtain ⟨v, e, r⟩ := q; exact ⟨v, e, r.mono x⟩
  | own o =>
    have hi := no.at i o hs
    obtain ⟨l, e, n, m, r⟩ := S3.own ((h1 i hi).trans ((wipeD_out hi).trans hs))
    exact ⟨l, ((h2 i hi).trans (wipe_out hi)).symm.trans e, n, m, r⟩
def Blk (X : Cx) (scope : Scope) (Y : Cx) : Prop := ∃ (s : Shared) (H : Hp) (C : Addr) (cl : List (Str × Addr)) (fp : List Addr), Y = X.blk s H scope (compEnvC scope cl C X.env) fp
/-- readings over all blocks -/
def bE (X : Cx) (scope : Scope) (e : Expr) : TE := fun σ H Q => ∀ Y, Blk X scope Y → WE Y e σ H Q
def bG (X : Cx) (scope : Scope) (tg : Expr) : TG := fun v σ H Q => ∀ Y, Blk X scope Y → WG Y tg v σ H Q
def bT (X : Cx) (scope : Scope) (e : Expr) : TT := fun σ H Q => ∀ Y, Blk X scope Y → WT Y e σ H Q
theorem bE_ok {scope : Scope} (e : Expr) (s : Shared) (H : Hp) (C : Addr) (cl : List (Str × Addr)) (fp : List Addr) : PE (X.blk s H scope (compEnvC scope cl C X.env) fp) e (bE X scope e) := ⟨fun pins s' σ H' Q I h => h _ ⟨s, H, C, cl, fp, rfl⟩ pins s' I⟩
theorem bG_ok {scope : Scope} (e : Expr) (s : Shared) (H : Hp) (C : Addr) (cl : List (Str × Addr)) (fp : List Addr) : PG (X.blk s H scope (compEnvC scope cl C X.env) fp) e (bG X scope e) := ⟨fun pins s' σ H' v u Q I r h => h _ ⟨s, H, C, cl, fp, rfl⟩ pins s' u I r⟩
theorem bT_ok {scope : Scope} (e : Expr) (s : Shared) (H : Hp) (C : Addr) (cl : List (Str × Addr)) (fp : List Addr) : PT (X.blk s H scope (compEnvC scope cl C X.env) fp) e (bT X scope e) := ⟨fun pins s' σ H' Q I h => h _ ⟨s, H, C, cl, fp, rfl⟩ pins s' I⟩
/-- a clause's tests in a block: none, or one -/
inductive Ifs where
  | no | one (c : Expr)
def Ifs.exs : Ifs → List Expr
  | .no => []
  | .one c => [c]
def Ifs.tt (X : Cx) (scope : Scope) : Ifs → TT
  | .no => tYes
  | .one c => bT X scope c
theorem Ifs.ok {scope : Scope} (f : Ifs) (s : Shared) (H : Hp) (C : Addr) (cl : List (Str × Addr)) (fp : List Addr) : PTs (X.blk s H scope (compEnvC scope cl C X.env) fp) f.exs (f.tt X scope) := by
  cases f with
  | no => exact pts_nil
  | one c => exact pts_one (bT_ok c s H C cl fp)
def DoIf (Y : Cx) (E : En) (f : Ifs) (Δ : List Slot) (P : Bool → Prop) : Prop := match f with
  | .no => P true
  | .one c => DoT Y E c Δ P
/-- the turns of a comprehension: what is left, what is made so far -/
def LcT (X : Cx) (E : En) (scope : Scope) (tg : Expr) (f : Ifs) (elt : Expr) (vs : List Nat) (Δ : List Slot) (J : List D → List D → Prop) : Prop :=
  ∀ x r acc, J (x :: r) acc → ∃ Δ3, (∀ Y, Blk X scope Y → Bd Y E tg vs x (wipeD Δ vs) (fun Δ' => Δ' = Δ3)) ∧
    ∀ Y, Blk X scope Y → DoIf Y E f Δ3 fun b => (b = true → ∀ Y, Blk X scope Y → Do Y E elt Δ3 fun y => acc.length < 1000000 ∧ J r (acc ++ [y])) ∧ (b = false → J r acc)
theorem sz_lt {n : Nat} (h : n < 1000000) : n < sizeLine := Nat.lt_of_lt_of_le h (by decide)
/-- the reading of a comprehension -/
theorem lc_read {scope : Scope} {f : Ifs} {P : O → Prop} {J : List D → List D → Prop} {I : It} {σ : L2.St} {B0 H0 B1 H1 : Hp} {Q : VK} (S0 : Sees E Δ σ B0 H0) (x1 : Pp Δ σ B0 H0 B1 H1) (S1 : Sees E Δ σ B1 H1) (wk : Wk E.K I B1 ds) (j0 : J ds []) (jt : LcT X E scope tg f elt vs Δ J) (jd : ∀ acc, J [] acc → P (.lst acc)) (no : noOwn Δ vs) (hlen : σ.length = X.N.length)
    (q : ∀ l B' H' o, Pp Δ σ B0 H0 B' H' → Sees E Δ σ B' H' → H0 l = none → B' l = none → OHas E.K B' H' l o → P o → Q (.ref l) H') :
    ∀ D, H1 D = none → ∃ W : Nat → Nat → Hp → Prop, (∃ m, W 0 m (upd H1 D (.lst []))) ∧ ∀ i m H, W i m H →
      (I.stop i H ∧ Q (.ref D) H) ∨ (I.go i H ∧ ∃ Nx : Hp → Prop, (∀ H', Nx H' → ∃ m', m' < m ∧ W (i + 1) m' H') ∧ ∀ x H', I.yld i H x H' → bG X scope tg x (L2.wipe σ vs) H' fun σ2 H2 => L2.wipe σ2 vs = L2.wipe σ vs ∧ (f.tt X scope) σ2 H2 fun b H3 =>
        if b = true then bE X scope elt σ2 H3 fun y H4 => ∃ acc, H4 D = some (.lst acc) ∧ acc.length < sizeLine ∧ Nx (upd H4 D (.lst (acc ++ [y]))) else Nx H3) := by
  intro l nl
  have nl0 : H0 l = none := by
    cases h : H0 l with
    | none => rfl
    | some u => exact absurd nl (x1.th l (by rw [h]; simp))
  have nlB : B1 l = none := S1.sub.free nl
  have nlE : E.H l = none := S1.enone nl
  have nlO := S1.noone nl
  -- from B1 H1 to B H, the list at l apart
  let W := fun (i : Nat) (H : Hp) => ∃ B acc ws, Pp Δ σ B1 H1 B H ∧ Sees E Δ σ B H ∧ B l = none ∧ H l = some (.lst ws) ∧ DnL E.K B ws acc ∧ i ≤ ds.length ∧ J (ds.drop i) acc
  have putS : ∀ {B H : Hp} {u : HO}, Sees E Δ σ B H → B l = none → H l ≠ none → Sees E Δ σ B (upd H l u) := fun {B H u} S nb hl => by
    refine ⟨S.sub.put nb, ⟨S.rn.eb, fun a x n q => ?_, fun a q => ?_, S.rn.fr⟩, fun i s hs => ?_, S.ap⟩
    · have na : a ≠ l := by rintro rfl; rw [nlE] at q; cases q
      rw [upd_ne na]; exact S.rn.eh a x n q
    · by_cases na : a = l
      · subst na; rw [upd_same]; simp
      · rw [upd_ne na]; exact S.rn.th a q
    · have q := S.sl i s hs
      cases s with
      | un => trivial
      | d y => exact q
      | own o =>
        obtain ⟨l2, e2, n2, m2, r2⟩ := q
        refine ⟨l2, e2, n2, m2, r2.mono (Ex.refl B) (upd_ne ?_)⟩
        rintro rfl
        exact nlO i o hs e2
  refine ⟨fun i m H => m = ds.length - i ∧ W i H, ⟨ds.length, rfl, B1, [], [], .of (Pg.apart S1.sub nl), S1.step (Pg.apart S1.sub nl), nlB, upd_same, .nil, Nat.zero_le _, j0⟩, ?_⟩
  rintro i m H2 ⟨rfl, B2, acc, ws, x2, S2, nb, hl, rl, hle, j2⟩
  by_cases hlt : i < ds.length
  · refine .inr ⟨wk.goes i B2 H2 hlt x2.eb S2.sub, W (i + 1), fun H' h => ⟨ds.length - (i + 1), by omega, rfl, h⟩, fun v H3 y => ?_⟩
    obtain ⟨B3, d, pg, hd, rd⟩ := wk.yields i B2 H2 v H3 hlt x2.eb S2.sub y
    have ed : ds.drop i = d :: ds.drop (i + 1) := by
      rw [List.drop_eq_getElem_cons hlt]
      congr 1
      rw [List.getElem?_eq_getElem hlt] at hd
      exact Option.some.inj hd
    rw [ed] at j2
    obtain ⟨Δ3, hb, ht⟩ := jt d _ acc j2
    have nb3 : B3 l = none := pg.rn.fr l (by rw [hl]; simp) nb
    have hl3 : H3 l = some (.lst ws) := pg.eh l _ hl
    have S3 : Sees E Δ σ B3 H3 := S2.step pg
    intro Y hY
    refine hb Y hY (L2.wipe σ vs) B3 H3 v (S3.wipe vs) rd ?_ _ fun σ4 Δ4 S4 k1 k2 k3 k4 e4 => ?_
    · obtain ⟨_, _, _, _, _, rfl⟩ := hY
      show _ = X.N.length
      rw [wipe_length]; exact hlen
    subst e4
    refine ⟨wipe_back k3 k2, ?_⟩
    have far : ∀ (i : Nat) (m : Addr) (c : PoolSt), Δ4[i]? = some (Slot.own (.pool m c)) → i ∉ vs := fun i m c hi hv => by
      have z := k4 i _ hi
      have hle : ∀ {us : List Nat}, i ∈ us → (wipeD Δ us)[i]? = some (Slot.own (.pool m c)) → False := fun {us} => by
        induction us with
        | nil => intro h; simp at h
        | cons u us ih =>
          intro h e
          rcases getElem?_set_cases (l := wipeD Δ us) (i := u) (a := Slot.un) (show ((wipeD Δ us).set u Slot.un)[i]? = _ from e) with ⟨_, z⟩ | ⟨ne, z⟩
          · cases z
          · rcases List.mem_cons.mp h with q | q
            · exact ne q.symm
            · exact ih q z
      exact hle hv z
    -- what a block leaves of the outer state
    have back : ∀ {B4 H4 : Hp}, Pp Δ4 σ4 B3 H3 B4 H4 → Sees E Δ4 σ4 B4 H4 → Sees E Δ σ B4 H4 ∧ Pp Δ σ B1 H1 B4 H4 ∧ B4 l = none ∧ H4 l = some (.lst ws) := fun {B4 H4} x4 S5 => by
      refine ⟨S3.unblock S5 x4.eb no k1 k2, ?_, x4.fr l (by rw [hl3]; simp) nb3, x4.eh l _ (fun i m c hi ei => ?_) hl3⟩
      · refine (x2.trans (.of pg)).trans ⟨x4.eb, fun a o n h => x4.eh a o (fun i m c hi ei => ?_) h, x4.th, x4.fr⟩
        have hv := far i m c hi
        exact n i m c (((k1 i hv).trans (wipeD_out hv)).symm.trans hi) (((k2 i hv).trans (wipe_out hv)).symm.trans ei)
      · have hv := far i m c hi
        exact nlO i _ (((k1 i hv).trans (wipeD_out hv)).symm.trans hi) (((k2 i hv).trans (wipe_out hv)).symm.trans ei)
    have fin : ∀ {B4 H4 : Hp}, Pp Δ4 σ4 B3 H3 B4 H4 → Sees E Δ4 σ4 B4 H4 → (∀ Y, Blk X scope Y → Do Y E elt Δ4 fun y => acc.length < 1000000 ∧ J (ds.drop (i + 1)) (acc ++ [y])) → bE X scope elt σ4 H4 fun y H5 => ∃ acc, H5 l = some (.lst acc) ∧ acc.length < sizeLine ∧ W (i + 1) (upd H5 l (.lst (acc ++ [y]))) := fun {B4 H4} x4 S4' h1 Y2 hY2 => h1 Y2 hY2 σ4 B4 H4 S4' _ fun v5 B5 H5 d5 x5 S5 r5 ⟨hz, hJ⟩ => by
      obtain ⟨S6, x6, nb6, hl6⟩ := back (x4.trans x5) S5
      exact ⟨ws, hl6, sz_lt (by rw [rl.length]; exact hz), B5, acc ++ [d5], ws ++ [v5], x6.put nl, putS S6 nb6 (by rw [hl6]; simp), nb6, upd_same, (rl.mono (pg.eb.trans (x4.trans x5).eb)).snoc r5, hlt, hJ⟩
    cases f with
    | no =>
      have h0 := ht Y hY
      simp only [DoIf] at h0
      refine iteT (A := bE X scope elt σ4 H3 fun y H5 => ∃ acc, H5 l = some (.lst acc) ∧ acc.length < sizeLine ∧ W (i + 1) (upd H5 l (.lst (acc ++ [y])))) (B := W (i + 1) H3) (fin ⟨Ex.refl _, fun _ _ _ h => h, fun _ h => h, fun _ _ h => h⟩ S4 (h0.1 trivial))
    | one c =>
      intro Y2 hY2
      have h0 := ht Y2 hY2
      simp only [DoIf] at h0
      refine h0 σ4 B3 H3 S4 _ fun B5 H5 b x5 S5 ⟨g1, g2⟩ => ?_
      cases b with
      | true =>
        rw [if_pos rfl]
        exact fin x5 S5 (g1 rfl)
      | false =>
        rw [if_neg Bool.false_ne_true]
        obtain ⟨S6, x6, nb6, hl6⟩ := back x5 S5
        exact ⟨B5, acc, ws, x6, S6, nb6, hl6, rl.mono (pg.eb.trans x5.eb), hlt, g2 rfl⟩
  · have e : i = ds.length := by omega
    subst e
    rw [List.drop_length] at j2
    exact .inl ⟨wk.stops B2 H2 x2.eb S2.sub, q l B2 H2 (.lst acc) (x1.trans x2) S2 nl0 nb ⟨ws, hl, rl⟩ (jd acc j2)⟩
/-- what a block knows -/
structure BkC (N : List Str) (sc scope : Scope) (own : List (Str × Nat)) (vb wb : List Bool) (G : List Str) : Prop where
  ok : BlkOk N sc scope own
  vis : ∀ (i : Nat) (x : Str), vb[i]? = some true → N[i]? = some x → Vis (relS scope sc) x ∧ (x == ("__debug__" : Str)) = false ∧ (x == ("__classdict__" : Str)) = false
  loc : ∀ (i : Nat) (x : Str), wb[i]? = some true → N[i]? = some x → Loc (relS scope sc) x ∧ ((scope.names.lookup x == some .cell) = true ∨ (relS scope sc).names.lookup x = some .local)
  gl : ∀ (i : Nat) (x : Str), G[i]? = some x → (relS scope sc).names.lookup x = some .globalImplicit ∧ (x == ("__debug__" : Str)) = false
theorem Cz.blk (C : Cz E N vb wb G sc k X) {scope : Scope} {own : List (Str × Nat)} {vb' wb' : List Bool} {G' : List Str} (b : BkC N sc scope own vb' wb' G') {Y : Cx} (hY : Blk X scope Y) : Cz E N vb' wb' G' (relS scope sc) k Y := by
  obtain ⟨s, H, cc, cl, fp, rfl⟩ := hY
  have e : (compEnvC scope cl cc X.env).scope = relS scope sc := by rw [← C.hsc]; rfl
  exact ⟨e, C.hP, C.hw, C.hK, C.hm, C.hb, C.hN, C.nd, C.calm, PassesOwn.never, C.room, fun i x h1 h2 => by
    show Vis (compEnvC scope cl cc X.env).scope x ∧ _
    rw [e]; exact b.vis i x h1 h2, fun i x h1 h2 => by
    show Loc (compEnvC scope cl cc X.env).scope x ∧ (_ ∨ (compEnvC scope cl cc X.env).scope.names.lookup x = some .local)
    rw [e]; exact b.loc i x h1 h2, fun i x h => by
    refine ⟨?_, (b.gl i x h).2⟩
    show (compEnvC scope cl cc X.env).scope.names.lookup x = some .globalImplicit
    rw [e]; exact (b.gl i x h).1⟩
/-- [elt for tg in iter ..] -/
theorem df_lc (C : Cz E N vb wb G sc k X) {scope : Scope} {own : List (Str × Nat)} {P : O → Prop} (f : Ifs) (ok : BlkOk N sc scope own) (no : noOwn Δ (own.map (·.2)))
    (hi : DoI X E tg iter Δ fun ds => ∃ J : List D → List D → Prop, J ds [] ∧ LcT X E scope tg f elt (own.map (·.2)) Δ J ∧ ∀ acc, J [] acc → P (.lst acc)) (hs : ∀ x, foldedSetIterable iter X.env x = pure x := by intro _; rfl) :
    DoF X E (.ListComp elt [⟨tg, iter, f.exs, 0⟩] scope pos) Δ P := fun σ B H S Q q => by
  intro pins s I
  have hl : σ.length = X.N.length := I.len
  refine (WE.of (pe_lc (own := own) C.calm (by rw [C.hN]; exact C.nd) (pi_W tg iter) (by rw [C.hN, C.hsc]; exact ok) (bG_ok tg) (f.ok (X := X) (scope := scope)) (bE_ok elt) hs) ?_ : WE X _ σ H Q) pins s I
  exact hi σ B H S _ fun It B1 H1 ds x1 S1 wk ⟨J, j0, jt, jd⟩ => lc_read S x1 S1 wk j0 jt jd no hl q
/-- name = [elt for tg in iter ..] on one line, the name no cell -/
theorem gs_lc (C : Cz E N vb wb G sc k X) (i : Nat) {x : Str} {py spos : Pos} {scope : Scope} {own : List (Str × Nat)} {P : Ps} (f : Ifs) (ok : BlkOk N sc scope own) (no : noOwn Δ (own.map (·.2)))
    (hi : DoI X E tg iter Δ fun ds => ∃ J : List D → List D → Prop, J ds [] ∧ LcT X E scope tg f elt (own.map (·.2)) Δ J ∧ ∀ acc, J [] acc → P.nx (Δ.set i (.own (.lst acc))))
    (hN : N[i]? = some x := by rfl) (hsc : sc.names.lookup x = some .local := by rfl) (hk : sc.kind = .function := by rfl) (hline : (py.line == pos.line) = true := by rfl) (ha : (scope.names.any fun (n, k) => n == x && (k == .local || k == .cell)) = false := by first | rfl | decide +kernel)
    (hs : ∀ x, foldedSetIterable iter X.env x = pure x := by intro _; rfl) : GoS X E (.Assign [.Name x py] (.ListComp elt [⟨tg, iter, f.exs, 0⟩] scope pos) spos) Δ P := fun σ B H S D0 M => by
  intro pins s I
  have hl : σ.length = X.N.length := I.len
  have hN' : X.N[i]? = some x := by rw [C.hN]; exact hN
  have hil : i < σ.length := by rw [hl]; exact (List.getElem?_eq_some_iff.mp hN').1
  have hloc : X.env.scope.names.lookup x = some .local := by rw [C.hsc]; exact hsc
  refine (WS.of (ps_setLc (i := i) (own := own) C.calm (by rw [C.hN]; exact C.nd) hN' hloc (sw_true (by rw [C.hsc]; exact hk) hloc hline ha) (pi_W tg iter) (by rw [C.hN, C.hsc]; exact ok) (bG_ok tg) (f.ok (X := X) (scope := scope)) (bE_ok elt) hs) ?_ : WS X _ D0 σ H) pins s I
  exact hi σ B H S _ fun It B1 H1 ds x1 S1 wk ⟨J, j0, jt, jd⟩ => lc_read (P := fun o => P.nx (Δ.set i (.own o))) (Q := fun x H1 => gName i x σ H1 D0.nx) S x1 S1 wk j0 jt jd no hl fun l B' H' o x' S' hn hB r hP => M.nx _ B' H' _ x'.eb (S'.setO hil hB (S.enone hn) r (S.noone hn)) hP
end
end Kn
/-! K8: a def's body; what names own, changed; texts. -/
namespace Kn
open PySem PySem.Spec PyProof.Rows L2
section
variable {X : Cx} {E : En} {N G : List Str} {vb wb : List Bool} {sc : Scope} {k : Nat} {Δ Δ' : List Slot} {d d1 d2 d3 : D} {a b c e tg iter elt : Expr} {pos p apos : Pos} {j : Nat} {es : List Expr} {ds : List D} {vs ts : List Nat}
/-! ### where no pool is -/
def noPool : List Slot → Prop
  | [] => True
  | .own (.pool _ _) :: _ => False
  | _ :: r => noPool r
theorem noPool.at : ∀ {Δ : List Slot}, noPool Δ → ∀ (i : Nat) (m : Addr) (c : PoolSt), Δ[i]? ≠ some (Slot.own (.pool m c))
  | [], _, _, _, _ => by simp
  | s :: r, h, i, m, c => by
    have h2 : noPool r := by
      cases s with
      | un => exact h
      | d x => exact h
      | own o => cases o <;> first | exact h | exact h.elim
    cases i with
    | zero =>
      intro e
      simp at e
      subst e
      exact h
    | succ i => simpa using h2.at i m c
theorem Pp.pg {σ : L2.St} {B H B' H' : Hp} (p : Pp Δ σ B H B' H') (n : noPool Δ) (e : Ex B' H') : Pg B H B' H' := ⟨⟨p.eb, fun a o _ h => p.eh a o (fun i m c hi => absurd hi (n.at i m c)) h, p.th, p.fr⟩, e⟩
theorem Do.ev (h : Do X E e Δ (fun d' => d' = d)) (n : noPool Δ) : Ev X E e Δ d := fun σ B H S Q q => h σ B H S Q fun v B' H' d' x S' r hd => by
  subst hd
  exact q v B' H' (x.pg n S'.sub) r
theorem DoF.ev {o : O} (h : DoF X E e Δ (fun o' => o' = o)) (n : noPool Δ) : EvF X E e Δ o := fun σ B H S Q q => h σ B H S Q fun l B' H' o' x S' hl hB r hd => by
  subst hd
  exact q l B' H' (x.pg n S'.sub) hl hB r
theorem DoT.ev {x : Bool} (h : DoT X E e Δ (fun y => y = x)) (n : noPool Δ) : EvT X E e Δ x := fun σ B H S Q q => h σ B H S Q fun B' H' y z S' hy => by
  subst hy
  exact q B' H' (z.pg n S'.sub)

/-! ### a def's body -/
def startD (N : List Str) (ds : List D) : List Slot := ds.map .d ++ List.replicate (N.length - ds.length) .un
/-- what is read off a def's scope -/
structure DfC (N : List Str) (sc : Scope) (vb wb : List Bool) (G : List Str) : Prop where
  vis : ∀ (i : Nat) (x : Str), vb[i]? = some true → N[i]? = some x → Vis sc x ∧ (x == ("__debug__" : Str)) = false ∧ (x == ("__classdict__" : Str)) = false
  loc : ∀ (i : Nat) (x : Str), wb[i]? = some true → N[i]? = some x → L2.Loc sc x
  gl : ∀ (i : Nat) (x : Str), G[i]? = some x → sc.names.lookup x = some .globalImplicit ∧ (x == ("__debug__" : Str)) = false
theorem startD_sees {P : Program} {w : World} {K : PySem.W.Frag} {mg : Str → Option Value} {base : Heap} {W : List Addr} {B H : Hp} {vs : List V} (e : Ex B H) (r : DnL K B vs ds) : Sees ⟨P, w, K, mg, base, W, B, H⟩ (startD N ds) (L2.start N vs) B H := by
  refine ⟨e, Rn.refl, fun i s hs => ?_, fun i j o p l h1 => ?_⟩
  · unfold startD at hs
    by_cases hi : i < ds.length
    · rw [List.getElem?_append_left (by simpa using hi), List.getElem?_map] at hs
      cases hd : ds[i]? with
      | none => rw [hd] at hs; cases hs
      | some x =>
        rw [hd] at hs
        cases hs
        obtain ⟨v, hv, rv⟩ := r.get hd
        refine ⟨v, ?_, rv⟩
        unfold L2.start
        rw [List.getElem?_append_left (by rw [List.length_map, r.length]; exact hi), List.getElem?_map, hv]
        rfl
    · rw [List.getElem?_append_right (by simpa using hi), List.getElem?_replicate] at hs
      split at hs
      · cases hs; trivial
      · cases hs
  · exfalso
    unfold startD at h1
    by_cases hi : i < ds.length
    · rw [List.getElem?_append_left (by simpa using hi), List.getElem?_map] at h1
      cases hd : ds[i]? with
      | none => rw [hd] at h1; cases h1
      | some x => rw [hd] at h1; cases h1
    · rw [List.getElem?_append_right (by simpa using hi), List.getElem?_replicate] at h1
      split at h1
      · cases h1
      · cases h1
section
variable {P : Program} {w : World} {K : PySem.W.Frag} {mg : Str → Option Value} {base : Heap} {x qual : Str} {st : Stmt} {f : Addr} {fd : FuncData} {ps : List Str}
theorem cz_of (S : FnScope N ps (defScope st)) (dc : DfC N (defScope st) vb wb G) {cdv : Value} {A : Around} {outer : List Env} {s : Shared} {H : Hp} {E0 : XK} {W : List Addr} {B H2 : Hp} (hr : Room k (A.deeper (envOfC qual (defScope st) s.heap.objs.size f cdv))) :
    Cz ⟨P, w, K, mg, base, W, B, H2⟩ N vb wb G (defScope st) k (cxOf CX0 P w K mg base N qual (defScope st) f cdv A outer s H E0).nox :=
  ⟨rfl, rfl, rfl, rfl, rfl, rfl, rfl, S.nd, rfl, PassesOwn.never, hr, dc.vis, fun i x h1 h2 => ⟨dc.loc i x h1 h2, .inl rfl⟩, dc.gl⟩
theorem ok_R {R : List D → D → Prop} (F : Fun K x qual st f fd) (S : FnScope N ps (defScope st)) (dc : DfC N (defScope st) vb wb G) (len : ∀ ds d, R ds d → ds.length = ps.length)
    (body : ∀ X B H ds d, Cz ⟨P, w, K, mg, base, [], B, H⟩ N vb wb G (defScope st) k X → R ds d → Go X ⟨P, w, K, mg, base, [], B, H⟩ (defBody st) (startD N ds) { nx := fun _ => d = .non, rt := fun d' _ => d' = d }) : FnOk P w K mg base CX0 (k + 1) f fd ps (spR K R) := by
  refine F.ok S (fun vs H Q E h => ?_) fun cdv A outer s H vs Q E0 hr h => ?_
  · obtain ⟨B, ds, d, _, r, hR, _⟩ := h
    rw [r.length]; exact len ds d hR
  · obtain ⟨B, ds, d, hs, r, hR, q⟩ := h
    refine ⟨_, pss_W _, body _ B H ds d (cz_of S dc hr) hR _ B H (startD_sees hs r) _ ⟨fun σ' B' H' Δ' x S' h => ?_, fun _ _ _ _ _ _ h => h.elim, fun _ _ _ _ _ _ h => h.elim, fun v σ' B' H' d' Δ' x S' rv h => ?_, fun _ _ _ _ _ _ _ _ _ _ _ h => h.elim⟩⟩
    · subst h; exact q _ B' H' ⟨S'.rn, S'.sub⟩ .non
    · subst h; exact q v B' H' ⟨S'.rn, S'.sub⟩ rv
theorem ok_L {R : List D → O → Prop} (F : Fun K x qual st f fd) (S : FnScope N ps (defScope st)) (dc : DfC N (defScope st) vb wb G) (len : ∀ ds d, R ds d → ds.length = ps.length)
    (body : ∀ X B H ds o, Cz ⟨P, w, K, mg, base, [], B, H⟩ N vb wb G (defScope st) k X → R ds o → Go X ⟨P, w, K, mg, base, [], B, H⟩ (defBody st) (startD N ds) { nx := fun _ => False, rf := fun o' _ => o' = o }) : FnOk P w K mg base CX0 (k + 1) f fd ps (spL K R) := by
  refine F.ok S (fun vs H Q E h => ?_) fun cdv A outer s H vs Q E0 hr h => ?_
  · obtain ⟨B, ds, d, _, r, hR, _⟩ := h
    rw [r.length]; exact len ds d hR
  · obtain ⟨B, ds, o, hs, r, hR, q⟩ := h
    refine ⟨_, pss_W _, body _ B H ds o (cz_of S dc hr) hR _ B H (startD_sees hs r) _ ⟨fun σ' B' H' Δ' x S' h => h.elim, fun _ _ _ _ _ _ h => h.elim, fun _ _ _ _ _ _ h => h.elim, fun v σ' B' H' d' Δ' x S' rv h => h.elim, fun l σ' B' H' o' Δ' x S' hE hB r h => ?_⟩⟩
    subst h; exact q l B' H' ⟨S'.rn, S'.sub⟩ hE hB r
theorem ok_N {pre : List D → Prop} {post : List D → D → Prop} (F : Fun K x qual st f fd) (S : FnScope N ps (defScope st)) (dc : DfC N (defScope st) vb wb G) (len : ∀ ds, pre ds → ds.length = ps.length)
    (body : ∀ X B H ds, Cz ⟨P, w, K, mg, base, [], B, H⟩ N vb wb G (defScope st) k X → pre ds → Go X ⟨P, w, K, mg, base, [], B, H⟩ (defBody st) (startD N ds) { nx := fun _ => post ds .non, rt := fun d _ => post ds d }) : FnOk P w K mg base CX0 (k + 1) f fd ps (spN K pre post) := by
  refine F.ok S (fun vs H Q E h => ?_) fun cdv A outer s H vs Q E0 hr h => ?_
  · obtain ⟨B, ds, _, r, hR, _⟩ := h
    rw [r.length]; exact len ds hR
  · obtain ⟨B, ds, hs, r, hR, q⟩ := h
    exact ⟨_, pss_W _, body _ B H ds (cz_of S dc hr) hR _ B H (startD_sees hs r) _ ⟨fun σ' B' H' Δ' x S' h => q _ B' H' _ h ⟨S'.rn, S'.sub⟩ .non, fun _ _ _ _ _ _ h => h.elim, fun _ _ _ _ _ _ h => h.elim, fun v σ' B' H' d' Δ' x S' rv h => q v B' H' d' h ⟨S'.rn, S'.sub⟩ rv, fun _ _ _ _ _ _ _ _ _ _ _ h => h.elim⟩⟩
theorem ok_M {pre : List D → Prop} {post : List D → O → Prop} (F : Fun K x qual st f fd) (S : FnScope N ps (defScope st)) (dc : DfC N (defScope st) vb wb G) (len : ∀ ds, pre ds → ds.length = ps.length)
    (body : ∀ X B H ds, Cz ⟨P, w, K, mg, base, [], B, H⟩ N vb wb G (defScope st) k X → pre ds → Go X ⟨P, w, K, mg, base, [], B, H⟩ (defBody st) (startD N ds) { nx := fun _ => False, rf := fun o _ => post ds o }) : FnOk P w K mg base CX0 (k + 1) f fd ps (spM K pre post) := by
  refine F.ok S (fun vs H Q E h => ?_) fun cdv A outer s H vs Q E0 hr h => ?_
  · obtain ⟨B, ds, _, r, hR, _⟩ := h
    rw [r.length]; exact len ds hR
  · obtain ⟨B, ds, hs, r, hR, q⟩ := h
    exact ⟨_, pss_W _, body _ B H ds (cz_of S dc hr) hR _ B H (startD_sees hs r) _ ⟨fun σ' B' H' Δ' x S' h => h.elim, fun _ _ _ _ _ _ h => h.elim, fun _ _ _ _ _ _ h => h.elim, fun v σ' B' H' d' Δ' x S' rv h => h.elim, fun l σ' B' H' o' Δ' x S' hE hB r h => q l B' H' o' h ⟨S'.rn, S'.sub⟩ hE hB r⟩⟩
/-- the pool, then data -/
def startP (N : List Str) (l c : Addr) (ds : List D) : List Slot := .own (.pool l (.some c)) :: (ds.map .d ++ List.replicate (N.length - (ds.length + 1)) .un)
theorem startP_sees {l c : Addr} {B H : Hp} {vs : List V} (e : Ex B H) (hl : B l = none) (ho : OHas K B H l (.pool l (.some c))) (r : DnL K B vs ds) : Sees ⟨P, w, K, mg, base, [l], B, H⟩ (startP N l c ds) (L2.start N (.ref l :: vs)) B H := by
  have own : ∀ {i : Nat} {o : O}, (startP N l c ds)[i]? = some (.own o) → i = 0 := fun {i o} h => by
    cases i with
    | zero => rfl
    | succ i =>
      exfalso
      have h : (ds.map Slot.d ++ List.replicate (N.length - (ds.length + 1)) Slot.un)[i]? = some (.own o) := h
      by_cases hi : i < ds.length
      · rw [List.getElem?_append_left (by simpa using hi), List.getElem?_map] at h
        cases hd : ds[i]? with
        | none => rw [hd] at h; cases h
        | some x => rw [hd] at h; cases h
      · rw [List.getElem?_append_right (by simpa using hi), List.getElem?_replicate] at h
        split at h
        · cases h
        · cases h
  refine ⟨e, Rn.refl, fun i s hs => ?_, fun i j o p l h1 h2 _ _ => (own h1).trans (own h2).symm⟩
  cases i with
  | zero =>
    cases hs
    exact ⟨l, rfl, hl, .inr ⟨⟨l, .some c, rfl⟩, by simp⟩, ho⟩
  | succ i =>
    have hs : (ds.map Slot.d ++ List.replicate (N.length - (ds.length + 1)) Slot.un)[i]? = some s := hs
    by_cases hi : i < ds.length
    · rw [List.getElem?_append_left (by simpa using hi), List.getElem?_map] at hs
      cases hd : ds[i]? with
      | none => rw [hd] at hs; cases hs
      | some x =>
        rw [hd] at hs
        cases hs
        obtain ⟨v, hv, rv⟩ := r.get hd
        refine ⟨v, ?_, rv⟩
        unfold L2.start
        rw [List.getElem?_append_left (by rw [List.length_map, List.length_cons, r.length]; omega), List.getElem?_map, List.getElem?_cons_succ, hv]
        rfl
    · rw [List.getElem?_append_right (by simpa using hi), List.getElem?_replicate] at hs
      split at hs
      · cases hs; trivial
      · cases hs
theorem ok_P {pre : List D → Prop} {post : List D → D → Prop} (F : Fun K x qual st f fd) (S : FnScope N ps (defScope st)) (dc : DfC N (defScope st) vb wb G) (len : ∀ ds, pre ds → ds.length + 1 = ps.length)
    (body : ∀ X B H l c ds, Cz ⟨P, w, K, mg, base, [l], B, H⟩ N vb wb G (defScope st) k X → pre ds → Go X ⟨P, w, K, mg, base, [l], B, H⟩ (defBody st) (startP N l c ds) { nx := fun _ => False, rt := fun d Δ => post ds d ∧ Δ[0]? = some (.own (.pool l (.some c))) }) : FnOk P w K mg base CX0 (k + 1) f fd ps (spP K pre post) := by
  refine F.ok S (fun vs H Q E h => ?_) fun cdv A outer s H vs Q E0 hr h => ?_
  · obtain ⟨B, p, c, ws, ds, rfl, _, _, _, r, hR, _⟩ := h
    rw [List.length_cons, r.length]; exact len ds hR
  · obtain ⟨B, l, c, ws, ds, rfl, hs, hl, ho, r, hR, q⟩ := h
    refine ⟨_, pss_W _, body _ B H l c ds (cz_of S dc hr) hR _ B H (startP_sees hs hl ho r) _ ⟨fun σ' B' H' Δ' x S' h => h.elim, fun _ _ _ _ _ _ h => h.elim, fun _ _ _ _ _ _ h => h.elim, fun v σ' B' H' d' Δ' x S' rv h => ?_, fun l σ' B' H' o' Δ' x S' hE hB r h => h.elim⟩⟩
    obtain ⟨l', _, _, _, ho'⟩ := S'.own h.2
    have e : l' = l := ho'.1
    subst e
    exact q v B' H' d' h.1 S'.rn S'.sub ho' rv
end
end
end Kn
namespace Kn
open PySem PySem.Spec PyProof.Rows L2
/-! ### what is read off a scope, by reckoning -/
def visB (sc : Scope) (x : Str) : Bool := (match sc.names.lookup x with | some .local => true | some .cell => true | some .free => true | _ => false) && !(x == ("__debug__" : Str)) && !(x == ("__classdict__" : Str))
def locB (sc : Scope) (x : Str) : Bool := match sc.names.lookup x with | some .local => true | some .cell => true | _ => false
def glB (sc : Scope) (x : Str) : Bool := (match sc.names.lookup x with | some .globalImplicit => true | _ => false) && !(x == ("__debug__" : Str))
def locK (scope sc : Scope) (x : Str) : Bool := locB (relS scope sc) x && ((scope.names.lookup x == some .cell) || (match (relS scope sc).names.lookup x with | some .local => true | _ => false))
def allIx (m : List Bool) (N : List Str) (p : Str → Bool) : Bool := (m.zip N).all fun q => !q.1 || p q.2
theorem allIx_at {p : Str → Bool} : ∀ {m : List Bool} {N : List Str}, allIx m N p = true → ∀ (i : Nat) (x : Str), m[i]? = some true → N[i]? = some x → p x = true
  | [], _, _, _, _, h, _ => by simp at h
  | _ :: _, [], _, _, _, _, h => by simp at h
  | b :: m, y :: N, h, i, x, h1, h2 => by
    unfold allIx at h
    rw [List.zip_cons_cons, List.all_cons, Bool.and_eq_true] at h
    cases i with
    | zero =>
      simp at h1 h2
      subst h1 h2
      simpa using h.1
    | succ i => exact allIx_at (m := m) (N := N) h.2 i x (by simpa using h1) (by simpa using h2)
theorem visB_ok {sc : Scope} {x : Str} (h : visB sc x = true) : Vis sc x ∧ (x == ("__debug__" : Str)) = false ∧ (x == ("__classdict__" : Str)) = false := by
  unfold visB at h
  simp only [Bool.and_eq_true, Bool.not_eq_true'] at h
  refine ⟨?_, h.1.2, h.2⟩
  have h1 := h.1.1
  unfold Vis
  split at h1 <;> first | (rename_i e; exact .inl e) | (rename_i e; exact .inr (.inl e)) | (rename_i e; exact .inr (.inr e)) | cases h1
theorem locB_ok {sc : Scope} {x : Str} (h : locB sc x = true) : L2.Loc sc x := by
  unfold locB at h
  unfold L2.Loc
  split at h <;> first | (rename_i e; exact .inl e) | (rename_i e; exact .inr e) | cases h
theorem glB_ok {sc : Scope} {x : Str} (h : glB sc x = true) : sc.names.lookup x = some .globalImplicit ∧ (x == ("__debug__" : Str)) = false := by
  unfold glB at h
  simp only [Bool.and_eq_true, Bool.not_eq_true'] at h
  refine ⟨?_, h.2⟩
  have h1 := h.1
  split at h1
  · assumption
  · cases h1
def dfB (N : List Str) (sc : Scope) (vb wb : List Bool) (G : List Str) : Bool := allIx vb N (visB sc) && allIx wb N (locB sc) && G.all (glB sc)
theorem df_by {N : List Str} {sc : Scope} {vb wb : List Bool} {G : List Str} (h : dfB N sc vb wb G = true) : DfC N sc vb wb G := by
  unfold dfB at h
  simp only [Bool.and_eq_true] at h
  exact ⟨fun i x h1 h2 => visB_ok (allIx_at h.1.1 i x h1 h2), fun i x h1 h2 => locB_ok (allIx_at h.1.2 i x h1 h2), fun i x h1 => glB_ok (List.all_eq_true.mp h.2 x (List.mem_of_getElem? h1))⟩
def bkB (N : List Str) (sc scope : Scope) (own : List (Str × Nat)) (vb wb : List Bool) (G : List Str) : Bool := blkC N sc scope own && allIx vb N (visB (relS scope sc)) && allIx wb N (locK scope sc) && G.all (glB (relS scope sc))
theorem bk_by {N : List Str} {sc scope : Scope} {own : List (Str × Nat)} {vb wb : List Bool} {G : List Str} (h : bkB N sc scope own vb wb G = true) : BkC N sc scope own vb wb G := by
  unfold bkB at h
  simp only [Bool.and_eq_true] at h
  refine ⟨blkOk_by h.1.1.1, fun i x h1 h2 => visB_ok (allIx_at h.1.1.2 i x h1 h2), fun i x h1 h2 => ?_, fun i x h1 => glB_ok (List.all_eq_true.mp h.2 x (List.mem_of_getElem? h1))⟩
  have q := allIx_at h.1.2 i x h1 h2
  unfold locK at q
  rw [Bool.and_eq_true, Bool.or_eq_true] at q
  refine ⟨locB_ok q.1, q.2.imp id fun z => ?_⟩
  split at z
  · assumption
  · cases z
/-- FnScope by reckoning -/
def fsB (N ps : List Str) (sc : Scope) : Bool := (match sc.kind with | .function => true | _ => false) && !sc.isCoroutine && !sc.isGenerator && decide N.Nodup && decide (N.take ps.length = ps) && ps.all (locB sc) && sc.names.all fun y => match y.2 with | .free => false | _ => true
theorem fs_by {N ps : List Str} {sc : Scope} (h : fsB N ps sc = true) : FnScope N ps sc := by
  unfold fsB at h
  simp only [Bool.and_eq_true, Bool.not_eq_true', decide_eq_true_eq] at h
  obtain ⟨⟨⟨⟨⟨⟨h1, h2⟩, h3⟩, h4⟩, h5⟩, h6⟩, h7⟩ := h
  refine ⟨?_, h2, h3, h4, h5, fun x hx => locB_ok (List.all_eq_true.mp h6 x hx), fun y hy e => ?_⟩
  · split at h1
    · assumption
    · cases h1
  · have q := List.all_eq_true.mp h7 y hy
    rw [e] at q
    cases q
end Kn
/-! K9: enumerate over tuples; dict keys walked. -/
namespace Kn
open PySem PySem.Spec PyProof.Rows L2
open Sem (wp)
theorem enum_new1 {v : Value} {o : Obj} {Hh : Heap → Prop} (Bg : Begins v o Hh) : PySem.Meets (Builtin.«enumerate.__new__» ⟨[.type "enumerate", v], []⟩) (fun _ R s => Hh s.heap ∧
      R (.ok (.ret (.ref (s.heap.push o).objs.size))) { s with heap := (s.heap.push o).push { cls := .type "enumerate", data := .fields #[.none, .bool false, .ref s.heap.objs.size, rawInt 0, .none, .none] } }) := .of_wp fun prog w A R s hw => by
  obtain ⟨hp, gg, dd, tk, os⟩ := s; obtain ⟨g1, hw⟩ := hw
  have sub0 := sub_enumerate
  have it0 : ∀ {A' : Around} {Ee : Value → Shared → Prop} {Qq : Value → Shared → Prop}, Qq (.ref hp.objs.size) ⟨hp.push o, gg, dd, tk, os⟩ → wpAny (model prog w) A' (pyIter v) Qq Ee ⟨hp, gg, dd, tk, os⟩ := fun zz => Bg.iter prog w _ _ ⟨hp, gg, dd, tk, os⟩ _ g1 zz
  wp_walk using it0
  refine wpAny_stack_any fun stk => wpAny_pure ?_
  split
  · rename_i cc _ _ _ _ _
    cases (cc == Value.type "enumerate")
    · wp_walk using it0
      exact ⟨_, rfl, hw⟩
    · wp_walk using it0
      exact ⟨_, rfl, hw⟩
  · wp_walk using it0
    exact ⟨_, rfl, hw⟩
theorem enum_call1 {prog : Program} {w : World} {A : Around} {Ee : Value → Shared → Prop} {s : Shared} {v : Value} {o : Obj} {Hh : Heap → Prop} {Q : Value → Shared → Prop} (Bg : Begins v o Hh) (h1 : Hh s.heap)
    (hqq : ∀ h', IsEnum h' (s.heap.objs.size + 1) s.heap.objs.size 0 .none → h'.get? s.heap.objs.size = some o → h'.objs.size = s.heap.objs.size + 2 → (∀ b u, s.heap.get? b = some u → h'.get? b = some u) → Q (.ref (s.heap.objs.size + 1)) { s with heap := h' }) :
    wpAny (model prog w) A (call (.type "enumerate") [v]) Q Ee s := by
  refine callType_new F.called_enumerate (by decide) (F.typeCall_enumerate_1 _) (F.newCall_enumerate_1 _) (fun obj => F.args_object_init_2 obj _) F.entry_enumerate_new (enum_new1 Bg) ⟨h1, ?_⟩
  have hzz : (s.heap.push o).objs.size = s.heap.objs.size + 1 := Heap.size_push ..
  show _ ∧ _
  rw [hzz]
  have hee : IsEnum ((s.heap.push o).push { cls := .type "enumerate", data := .fields #[.none, .bool false, .ref s.heap.objs.size, rawInt 0, .none, .none] }) (s.heap.objs.size + 1) s.heap.objs.size 0 .none := by
    have zz := Heap.get?_push_size (s.heap.push o) (o := { cls := .type "enumerate", data := .fields #[.none, .bool false, .ref s.heap.objs.size, rawInt 0, .none, .none] }) rfl
    rw [hzz] at zz; exact zz
  exact ⟨⟨_, hee, rfl⟩, hqq _ hee (Heap.get?_push_of_some _ (Heap.get?_push_size _ Bg.free)) (by rw [Heap.size_push, hzz]) fun b u x => Heap.get?_push_of_some _ (Heap.get?_push_of_some _ x)⟩
/-- the tuple at a, each item in a new pair with its place -/
def IteT (K : PySem.W.Frag) (a : Addr) : It :=
  ⟨fun i H => ∃ (xs : List V) (x : V), SqT K H a xs ∧ xs[i]? = some x, fun i H v H' => ∃ T x, v = .ref T ∧ H T = none ∧ H' = upd H T (.tup [.int (i : Nat), x]) ∧ ∀ xs, SqT K H a xs → xs[i]? = some x, fun i H => ∃ xs : List V, SqT K H a xs ∧ xs.length = i⟩
theorem turn_enumT {P : Program} {w : World} {K : PySem.W.Frag} {elts : List Expr} {kk : Nat} {tpos : Pos} (a e it : Addr) : Turn P w K (.Tuple elts kk tpos) (IteT K a) [e, it] e (fun i h => (∃ old, IsEnum h e it ((i : Nat) : Int) old) ∧ h.IsTupleIter it a i ∧ e ≠ it ∧ e ≠ a) where
  mem := List.mem_cons_self
  obj := fun i h st b hbb => by
    obtain ⟨⟨old, hee⟩, ⟨o, ho, hcc, hd⟩, _⟩ := st
    rcases List.mem_cons.mp hbb with zz | hbb
    · rw [zz]; exact ⟨_, hee, fun v q => nomatch q⟩
    · rw [List.mem_singleton.mp hbb]; exact ⟨o, ho, fun v q => by rw [hd] at q; cases q⟩
  keep := fun i h h' st k => let ⟨⟨old, hee⟩, hi, hne⟩ := st; ⟨⟨old, k e List.mem_cons_self _ hee⟩, hi.at fun o q => k it (List.mem_cons_of_mem _ List.mem_cons_self) o q, hne⟩
  item := by
    intro X hP hw hK hcc i pins s σ H E I hf st hg
    subst hP hw hK
    obtain ⟨⟨old, hee⟩, hitt, hne, hea⟩ := st
    obtain ⟨xs, x, hqq, hx⟩ := hg
    obtain ⟨its, rvv, p, hzz⟩ := I.tuple hqq
    obtain ⟨u, hu, ruu⟩ := rvv.get hx
    have p2 : s.heap.IsTuple a its.toArray := p
    have hel : e < s.heap.objs.size := Heap.lt_size hee
    have hil : it < s.heap.objs.size := by obtain ⟨_, q, _⟩ := hitt; exact Heap.lt_size q
    have nta : a ≠ it := by
      rintro rfl
      obtain ⟨o1, q1, c1, _⟩ := hitt
      obtain ⟨o2, q2, c2, _⟩ := p2
      rw [q1] at q2; cases q2
      rw [c1] at c2; exact absurd (Value.type.inj c2) (by decide)
    have hlt : i < its.toArray.size := by
      have := (List.getElem?_eq_some_iff.mp hu).1
      simpa using this
    refine wpAny_pyNext_enum_itemD (Draws.tuple (prog := X.prog) (w := X.w) (A := X.A.in1) (I.ok.hd hcc) it a nta its.toArray) hee ⟨hitt, p2⟩ hlt hne (by simp only [List.mem_cons, not_or]; exact ⟨hne, hea, fun zz => nomatch zz⟩) fun y h' tk hy ho hst hT hsz hkk => ?_
    have ey : y = u := by
      have q : its.toArray[i]? = some u := by simpa using hu
      rw [q] at hy; exact (Option.some.inj hy).symm
    subst ey
    refine ⟨_, rfl, wpAny_letOwnedTupleGo_enum (s := { s with heap := h', toks := tk + 1 }) ho fun h2 he2 sb => ?_⟩
    have hT2 : h2.get? s.heap.objs.size = some { cls := .type "tuple", data := .seq #[.int i tk, y] } := (sb.2 _ (Nat.ne_of_gt hel)).trans hT
    have new : ObjOk X.prog X.w (upd H s.heap.objs.size (.tup [.int (i : Nat), x])) h2 s.heap.objs.size (.tup [.int (i : Nat), x]) := ⟨by show 2 ≤ sizeLine; decide, [.int i tk, y], .cons ⟨_, rfl⟩ (.cons ruu .nil), ⟨_, hT2, rfl, _, rfl⟩⟩
    have I1 : Inv X pins σ (upd H s.heap.objs.size (.tup [.int (i : Nat), x])) { s with heap := h2, toks := tk + 1 } :=
      I.turnedNew (ch := [e, it]) (fun b ob hbb q => (sb.2 b (fun zz => hbb (by simp [zz]))).trans (hkk b ob (fun zz => hbb (by simp [zz])) (fun zz => hbb (by simp [zz])) q)) hf (Nat.le_refl _) new
    refine ⟨.ref s.heap.objs.size, _, I1, rfl, ⟨_, x, rfl, I.hok.fresh (Nat.le_refl _), rfl, fun ys hy => by rw [I.tuple_inj hy hqq]; exact hx⟩, ⟨⟨y, ?_⟩, hst.1.at fun o q => (sb.2 it (Ne.symm hne)).trans q, hne, hea⟩, fun b hbb => ?_⟩
    · have e11 : ((i + 1 : Nat) : Int) = (i : Int) + 1 := by omega
      rw [e11]; exact he2
    · have hbc : b < s.heap.objs.size := by
        rcases List.mem_cons.mp hbb with zz | hbb
        · rw [zz]; exact hel
        · rw [List.mem_singleton.mp hbb]; exact hil
      rw [upd_ne (Nat.ne_of_lt hbc)]
      exact (hf b hbb).1
  done := by
    intro X hP hw hK hcc i pins s σ H E I hf st hg
    subst hP hw hK
    obtain ⟨⟨old, hee⟩, hitt, hne, hea⟩ := st
    obtain ⟨xs, hqq, hx⟩ := hg
    obtain ⟨its, rvv, p, hzz⟩ := I.tuple hqq
    have p2 : s.heap.IsTuple a its.toArray := p
    obtain ⟨g00, f1, f2, f3, f4, f5⟩ := hf it (by simp)
    have hl := rvv.length
    have nta : a ≠ it := by
      rintro rfl
      obtain ⟨o1, q1, c1, _⟩ := hitt
      obtain ⟨o2, q2, c2, _⟩ := p2
      rw [q1] at q2; cases q2
      rw [c1] at c2; exact absurd (Value.type.inj c2) (by decide)
    have en : i = its.toArray.size := by rw [← hx, hl]; simp
    subst en
    exact wpAny_pyNext_enum_endD (Draws.tuple (prog := X.prog) (w := X.w) (A := X.A.in1) (I.ok.hd hcc) it a nta its.toArray) hee ⟨hitt, p2⟩ fun h' eb => ⟨rfl, I.turned (t' := s.toks) (fun b o hbb q => eb b o hbb q) g00 f1 f3 f4 f5⟩
  self := fun A i s Q E st h => let ⟨⟨_, hee⟩, _⟩ := st; wpAny_pyIter_enum hee h
def iEnumT (K : PySem.W.Frag) (ta : TA) : TI := fun σ H R => ta σ H fun vs H1 => ∃ a xs, vs = [.ref a] ∧ SqT K H1 a xs ∧ R (IteT K a) H1
theorem pi_enumT {X : Cx} {e : Expr} {ta : TA} {p pos tpos : Pos} {elts : List Expr} {kk : Nat} (hg : Gl X "enumerate") (hm : X.mg "enumerate" = none) (ha : PA X [e] ta) (hs : starEach [e] X.env = [(false, eval e X.env)] := by rfl) : PI X (.Tuple elts kk tpos) (.Call (.Name "enumerate" p) [e] [] pos) (iEnumT X.K ta) := by
  refine ⟨fun pins s σ H R I hw => ?_⟩
  refine Call_ (ld_blt I hg hm boot_enumerate (PyProof.Rows.callWith_type1 (thn (ha.run pos pins s σ H _ I hw) fun us s1 ⟨vs, H1, I1, r1, q1⟩ => ?_) hs rfl))
  obtain ⟨a, xs, ex, hqq, q⟩ := q1
  subst ex
  obtain ⟨u1, e11, ruu⟩ := vals1 r1
  subst e11
  cases ruu
  obtain ⟨its, rvv, p', hzz⟩ := I1.tuple hqq
  have p2 : s1.heap.IsTuple a its.toArray := p'
  refine enum_call1 (begins_tuple a its.toArray) p2 fun h' hee hitt hsz hkk => wpAny_pyIter_enum hee ?_
  have I2 : Inv X pins σ H1 { s1 with heap := h' } := I1.kept (t' := s1.toks) hkk
  have ha' : a < s1.heap.objs.size := by obtain ⟨o2, q2, _⟩ := p2; exact Heap.lt_size q2
  refine ⟨s1.heap.objs.size + 1, [s1.heap.objs.size + 1, s1.heap.objs.size], _, _, H1, rfl, I2, turn_enumT a (s1.heap.objs.size + 1) s1.heap.objs.size, ⟨⟨.none, hee⟩, ⟨_, hitt, rfl, rfl⟩, Nat.succ_ne_self _, Nat.ne_of_gt (Nat.lt_succ_of_lt ha')⟩, fun b hbb => ?_, q⟩
  have hlee : s1.heap.objs.size ≤ b := by
    rcases List.mem_cons.mp hbb with zz | hbb
    · rw [zz]; exact Nat.le_succ _
    · rw [List.mem_singleton.mp hbb]; exact Nat.le_refl _
  exact I1.fpOk hlee (I1.hok.fresh hlee)
theorem wk_enumT {K : PySem.W.Frag} {B : Hp} {l : Addr} {vs : List V} {ds : List D} (h : B l = some (.tup vs)) (r : DnL K B vs ds) : Wk K (IteT K l) B (enumD ds) where
  goes := fun i B' H hi x s => by
    rw [enumD_len, ← r.length] at hi
    exact ⟨vs, vs[i], SqT.of (s _ _ (x _ _ h)), by simp [hi]⟩
  stops := fun B' H x s => ⟨vs, SqT.of (s _ _ (x _ _ h)), by rw [enumD_len, r.length]⟩
  yields := fun i B' H v H' hi x s y => by
    obtain ⟨T, u, rfl, nT, rfl, hu⟩ := y
    have hv := hu vs (SqT.of (s _ _ (x _ _ h)))
    obtain ⟨d, hd, rd⟩ := r.at hv
    exact ⟨_, _, Pg.new s nT, enumD_get hd, .tup upd_same (.cons (.int _) (.cons (rd.mono (x.trans (Ex.new (s.free nT)))) .nil))⟩
theorem wk_enumL {K : PySem.W.Frag} {B : Hp} {l : Addr} {vs : List V} {ds : List D} (h : B l = some (.lst vs)) (r : DnL K B vs ds) : Wk K (Ite K l) B (enumD ds) where
  goes := fun i B' H hi x s => by
    rw [enumD_len, ← r.length] at hi
    exact ⟨vs, vs[i], SqL.of (s _ _ (x _ _ h)), by simp [hi]⟩
  stops := fun B' H x s => ⟨vs, SqL.of (s _ _ (x _ _ h)), by rw [enumD_len, r.length]; exact Nat.le_refl _⟩
  yields := fun i B' H v H' hi x s y => by
    obtain ⟨T, u, rfl, nT, rfl, hu⟩ := y
    have hv := hu vs (SqL.of (s _ _ (x _ _ h)))
    obtain ⟨d, hd, rd⟩ := r.at hv
    exact ⟨_, _, Pg.new s nT, enumD_get hd, .tup upd_same (.cons (.int _) (.cons (rd.mono (x.trans (Ex.new (s.free nT)))) .nil))⟩
section
variable {X : Cx} {E : En} {N G : List Str} {vb wb : List Bool} {sc : Scope} {k : Nat} {Δ : List Slot} {a : Expr} {p pos tpos : Pos} {elts : List Expr} {kk : Nat}
theorem di_enumT (C : Cz E N vb wb G sc k X) (i : Nat) {P : List D → Prop} (h : Do X E a Δ fun d => ∃ ds, d = .tup ds ∧ P (enumD ds)) (hm : E.mg "enumerate" = none) (hG : G[i]? = some ("enumerate" : Str) := by rfl) (hee : starEach [a] X.env = (false, eval a X.env) :: starEach [] X.env := by rfl) :
    DoI X E (.Tuple elts kk tpos) (.Call (.Name "enumerate" p) [a] [] pos) Δ P := fun σ B H S R q => WI.of (pi_enumT (C.gl i _ hG).1 (by rw [C.hm]; exact hm) (pa_cons (pe_W a) pa_nil hee) hee) (h σ B H S _ fun v B1 H1 d x1 S1 r1 ⟨ds, e, hP⟩ => by
  subst e
  cases r1 with
  | @tup l vs _ e r =>
    refine ⟨l, vs, rfl, SqT.of (S1.sub _ _ e), ?_⟩
    rw [C.hK]
    exact q _ B1 H1 _ x1 S1 (wk_enumT e r) hP)
end
end Kn
/-! K10: methods of texts and lists, dicts changed, fields. -/
namespace Kn
open PySem PySem.Spec PyProof.Rows L2
section
variable {X : Cx} {E : En} {N G : List Str} {vb wb : List Bool} {sc : Scope} {k : Nat} {Δ Δ' : List Slot} {d d1 d2 d3 : D} {a b c e o f tg iter elt : Expr} {pos p apos cpos spos px : Pos} {j : Nat} {es : List Expr} {ds : List D} {vs ts : List Nat} {x : Str}
/-! ### texts -/
theorem ev_strm {name : Str} {id : String} {r : V → List V → Hp → VK → Prop} {z : Str} (slot : PySem.Slot "str" name id) (hty : typeOf (.builtin id) = pure (.type "method_descriptor")) (hm : MtR X id r) (ho : Ev X E o Δ (.str z)) (ha : EvAR X E (e :: es) Δ ds)
    (hr : ∀ B H vs, Ex B H → DrL E.K B H vs ds → ∀ Q : VK, (∀ v B' H', Pg B H B' H' → Dn E.K B' v d → Q v H') → r (.str z) vs H Q)
    (hbase : attributeBase o name X.env (eval o X.env) = eval o X.env := by rfl)
    (hfew : ((backTo cpos (starEach (e :: es) X.env)).all (fun x => !x.1) && (backToKw cpos (keywordEach [] X.env)).all (fun x => x.1.isSome)
      && decide ((e :: es).length + ([] : List Keyword).length + (if ([] : List Keyword).isEmpty then 0 else 1) < 30)) = true := by rfl)
    (hline : (apos.endLine == cpos.line) = true := by rfl) (hs : starEach (e :: es) X.env = (false, eval e X.env) :: starEach es X.env := by rfl) (hpl : (backTo cpos (starEach es X.env)).any (·.1) = false := by rfl) : Ev X E (.Call (.Attribute o name apos) (e :: es) [] cpos) Δ d := fun σ B H S Q q =>
  WE.of (pe_bm PySem.F.plainAttrs_str slot hty hm (pe_W o) (pa_W _) hbase hfew hline hs hpl) (ho σ B H S _ fun v B1 H1 p1 r1 => by
    cases r1
    exact ⟨rfl, ha σ B1 H1 (S.step p1) _ fun vs B2 H2 p2 r2 => hr B2 H2 vs p2.sub r2 Q fun v B3 H3 p3 r3 => q v B3 H3 ((p1.trans p2).trans p3) r3⟩)
theorem ev_starts3 {z y : Str} {i : Int} (ho : Ev X E o Δ (.str z)) (ha : Ev X E e Δ (.str y)) (hb : Ev X E f Δ (.int i)) (h : True)
    (hbase : attributeBase o "startswith" X.env (eval o X.env) = eval o X.env := by rfl)
    (hfew : ((backTo cpos (starEach [e, f] X.env)).all (fun x => !x.1) && (backToKw cpos (keywordEach [] X.env)).all (fun x => x.1.isSome)
      && decide (([e, f] : List Expr).length + ([] : List Keyword).length + (if ([] : List Keyword).isEmpty then 0 else 1) < 30)) = true := by rfl)
    (hline : (apos.endLine == cpos.line) = true := by rfl) (hs : starEach [e, f] X.env = (false, eval e X.env) :: starEach [f] X.env := by rfl) (hs2 : starEach [f] X.env = (false, eval f X.env) :: starEach [] X.env := by rfl) (hpl : (backTo cpos (starEach [f] X.env)).any (·.1) = false := by rfl) : Ev X E (.Call (.Attribute o "startswith" apos) [e, f] [] cpos) Δ (.bl (Txt.startswith3 z y i)) :=
  ev_strm PySem.F.slot_str_startswith PySem.F.type_str_startswith mt_startswith3 ho (ar_cons ha.r (ar_cons hb.r ar_nil hs2) hs) (fun B H vs e r Q q => by
    cases r with
    | cons r1 r2 =>
      cases r2 with
      | cons r2 r3 =>
        cases r3
        exact ⟨z, y, i, rfl, by rw [r1.str_inv, r2.int_inv], q _ B H (Pg.refl e) (.bl _)⟩) hbase hfew hline hs hpl
/-- sep.join(xs) -/
theorem ev_join (C : Cz E N vb wb G sc k X) {z : Str} {xs : List Str} (ho : Ev X E o Δ (.str z)) (ha : EvR X E e Δ d1) (hd : seqD d1 xs) (hl : (xs.map (·.length)).sum + xs.length * z.length ≤ 1000000)
    (hbase : attributeBase o "join" X.env (eval o X.env) = eval o X.env := by rfl)
    (hfew : ((backTo cpos (starEach [e] X.env)).all (fun x => !x.1) && (backToKw cpos (keywordEach [] X.env)).all (fun x => x.1.isSome)
      && decide (([e] : List Expr).length + ([] : List Keyword).length + (if ([] : List Keyword).isEmpty then 0 else 1) < 30)) = true := by rfl)
    (hline : (apos.endLine == cpos.line) = true := by rfl) (hs : starEach [e] X.env = (false, eval e X.env) :: starEach [] X.env := by rfl) : Ev X E (.Call (.Attribute o "join" apos) [e] [] cpos) Δ (.str (Txt.join z xs)) :=
  ev_strm PySem.F.slot_str_join PySem.F.type_str_join mt_join ho (ar_cons ha ar_nil hs) (fun B H vs e r Q q => by
    cases r with
    | cons r1 r2 =>
      cases r2
      obtain ⟨u, hu, h2⟩ := seq_in e r1 hd
      exact ⟨z, u, xs, rfl, by rw [hu], by rw [C.hK]; exact h2, Nat.le_trans hl (by decide), q _ B H (Pg.refl e) (.str _)⟩) hbase hfew hline hs rfl
theorem ev_strip {z y : Str} (ho : Ev X E o Δ (.str z)) (ha : Ev X E e Δ (.str y)) (hl : z.length ≤ 1000000)
    (hbase : attributeBase o "strip" X.env (eval o X.env) = eval o X.env := by rfl)
    (hfew : ((backTo cpos (starEach [e] X.env)).all (fun x => !x.1) && (backToKw cpos (keywordEach [] X.env)).all (fun x => x.1.isSome)
      && decide (([e] : List Expr).length + ([] : List Keyword).length + (if ([] : List Keyword).isEmpty then 0 else 1) < 30)) = true := by rfl)
    (hline : (apos.endLine == cpos.line) = true := by rfl) (hs : starEach [e] X.env = (false, eval e X.env) :: starEach [] X.env := by rfl) : Ev X E (.Call (.Attribute o "strip" apos) [e] [] cpos) Δ (.str (Txt.stripChars z y)) :=
  ev_strm PySem.F.slot_str_strip PySem.F.type_str_strip mt_stripChars ho (ar_cons ha.r ar_nil hs) (fun B H vs e r Q q => by
    cases r with
    | cons r1 r2 =>
      cases r2
      exact ⟨z, y, rfl, by rw [r1.str_inv], sz_of hl, q _ B H (Pg.refl e) (.str _)⟩) hbase hfew hline hs rfl
/-- one sign, n times -/
def repS (c : Nat) (n : Nat) : Str := ⟨(List.replicate n c).toArray⟩
theorem rep_fold (c : Nat) : ∀ (n : Nat) (acc : Array Nat), (List.replicate n #[c]).foldl (· ++ ·) acc = acc ++ (List.replicate n c).toArray
  | 0, acc => by simp
  | n + 1, acc => by
    rw [List.replicate_succ, List.foldl_cons, rep_fold c n, List.replicate_succ]
    apply Array.ext'
    simp
theorem op_rep_str : OpR X (binaryOp .Mult) (fun x y H Q => ∃ (c n : Nat), x = .str ⟨#[c]⟩ ∧ y = .int (n : Int) ∧ n ≤ 1000 ∧ Q (.str (repS c n)) H) := by
  intro pins s σ H x y v u Q I r1 r2 h
  obtain ⟨c, n, rfl, rfl, hn, q⟩ := h
  obtain ⟨t, rfl⟩ := r1
  obtain ⟨t', rfl⟩ := r2
  refine PySem.P.mul_str (by
      have h1 : ¬ (n : Int) < -(2 ^ 63 : Int) := by omega
      have h2 : ¬ (n : Int) ≥ 2 ^ 63 := by omega
      rw [decide_eq_false h1, decide_eq_false h2]; rfl) (fun h1 _ h3 => ?_) (fun h1 _ => ?_) ?_
  · have h4 : ((⟨#[c]⟩ : Str).length : Int) = 1 := rfl
    rw [h4] at h3
    have h5 : (1 : Int) ≤ (2 ^ 63 - 1) / (n : Int) := by
      rw [Int.le_ediv_iff_mul_le (by omega)]
      omega
    omega
  · show Builtin.Str.tooLong (1 * ((n : Int)).toNat) = false
    rw [Int.toNat_natCast, Nat.one_mul]
    unfold Builtin.Str.tooLong
    rw [decide_eq_false]
    rw [sizeLine_eq]
    omega
  · by_cases h0 : n = 0
    · subst h0
      rw [if_pos (by decide)]
      exact ⟨by decide, ⟨.str _, H, I.tok _, ⟨_, rfl⟩, q⟩⟩
    · rw [if_neg (by omega)]
      by_cases h1 : n = 1
      · subst h1
        rw [if_pos (by rfl)]
        exact ⟨.str _, H, I, ⟨_, rfl⟩, q⟩
      · rw [if_neg (by
          have e1 : ((n : Int) == 1) = false := by simp; omega
          rw [e1]; simp [Str.length])]
        refine ⟨?_, ⟨.str _, H, I.tok _, ⟨_, rfl⟩, ?_⟩⟩
        · rw [Int.toNat_natCast, rep_fold, sizeLine_eq]
          show (#[] ++ (List.replicate n c).toArray).size ≤ _
          simp
          omega
        · rw [Int.toNat_natCast, rep_fold]
          simpa [repS] using q
theorem ev_rep {c n : Nat} (ha : Ev X E a Δ (.str ⟨#[c]⟩)) (hb : Ev X E b Δ (.int (n : Int))) (hn : n ≤ 1000) : Ev X E (.BinOp a .Mult b pos) Δ (.str (repS c n)) :=
  ev_two (fun _ _ => pe_op op_rep_str) ha.r hb.r fun B H u y e h1 h2 Q q => ⟨c, n, h1.str_inv, h2.int_inv, hn, q _ B H (Pg.refl e) (.str _)⟩

/-! ### what a name owns, changed -/
theorem own_upd {σ : L2.St} {B H : Hp} (S : Sees E Δ σ B H) {i : Nat} {ds ds' : List D} {l : Addr} {ws : List V} (hi : Δ[i]? = some (.own (.lst ds))) (hl : σ[i]? = some (some (.ref l))) (r : DnL E.K B ws ds') : Sees E (Δ.set i (.own (.lst ds'))) σ B (upd H l (.lst ws)) :=
  S.put hi hl ⟨ws, upd_same, r⟩ fun m c h => by cases h
/-- xs.append(e) -/
theorem gs_append (C : Cz E N vb wb G sc k X) (i : Nat) {P : Ps} (hi : Δ[i]? = some (.own (.lst ds))) (he : Do X E e Δ fun d => ds.length < 1000000 ∧ P.nx (Δ.set i (.own (.lst (ds ++ [d]))))) (hv : vb[i]? = some true := by rfl) (hN : N[i]? = some x := by rfl)
    (hsw : swapsWith (.Call (.Attribute (.Name x px) "append" apos) [e] [] cpos) none spos.line X.env = pure false := by rfl) (hbase : attributeBase (.Name x px) "append" X.env (eval (.Name x px) X.env) = eval (.Name x px) X.env := by rfl)
    (hfew : ((backTo cpos (starEach [e] X.env)).all (fun x => !x.1) && (backToKw cpos (keywordEach [] X.env)).all (fun x => x.1.isSome)
      && decide (([e] : List Expr).length + ([] : List Keyword).length + (if ([] : List Keyword).isEmpty then 0 else 1) < 30)) = true := by rfl)
    (hline : (apos.endLine == cpos.line) = true := by rfl) (hs : starEach [e] X.env = (false, eval e X.env) :: starEach [] X.env := by rfl) : GoS X E (.Expr (.Call (.Attribute (.Name x px) "append" apos) [e] [] cpos) spos) Δ P := fun σ B H S D0 M => by
  obtain ⟨h1, h2, h3⟩ := C.vis i x hv hN
  obtain ⟨l, el, _, _, ws, hl, rl⟩ := S.own hi
  refine WS.of (ps_expr (pe_bm PySem.F.plainAttrs_list PySem.F.slot_list_append PySem.F.type_list_append mt_append (pe_var (i := i) (by rw [C.hN]; exact hN) h1 h2 h3) (pa_cons (pe_W e) pa_nil hs) hbase hfew hline hs) hsw) ?_
  refine ⟨.ref l, el, .inl ⟨rfl, _, SqL.of hl⟩, he σ B H S _ fun v B' H' d x' S' r ⟨hz, hP⟩ => ?_⟩
  obtain ⟨l', el', _, _, ws', hl', rl'⟩ := S'.own hi
  rw [el] at el'; cases el'
  exact ⟨l, ws', v, rfl, rfl, hl', sz_lt (by rw [rl'.length]; exact hz), M.nx σ B' _ _ x'.eb (own_upd S' hi el (rl'.snoc r)) hP⟩
/-- xs.extend(ys) -/
theorem gs_extend (C : Cz E N vb wb G sc k X) (i : Nat) {P : Ps} (hi : Δ[i]? = some (.own (.lst ds))) (he : Do X E e Δ fun d => ∃ zs, d = .lst zs ∧ ds.length + zs.length ≤ 1000000 ∧ P.nx (Δ.set i (.own (.lst (ds ++ zs))))) (hv : vb[i]? = some true := by rfl) (hN : N[i]? = some x := by rfl)
    (hsw : swapsWith (.Call (.Attribute (.Name x px) "extend" apos) [e] [] cpos) none spos.line X.env = pure false := by rfl) (hbase : attributeBase (.Name x px) "extend" X.env (eval (.Name x px) X.env) = eval (.Name x px) X.env := by rfl)
    (hfew : ((backTo cpos (starEach [e] X.env)).all (fun x => !x.1) && (backToKw cpos (keywordEach [] X.env)).all (fun x => x.1.isSome)
      && decide (([e] : List Expr).length + ([] : List Keyword).length + (if ([] : List Keyword).isEmpty then 0 else 1) < 30)) = true := by rfl)
    (hline : (apos.endLine == cpos.line) = true := by rfl) (hs : starEach [e] X.env = (false, eval e X.env) :: starEach [] X.env := by rfl) : GoS X E (.Expr (.Call (.Attribute (.Name x px) "extend" apos) [e] [] cpos) spos) Δ P := fun σ B H S D0 M => by
  obtain ⟨h1, h2, h3⟩ := C.vis i x hv hN
  obtain ⟨l, el, _, _, ws, hl, rl⟩ := S.own hi
  refine WS.of (ps_expr (pe_bm PySem.F.plainAttrs_list PySem.F.slot_list_extend PySem.F.type_list_extend mt_extend (pe_var (i := i) (by rw [C.hN]; exact hN) h1 h2 h3) (pa_cons (pe_W e) pa_nil hs) hbase hfew hline hs) hsw) ?_
  refine ⟨.ref l, el, .inl ⟨rfl, _, SqL.of hl⟩, he σ B H S _ fun v B' H' d x' S' r ⟨zs, ed, hz, hP⟩ => ?_⟩
  subst ed
  obtain ⟨l', el', nB, _, ws', hl', rl'⟩ := S'.own hi
  rw [el] at el'; cases el'
  cases r with
  | @lst l2 us _ e2 r2 => exact ⟨l, l2, ws', us, rfl, rfl, hl', S'.sub _ _ e2, by rw [rl'.length, r2.length]; exact sz_of hz, M.nx σ B' _ _ x'.eb (own_upd S' hi el (rl'.append r2)) hP⟩
/-- xs.reverse() -/
theorem gs_reverse (C : Cz E N vb wb G sc k X) (i : Nat) {P : Ps} (hi : Δ[i]? = some (.own (.lst ds))) (hP : P.nx (Δ.set i (.own (.lst ds.reverse)))) (hv : vb[i]? = some true := by rfl) (hN : N[i]? = some x := by rfl)
    (hsw : swapsWith (.Call (.Attribute (.Name x px) "reverse" apos) [] [] cpos) none spos.line X.env = pure false := by rfl) (hbase : attributeBase (.Name x px) "reverse" X.env (eval (.Name x px) X.env) = eval (.Name x px) X.env := by rfl)
    (hline : (apos.endLine == cpos.line) = true := by rfl) : GoS X E (.Expr (.Call (.Attribute (.Name x px) "reverse" apos) [] [] cpos) spos) Δ P := fun σ B H S D0 M => by
  obtain ⟨h1, h2, h3⟩ := C.vis i x hv hN
  obtain ⟨l, el, _, _, ws, hl, rl⟩ := S.own hi
  refine WS.of (ps_expr (pe_bm0 PySem.F.plainAttrs_list PySem.F.slot_list_reverse PySem.F.type_list_reverse mt_reverse (pe_var (i := i) (by rw [C.hN]; exact hN) h1 h2 h3) hbase hline) hsw) ?_
  exact ⟨.ref l, el, .inl ⟨rfl, _, SqL.of hl⟩, l, ws, rfl, rfl, hl, M.nx σ B _ _ (Ex.refl B) (own_upd S hi el rl.rev) hP⟩
/-- targets = xs.pop() -/
theorem gs_popA (C : Cz E N vb wb G sc k X) (i : Nat) {P : Ps} (ts : List Nat) (hi : Δ[i]? = some (.own (.lst (ds ++ [d])))) (hb : Bd X E tg ts d (Δ.set i (.own (.lst ds))) P.nx) (hv : vb[i]? = some true := by rfl) (hN : N[i]? = some x := by rfl)
    (hs : swapsWithSole [tg] (.Call (.Attribute (.Name x px) "pop" apos) [] [] cpos) spos.line X.env = pure false := by rfl) (hw : swappedStores [tg] (.Call (.Attribute (.Name x px) "pop" apos) [] [] cpos) X.env = pure none := by rfl)
    (h1' : (assignEach [tg] X.env).map (·.2) = [assign tg X.env] := by rfl) (hbase : attributeBase (.Name x px) "pop" X.env (eval (.Name x px) X.env) = eval (.Name x px) X.env := by rfl)
    (hline : (apos.endLine == cpos.line) = true := by rfl) : GoS X E (.Assign [tg] (.Call (.Attribute (.Name x px) "pop" apos) [] [] cpos) spos) Δ P := fun σ B H S D0 M => by
  obtain ⟨h1, h2, h3⟩ := C.vis i x hv hN
  obtain ⟨l, el, _, _, ws, hl, rl⟩ := S.own hi
  intro pins s I
  have hln : σ.length = X.N.length := I.len
  refine (WS.of (ps_asg (pe_bm0 PySem.F.plainAttrs_list PySem.F.slot_list_pop PySem.F.type_list_pop mt_pop (pe_var (i := i) (by rw [C.hN]; exact hN) h1 h2 h3) hbase hline) (pg_W tg) hs hw h1') ?_ : WS X _ D0 σ H) pins s I
  have hlen : ws.length = ds.length + 1 := by rw [rl.length]; simp
  obtain ⟨v, hv', rv⟩ := rl.get (i := ds.length) (d := d) (by simp)
  refine ⟨.ref l, el, .inl ⟨rfl, _, SqL.of hl⟩, l, ws, v, rfl, rfl, hl, by rw [hlen]; exact hv', ?_⟩
  have rd := rl.dropLast
  rw [List.dropLast_concat] at rd
  exact hb σ B _ v (own_upd S hi el rd) rv hln _ fun σ' Δ' S2 _ _ _ _ hP => M.nx σ' B _ Δ' (Ex.refl B) S2 hP

/-! ### dicts changed -/
def putD {κ : Type} [DecidableEq κ] (kds : List (κ × D)) (k : κ) (d : D) : List (κ × D) := if (kds.any fun kv => decide (kv.1 = k)) = true then kds.map fun kv => if kv.1 = k then (kv.1, d) else kv else kds ++ [(k, d)]
theorem DnK.any {K : PySem.W.Frag} {B : Hp} (k : Key) : ∀ {vs : List (Key × V)} {ds : List (Key × D)}, DnK K B vs ds → (vs.any fun kv => decide (kv.1 = k)) = ds.any fun kv => decide (kv.1 = k)
  | _, _, .nil => rfl
  | _, _, .cons j h r => by rw [List.any_cons, List.any_cons, DnK.any k r]
theorem DnK.repl {K : PySem.W.Frag} {B : Hp} (k : Key) {v : V} {d : D} (h0 : Dn K B v d) : ∀ {vs : List (Key × V)} {ds : List (Key × D)}, DnK K B vs ds → DnK K B (vs.map fun kv => if kv.1 = k then (kv.1, v) else kv) (ds.map fun kv => if kv.1 = k then (kv.1, d) else kv)
  | _, _, .nil => .nil
  | _, _, .cons j h r => by
    rw [List.map_cons, List.map_cons]
    show DnK K B ((if j = k then (j, v) else (j, _)) :: _) ((if j = k then (j, d) else (j, _)) :: _)
    split
    · exact .cons j h0 (DnK.repl k h0 r)
    · exact .cons j h (DnK.repl k h0 r)
theorem DnK.putD {K : PySem.W.Frag} {B : Hp} {vs : List (Key × V)} {ds : List (Key × D)} (r : DnK K B vs ds) (k : Key) {v : V} {d : D} (h : Dn K B v d) : DnK K B (putK vs k v) (Kn.putD ds k d) := by
  unfold putK Kn.putD
  rw [r.any k]
  split
  · exact r.repl k h
  · exact r.append (.cons k h .nil)
theorem DnH.any {K : PySem.W.Frag} {B : Hp} (k : List Key) : ∀ {vs : List (List Key × V)} {ds : List (List Key × D)}, DnH K B vs ds → (vs.any fun kv => decide (kv.1 = k)) = ds.any fun kv => decide (kv.1 = k)
  | _, _, .nil => rfl
  | _, _, .cons j h r => by rw [List.any_cons, List.any_cons, DnH.any k r]
theorem DnH.repl {K : PySem.W.Frag} {B : Hp} (k : List Key) {v : V} {d : D} (h0 : Dn K B v d) : ∀ {vs : List (List Key × V)} {ds : List (List Key × D)}, DnH K B vs ds → DnH K B (vs.map fun kv => if kv.1 = k then (kv.1, v) else kv) (ds.map fun kv => if kv.1 = k then (kv.1, d) else kv)
  | _, _, .nil => .nil
  | _, _, .cons j h r => by
    rw [List.map_cons, List.map_cons]
    show DnH K B ((if j = k then (j, v) else (j, _)) :: _) ((if j = k then (j, d) else (j, _)) :: _)
    split
    · exact .cons j h0 (DnH.repl k h0 r)
    · exact .cons j h (DnH.repl k h0 r)
theorem DnH.putD {K : PySem.W.Frag} {B : Hp} {vs : List (List Key × V)} {ds : List (List Key × D)} (r : DnH K B vs ds) (k : List Key) {v : V} {d : D} (h : Dn K B v d) : DnH K B (putK vs k v) (Kn.putD ds k d) := by
  unfold putK Kn.putD
  rw [r.any k]
  split
  · exact r.repl k h
  · exact r.append (.cons k h .nil)
theorem DnK.len {K : PySem.W.Frag} {B : Hp} : ∀ {vs : List (Key × V)} {ds : List (Key × D)}, DnK K B vs ds → vs.length = ds.length
  | _, _, .nil => rfl
  | _, _, .cons j h r => congrArg (· + 1) r.len
theorem DnH.len {K : PySem.W.Frag} {B : Hp} : ∀ {vs : List (List Key × V)} {ds : List (List Key × D)}, DnH K B vs ds → vs.length = ds.length
  | _, _, .nil => rfl
  | _, _, .cons j h r => congrArg (· + 1) r.len
/-- d[k] = e, k a text -/
theorem gs_dputS (C : Cz E N vb wb G sc k X) (i : Nat) {P : Ps} {kds : List (Key × D)} {z : Str} (hi : Δ[i]? = some (.own (.dK kds))) (he : Ev X E e Δ d) (hk : Ev X E b Δ (.str z)) (hl : kds.length < 1000000) (hP : P.nx (Δ.set i (.own (.dK (putD kds (.inr z) d))))) (hv : vb[i]? = some true := by rfl) (hN : N[i]? = some x := by rfl)
    (hs : swapsWith e (some (.Subscript (.Name x px) b pos)) spos.line X.env = pure false := by rfl) : GoS X E (.Assign [.Subscript (.Name x px) b pos] e spos) Δ P := fun σ B H S D0 M => by
  obtain ⟨h1, h2, h3⟩ := C.vis i x hv hN
  refine WS.of (ps_dput (hu_of C.room) (pe_var (i := i) (by rw [C.hN]; exact hN) h1 h2 h3) (pe_W b) (pe_W e) hs) ?_
  refine he σ B H S _ fun v B1 H1 p1 r1 => ?_
  obtain ⟨l, el, _⟩ := S.own hi
  refine ⟨.ref l, el, hk σ B1 H1 (S.step p1) _ fun y B2 H2 p2 r2 => ?_⟩
  cases r2
  have S2 := (S.step p1).step p2
  obtain ⟨l', el', _, _, vs, hvs, rv⟩ := S2.own hi
  rw [el] at el'; cases el'
  exact ⟨l, _, rfl, DPut.k (k := .inr z) hvs (sz_lt (by rw [rv.len]; exact hl)), M.nx σ B2 _ _ (p1.trans p2).eb (S2.put (p := .dK (putD kds (.inr z) d)) hi el ⟨_, upd_same, rv.putD _ (r1.mono p2.eb)⟩ fun m c h => by cases h) hP⟩
/-- d[(..)] = e -/
def keyD : Key → D
  | .inl i => .int i
  | .inr x => .str x
theorem keyD_dn {K : PySem.W.Frag} {B : Hp} : ∀ {vs : List V} {ks : List Key}, DnL K B vs (ks.map keyD) → vs = ks.map kV
  | _, [], .nil => rfl
  | _, .inl i :: r, .cons h t => by cases h; rw [keyD_dn t]; rfl
  | _, .inr x :: r, .cons h t => by cases h; rw [keyD_dn t]; rfl
theorem gs_dputT (C : Cz E N vb wb G sc k X) (i : Nat) {P : Ps} {kds : List (List Key × D)} (ks : List Key) (hi : Δ[i]? = some (.own (.dT kds))) (he : Ev X E e Δ d) (hk : Ev X E b Δ (.tup (ks.map keyD))) (hl : kds.length < 1000000) (hP : P.nx (Δ.set i (.own (.dT (putD kds ks d))))) (hv : vb[i]? = some true := by rfl) (hN : N[i]? = some x := by rfl)
    (hs : swapsWith e (some (.Subscript (.Name x px) b pos)) spos.line X.env = pure false := by rfl) : GoS X E (.Assign [.Subscript (.Name x px) b pos] e spos) Δ P := fun σ B H S D0 M => by
  obtain ⟨h1, h2, h3⟩ := C.vis i x hv hN
  refine WS.of (ps_dput (hu_of C.room) (pe_var (i := i) (by rw [C.hN]; exact hN) h1 h2 h3) (pe_W b) (pe_W e) hs) ?_
  refine he σ B H S _ fun v B1 H1 p1 r1 => ?_
  obtain ⟨l, el, _⟩ := S.own hi
  refine ⟨.ref l, el, hk σ B1 H1 (S.step p1) _ fun y B2 H2 p2 r2 => ?_⟩
  have S2 := (S.step p1).step p2
  obtain ⟨l', el', _, _, vs, hvs, rv⟩ := S2.own hi
  rw [el] at el'; cases el'
  cases r2 with
  | @tup q us _ e2 r2 =>
    rw [keyD_dn r2] at e2
    exact ⟨l, _, rfl, DPut.t hvs (p2.sub _ _ e2) (sz_lt (by rw [rv.len]; exact hl)), M.nx σ B2 _ _ (p1.trans p2).eb (S2.put (p := .dT (putD kds ks d)) hi el ⟨_, upd_same, rv.putD _ (r1.mono p2.eb)⟩ fun m c h => by cases h) hP⟩
end
end Kn
/-! K11: comprehensions that map, in short words; strings as codes. -/
namespace Kn
open PySem PySem.Spec PyProof.Rows L2
section
variable {X : Cx} {E : En} {N G G' : List Str} {vb wb vb' wb' : List Bool} {sc scope : Scope} {k : Nat} {Δ Δ' : List Slot} {d d1 d2 d3 : D} {a b c e o f tg iter elt : Expr} {pos p apos cpos spos px py : Pos} {j : Nat} {es : List Expr} {ds : List D} {vs ts : List Nat} {x y : Str}
/-- [elt for y in iter], one name -/
theorem df_lc1 {α : Type} (C : Cz E N vb wb G sc k X) (i : Nat) (bk : BkC N sc scope [(y, i)] vb' wb' G') (no : noOwn Δ [i]) (enc : α → D) (R : α → D → Prop) {P : O → Prop}
    (hi : DoI X E (.Name y py) iter Δ fun ds => ∃ xs : List α, ds = xs.map enc ∧ xs.length ≤ 1000000 ∧ (∀ x ∈ xs, ∀ Y, Cz E N vb' wb' G' (relS scope sc) k Y → Do Y E elt ((Δ.set i .un).set i (.d (enc x))) (R x)) ∧ ∀ zs, Paired R xs zs → P (.lst zs))
    (hw : wb'[i]? = some true := by rfl) (hN : N[i]? = some y := by rfl) (hs : ∀ x, foldedSetIterable iter X.env x = pure x := by intro _; rfl) : DoF X E (.ListComp elt [⟨.Name y py, iter, [], 0⟩] scope pos) Δ P := by
  refine df_lc C .no bk.ok no (fun σ B H S Q q => hi σ B H S Q fun J B' H' ds x' S' wk ⟨xs, e, hl, ht, hP⟩ => q J B' H' ds x' S' wk ?_) hs
  subst e
  refine ⟨fun r acc => ∃ done left, xs = done ++ left ∧ r = left.map enc ∧ Paired R done acc, ⟨[], xs, rfl, rfl, .nil⟩, fun x r acc ⟨done, left, e1, e2, e3⟩ => ?_, fun acc ⟨done, left, e1, e2, e3⟩ => ?_⟩
  · cases left with
    | nil => cases e2
    | cons z left =>
      injection e2 with e2 e4
      subst e2 e4
      have hz : z ∈ xs := by rw [e1]; simp
      refine ⟨(Δ.set i .un).set i (.d (enc z)), fun Y hY => bd_nm (C.blk bk hY) i rfl (by simp) hw hN, fun Y hY => ⟨fun _ Y2 hY2 => (ht z hz Y2 (C.blk bk hY2)).mono fun d hd => ⟨?_, done ++ [z], left, by rw [e1]; simp, rfl, ?_⟩, fun h => by cases h⟩⟩
      · have := Paired.length e3
        have h2 : xs.length = done.length + (left.length + 1) := by rw [e1]; simp
        omega
      · have app : ∀ {l1 : List α} {l2 : List D}, Paired R l1 l2 → Paired R (l1 ++ [z]) (l2 ++ [d]) := fun {l1 l2} h => by
          induction h with
          | nil => exact .cons hd .nil
          | cons h _ ih => exact .cons h ih
        exact app e3
  · cases left with
    | cons z left => cases e2
    | nil =>
      rw [List.append_nil] at e1
      subst e1
      exact hP acc e3
theorem paired_map {α : Type} {g : α → D} : ∀ {xs : List α} {zs : List D}, Paired (fun x d => d = g x) xs zs → zs = xs.map g
  | _, _, .nil => rfl
  | _, _, .cons h r => by rw [h, paired_map r]; rfl
/-- pure: a map -/
theorem ef_lc1 {α : Type} (C : Cz E N vb wb G sc k X) (i : Nat) (bk : BkC N sc scope [(y, i)] vb' wb' G') (no : noOwn Δ [i]) (np : noPool Δ) (enc : α → D) (g : α → D) (xs : List α) (hi : DoI X E (.Name y py) iter Δ fun ds => ds = xs.map enc) (hl : xs.length ≤ 1000000)
    (ht : ∀ x ∈ xs, ∀ Y, Cz E N vb' wb' G' (relS scope sc) k Y → Ev Y E elt ((Δ.set i .un).set i (.d (enc x))) (g x))
    (hw : wb'[i]? = some true := by rfl) (hN : N[i]? = some y := by rfl) (hs : ∀ x, foldedSetIterable iter X.env x = pure x := by intro _; rfl) : EvF X E (.ListComp elt [⟨.Name y py, iter, [], 0⟩] scope pos) Δ (.lst (xs.map g)) :=
  DoF.ev (df_lc1 C i bk no enc (fun x d => d = g x) (fun σ B H S Q q => hi σ B H S Q fun J B' H' ds x' S' wk e => q J B' H' ds x' S' wk ⟨xs, e, hl, fun x hx Y CY => Do.of (ht x hx Y CY) rfl, fun zs hz => by rw [paired_map hz]⟩) hw hN hs) np
/-- all([elt for y in iter]) -/
theorem ev_allC {α : Type} (C : Cz E N vb wb G sc k X) (ia i : Nat) (bk : BkC N sc scope [(y, i)] vb' wb' G') (no : noOwn Δ [i]) (np : noPool Δ) (enc : α → D) (g : α → Bool) (xs : List α) (hi : DoI X E (.Name y py) iter Δ fun ds => ds = xs.map enc) (hl : xs.length ≤ 1000000)
    (ht : ∀ x ∈ xs, ∀ Y, Cz E N vb' wb' G' (relS scope sc) k Y → Ev Y E elt ((Δ.set i .un).set i (.d (enc x))) (.bl (g x))) (hm : E.mg "all" = none) (hG : G[ia]? = some ("all" : Str) := by rfl)
    (hw : wb'[i]? = some true := by rfl) (hN : N[i]? = some y := by rfl) (hs : ∀ x, foldedSetIterable iter X.env x = pure x := by intro _; rfl) : Ev X E (.Call (.Name "all" p) [.ListComp elt [⟨.Name y py, iter, [], 0⟩] scope pos] [] cpos) Δ (.bl (xs.all g)) := by
  have h := ef_lc1 (pos := pos) C i bk no np enc (fun x => .bl (g x)) xs hi hl ht hw hN hs
  have e : xs.map (fun x => D.bl (g x)) = (xs.map g).map D.bl := by rw [List.map_map]; rfl
  rw [e] at h
  refine (ev_all C ia h.lr hm hG rfl).is ?_
  rw [List.all_map]
  rfl
/-- a name's walk -/
theorem di_strE {z : Str} (h : Ev X E iter Δ (.str z)) : DoI X E tg iter Δ fun ds => ds = z.cps.toList.map fun c => .str ⟨#[c]⟩ := di_str (Do.of h ⟨z, rfl, rfl⟩)
theorem di_tupE (C : Cz E N vb wb G sc k X) (h : Ev X E iter Δ (.tup ds)) : DoI X E tg iter Δ fun ds' => ds' = ds := di_tup C (Do.of h ⟨ds, rfl, rfl⟩)
theorem di_lstE (C : Cz E N vb wb G sc k X) (h : Ev X E iter Δ (.lst ds)) : DoI X E tg iter Δ fun ds' => ds' = ds := di_list C (Do.of h ⟨ds, rfl, rfl⟩)
end
end Kn
/-! S1: the text's defs by their places, what their scopes tell (printed by gen/static.py). -/
namespace Kn
open PySem PySem.Spec PyProof.Rows L2
def topS (i : Nat) : Stmt := PySem.Challenge.pw_proseknot_k15_whole_tangled_files.main.body.getD i (.Pass ⟨0, 0, 0, 0⟩)
/-! slot_at -/
abbrev s_slot_at : Stmt := topS 1
abbrev N_slot_at : List Str := ["line", "at", "params", "number", "param"]
abbrev P_slot_at : List Str := ["line", "at", "params"]
abbrev G_slot_at : List Str := ["enumerate", "len"]
abbrev V_slot_at : List Bool := [true, true, true, true, true]
theorem sc_slot_at : FnScope N_slot_at P_slot_at (defScope s_slot_at) := fs_by (by decide +kernel)
theorem dc_slot_at : DfC N_slot_at (defScope s_slot_at) V_slot_at V_slot_at G_slot_at := df_by (by decide +kernel)
/-! parts_of -/
abbrev s_parts_of : Stmt := topS 2
abbrev N_parts_of : List Str := ["line", "params", "parts", "begin", "at", "slot"]
abbrev P_parts_of : List Str := ["line", "params"]
abbrev G_parts_of : List Str := ["len", "slot_at", "tuple"]
abbrev V_parts_of : List Bool := [true, true, true, true, true, true]
theorem sc_parts_of : FnScope N_parts_of P_parts_of (defScope s_parts_of) := fs_by (by decide +kernel)
theorem dc_parts_of : DfC N_parts_of (defScope s_parts_of) V_parts_of V_parts_of G_parts_of := df_by (by decide +kernel)
/-! E_InvalidWeb -/
abbrev s_E_InvalidWeb : Stmt := inClass (topS 5) 0
abbrev N_E_InvalidWeb : List Str := ["self", "value"]
abbrev P_E_InvalidWeb : List Str := ["self", "value"]
abbrev G_E_InvalidWeb : List Str := []
abbrev V_E_InvalidWeb : List Bool := [true, true]
theorem sc_E_InvalidWeb : FnScope N_E_InvalidWeb P_E_InvalidWeb (defScope s_E_InvalidWeb) := fs_by (by decide +kernel)
theorem dc_E_InvalidWeb : DfC N_E_InvalidWeb (defScope s_E_InvalidWeb) V_E_InvalidWeb V_E_InvalidWeb G_E_InvalidWeb := df_by (by decide +kernel)
/-! E_NoText -/
abbrev s_E_NoText : Stmt := inClass (topS 6) 0
abbrev N_E_NoText : List Str := ["self", "name"]
abbrev P_E_NoText : List Str := ["self", "name"]
abbrev G_E_NoText : List Str := []
abbrev V_E_NoText : List Bool := [true, true]
theorem sc_E_NoText : FnScope N_E_NoText P_E_NoText (defScope s_E_NoText) := fs_by (by decide +kernel)
theorem dc_E_NoText : DfC N_E_NoText (defScope s_E_NoText) V_E_NoText V_E_NoText G_E_NoText := df_by (by decide +kernel)
/-! E_NotWhole -/
abbrev s_E_NotWhole : Stmt := inClass (topS 7) 0
abbrev N_E_NotWhole : List Str := ["self", "fault"]
abbrev P_E_NotWhole : List Str := ["self", "fault"]
abbrev G_E_NotWhole : List Str := []
abbrev V_E_NotWhole : List Bool := [true, true]
theorem sc_E_NotWhole : FnScope N_E_NotWhole P_E_NotWhole (defScope s_E_NotWhole) := fs_by (by decide +kernel)
theorem dc_E_NotWhole : DfC N_E_NotWhole (defScope s_E_NotWhole) V_E_NotWhole V_E_NotWhole G_E_NotWhole := df_by (by decide +kernel)
/-! is_number -/
abbrev s_is_number : Stmt := topS 14
abbrev N_is_number : List Str := ["value"]
abbrev P_is_number : List Str := ["value"]
abbrev G_is_number : List Str := ["isinstance", "int", "bool"]
abbrev V_is_number : List Bool := [true]
theorem sc_is_number : FnScope N_is_number P_is_number (defScope s_is_number) := fs_by (by decide +kernel)
theorem dc_is_number : DfC N_is_number (defScope s_is_number) V_is_number V_is_number G_is_number := df_by (by decide +kernel)
/-! is_word -/
abbrev s_is_word : Stmt := topS 15
abbrev N_is_word : List Str := ["value", "sign"]
abbrev P_is_word : List Str := ["value"]
abbrev G_is_word : List Str := ["isinstance", "str", "len", "MOST_LETTERS", "all"]
abbrev V_is_word : List Bool := [true, false]
theorem sc_is_word : FnScope N_is_word P_is_word (defScope s_is_word) := fs_by (by decide +kernel)
theorem dc_is_word : DfC N_is_word (defScope s_is_word) V_is_word V_is_word G_is_word := df_by (by decide +kernel)
abbrev ow_is_word_0 : List (Str × Nat) := [("sign", 1)]
abbrev bv_is_word_0 : List Bool := [false, true]
abbrev bw_is_word_0 : List Bool := [false, true]
abbrev bg_is_word_0 : List Str := ["LETTERS"]
/-! is_sign -/
abbrev s_is_sign : Stmt := topS 16
abbrev N_is_sign : List Str := ["sign"]
abbrev P_is_sign : List Str := ["sign"]
abbrev G_is_sign : List Str := ["ord"]
abbrev V_is_sign : List Bool := [true]
theorem sc_is_sign : FnScope N_is_sign P_is_sign (defScope s_is_sign) := fs_by (by decide +kernel)
theorem dc_is_sign : DfC N_is_sign (defScope s_is_sign) V_is_sign V_is_sign G_is_sign := df_by (by decide +kernel)
/-! is_line -/
abbrev s_is_line : Stmt := topS 17
abbrev N_is_line : List Str := ["value", "sign"]
abbrev P_is_line : List Str := ["value"]
abbrev G_is_line : List Str := ["isinstance", "str", "all"]
abbrev V_is_line : List Bool := [true, false]
theorem sc_is_line : FnScope N_is_line P_is_line (defScope s_is_line) := fs_by (by decide +kernel)
theorem dc_is_line : DfC N_is_line (defScope s_is_line) V_is_line V_is_line G_is_line := df_by (by decide +kernel)
abbrev ow_is_line_0 : List (Str × Nat) := [("sign", 1)]
abbrev bv_is_line_0 : List Bool := [false, true]
abbrev bw_is_line_0 : List Bool := [false, true]
abbrev bg_is_line_0 : List Str := ["is_sign"]
/-! is_argument -/
abbrev s_is_argument : Stmt := topS 18
abbrev N_is_argument : List Str := ["value", "sign"]
abbrev P_is_argument : List Str := ["value"]
abbrev G_is_argument : List Str := ["is_line", "all"]
abbrev V_is_argument : List Bool := [true, false]
theorem sc_is_argument : FnScope N_is_argument P_is_argument (defScope s_is_argument) := fs_by (by decide +kernel)
theorem dc_is_argument : DfC N_is_argument (defScope s_is_argument) V_is_argument V_is_argument G_is_argument := df_by (by decide +kernel)
abbrev ow_is_argument_0 : List (Str × Nat) := [("sign", 1)]
abbrev bv_is_argument_0 : List Bool := [false, true]
abbrev bw_is_argument_0 : List Bool := [false, true]
abbrev bg_is_argument_0 : List Str := []
/-! is_code_line -/
abbrev s_is_code_line : Stmt := topS 19
abbrev N_is_code_line : List Str := ["value", "arguments", "one"]
abbrev P_is_code_line : List Str := ["value"]
abbrev G_is_code_line : List Str := ["isinstance", "tuple", "len", "str", "is_line", "is_number", "MOST_INDENT", "is_word", "MOST_ARGUMENTS", "all"]
abbrev V_is_code_line : List Bool := [true, true, false]
theorem sc_is_code_line : FnScope N_is_code_line P_is_code_line (defScope s_is_code_line) := fs_by (by decide +kernel)
theorem dc_is_code_line : DfC N_is_code_line (defScope s_is_code_line) V_is_code_line V_is_code_line G_is_code_line := df_by (by decide +kernel)
abbrev ow_is_code_line_0 : List (Str × Nat) := [("one", 2)]
abbrev bv_is_code_line_0 : List Bool := [false, false, true]
abbrev bw_is_code_line_0 : List Bool := [false, false, true]
abbrev bg_is_code_line_0 : List Str := ["is_argument"]
/-! is_head -/
abbrev s_is_head : Stmt := topS 20
abbrev N_is_head : List Str := ["value", "params", "one"]
abbrev P_is_head : List Str := ["value"]
abbrev G_is_head : List Str := ["isinstance", "tuple", "len", "is_word", "MOST_PARAMS", "all", "set", "bool"]
abbrev V_is_head : List Bool := [true, true, false]
theorem sc_is_head : FnScope N_is_head P_is_head (defScope s_is_head) := fs_by (by decide +kernel)
theorem dc_is_head : DfC N_is_head (defScope s_is_head) V_is_head V_is_head G_is_head := df_by (by decide +kernel)
abbrev ow_is_head_0 : List (Str × Nat) := [("one", 2)]
abbrev bv_is_head_0 : List Bool := [false, false, true]
abbrev bw_is_head_0 : List Bool := [false, false, true]
abbrev bg_is_head_0 : List Str := ["is_word"]
/-! is_section -/
abbrev s_is_section : Stmt := topS 21
abbrev N_is_section : List Str := ["value", "prose", "head", "code", "one"]
abbrev P_is_section : List Str := ["value"]
abbrev G_is_section : List Str := ["isinstance", "tuple", "len", "all", "is_head"]
abbrev V_is_section : List Bool := [true, true, true, true, false]
theorem sc_is_section : FnScope N_is_section P_is_section (defScope s_is_section) := fs_by (by decide +kernel)
theorem dc_is_section : DfC N_is_section (defScope s_is_section) V_is_section V_is_section G_is_section := df_by (by decide +kernel)
abbrev ow_is_section_0 : List (Str × Nat) := [("one", 4)]
abbrev bv_is_section_0 : List Bool := [false, false, false, false, true]
abbrev bw_is_section_0 : List Bool := [false, false, false, false, true]
abbrev bg_is_section_0 : List Str := ["is_line"]
abbrev ow_is_section_1 : List (Str × Nat) := [("one", 4)]
abbrev bv_is_section_1 : List Bool := [false, false, false, false, true]
abbrev bw_is_section_1 : List Bool := [false, false, false, false, true]
abbrev bg_is_section_1 : List Str := ["is_code_line"]
/-! heads_of -/
abbrev s_heads_of : Stmt := topS 22
abbrev N_heads_of : List Str := ["web", "heads", "_", "head"]
abbrev P_heads_of : List Str := ["web"]
abbrev G_heads_of : List Str := []
abbrev V_heads_of : List Bool := [true, true, true, true]
theorem sc_heads_of : FnScope N_heads_of P_heads_of (defScope s_heads_of) := fs_by (by decide +kernel)
theorem dc_heads_of : DfC N_heads_of (defScope s_heads_of) V_heads_of V_heads_of G_heads_of := df_by (by decide +kernel)
/-! is_web -/
abbrev s_is_web : Stmt := topS 23
abbrev N_is_web : List Str := ["value", "heads", "one", "_", "head"]
abbrev P_is_web : List Str := ["value"]
abbrev G_is_web : List Str := ["isinstance", "tuple", "all", "heads_of"]
abbrev V_is_web : List Bool := [true, true, false, false, false]
theorem sc_is_web : FnScope N_is_web P_is_web (defScope s_is_web) := fs_by (by decide +kernel)
theorem dc_is_web : DfC N_is_web (defScope s_is_web) V_is_web V_is_web G_is_web := df_by (by decide +kernel)
abbrev ow_is_web_0 : List (Str × Nat) := [("one", 2)]
abbrev bv_is_web_0 : List Bool := [false, false, true, false, false]
abbrev bw_is_web_0 : List Bool := [false, false, true, false, false]
abbrev bg_is_web_0 : List Str := ["is_section"]
abbrev ow_is_web_1 : List (Str × Nat) := [("_", 3), ("head", 4)]
abbrev bv_is_web_1 : List Bool := [false, true, false, true, true]
abbrev bw_is_web_1 : List Bool := [false, false, false, true, true]
abbrev bg_is_web_1 : List Str := []
/-! need_web -/
abbrev s_need_web : Stmt := topS 24
abbrev N_need_web : List Str := ["value"]
abbrev P_need_web : List Str := ["value"]
abbrev G_need_web : List Str := ["is_web", "InvalidWeb"]
abbrev V_need_web : List Bool := [true]
theorem sc_need_web : FnScope N_need_web P_need_web (defScope s_need_web) := fs_by (by decide +kernel)
theorem dc_need_web : DfC N_need_web (defScope s_need_web) V_need_web V_need_web G_need_web := df_by (by decide +kernel)
/-! names_in -/
abbrev s_names_in : Stmt := topS 25
abbrev N_names_in : List Str := ["web"]
abbrev P_names_in : List Str := ["web"]
abbrev G_names_in : List Str := ["tuple", "heads_of"]
abbrev V_names_in : List Bool := [true]
theorem sc_names_in : FnScope N_names_in P_names_in (defScope s_names_in) := fs_by (by decide +kernel)
theorem dc_names_in : DfC N_names_in (defScope s_names_in) V_names_in V_names_in G_names_in := df_by (by decide +kernel)
/-! code_in -/
abbrev s_code_in : Stmt := topS 26
abbrev N_code_in : List Str := ["web", "name", "found", "section", "_", "head", "code", "number", "line"]
abbrev P_code_in : List Str := ["web", "name"]
abbrev G_code_in : List Str := ["enumerate", "tuple"]
abbrev V_code_in : List Bool := [true, true, true, true, true, true, true, true, true]
theorem sc_code_in : FnScope N_code_in P_code_in (defScope s_code_in) := fs_by (by decide +kernel)
theorem dc_code_in : DfC N_code_in (defScope s_code_in) V_code_in V_code_in G_code_in := df_by (by decide +kernel)
/-! uses_in -/
abbrev s_uses_in : Stmt := topS 27
abbrev N_uses_in : List Str := ["web", "name", "found", "_", "line"]
abbrev P_uses_in : List Str := ["web", "name"]
abbrev G_uses_in : List Str := ["code_in", "tuple"]
abbrev V_uses_in : List Bool := [true, true, true, true, true]
theorem sc_uses_in : FnScope N_uses_in P_uses_in (defScope s_uses_in) := fs_by (by decide +kernel)
theorem dc_uses_in : DfC N_uses_in (defScope s_uses_in) V_uses_in V_uses_in G_uses_in := df_by (by decide +kernel)
/-! file_names -/
abbrev s_file_names : Stmt := topS 28
abbrev N_file_names : List Str := ["web", "heads", "name"]
abbrev P_file_names : List Str := ["web"]
abbrev G_file_names : List Str := ["heads_of", "need_web", "tuple"]
abbrev V_file_names : List Bool := [true, true, false]
theorem sc_file_names : FnScope N_file_names P_file_names (defScope s_file_names) := fs_by (by decide +kernel)
theorem dc_file_names : DfC N_file_names (defScope s_file_names) V_file_names V_file_names G_file_names := df_by (by decide +kernel)
abbrev ow_file_names_0 : List (Str × Nat) := [("name", 2)]
abbrev bv_file_names_0 : List Bool := [false, true, true]
abbrev bw_file_names_0 : List Bool := [false, false, true]
abbrev bg_file_names_0 : List Str := []
/-! head_text -/
abbrev s_head_text : Stmt := topS 30
abbrev N_head_text : List Str := ["head", "name", "params", "is_file"]
abbrev P_head_text : List Str := ["head"]
abbrev G_head_text : List Str := []
abbrev V_head_text : List Bool := [true, true, true, true]
theorem sc_head_text : FnScope N_head_text P_head_text (defScope s_head_text) := fs_by (by decide +kernel)
theorem dc_head_text : DfC N_head_text (defScope s_head_text) V_head_text V_head_text G_head_text := df_by (by decide +kernel)
/-! code_text -/
abbrev s_code_text : Stmt := topS 31
abbrev N_code_text : List Str := ["line"]
abbrev P_code_text : List Str := ["line"]
abbrev G_code_text : List Str := []
abbrev V_code_text : List Bool := [true]
theorem sc_code_text : FnScope N_code_text P_code_text (defScope s_code_text) := fs_by (by decide +kernel)
theorem dc_code_text : DfC N_code_text (defScope s_code_text) V_code_text V_code_text G_code_text := df_by (by decide +kernel)
/-! rows_of -/
abbrev s_rows_of : Stmt := topS 32
abbrev N_rows_of : List Str := ["web", "rows", "section", "prose", "head", "code", "number", "line"]
abbrev P_rows_of : List Str := ["web"]
abbrev G_rows_of : List Str := ["enumerate", "head_text"]
abbrev V_rows_of : List Bool := [true, true, true, true, true, true, false, false]
theorem sc_rows_of : FnScope N_rows_of P_rows_of (defScope s_rows_of) := fs_by (by decide +kernel)
theorem dc_rows_of : DfC N_rows_of (defScope s_rows_of) V_rows_of V_rows_of G_rows_of := df_by (by decide +kernel)
abbrev ow_rows_of_0 : List (Str × Nat) := [("number", 6), ("line", 7)]
abbrev bv_rows_of_0 : List Bool := [false, false, true, false, false, false, true, true]
abbrev bw_rows_of_0 : List Bool := [false, false, false, false, false, false, true, true]
abbrev bg_rows_of_0 : List Str := []
abbrev ow_rows_of_1 : List (Str × Nat) := [("number", 6), ("line", 7)]
abbrev bv_rows_of_1 : List Bool := [false, false, true, false, false, false, true, true]
abbrev bw_rows_of_1 : List Bool := [false, false, false, false, false, false, true, true]
abbrev bg_rows_of_1 : List Str := ["code_text"]
/-! starts -/
abbrev s_starts : Stmt := topS 34
abbrev N_starts : List Str := ["web", "found", "at", "section", "kind", "number", "line"]
abbrev P_starts : List Str := ["web"]
abbrev G_starts : List Str := ["rows_of", "len"]
abbrev V_starts : List Bool := [true, true, true, true, true, true, true]
theorem sc_starts : FnScope N_starts P_starts (defScope s_starts) := fs_by (by decide +kernel)
theorem dc_starts : DfC N_starts (defScope s_starts) V_starts V_starts G_starts := df_by (by decide +kernel)
/-! pieces -/
abbrev s_pieces : Stmt := topS 35
abbrev N_pieces : List Str := ["web", "found", "number", "section"]
abbrev P_pieces : List Str := ["web"]
abbrev G_pieces : List Str := ["enumerate"]
abbrev V_pieces : List Bool := [true, true, true, true]
theorem sc_pieces : FnScope N_pieces P_pieces (defScope s_pieces) := fs_by (by decide +kernel)
theorem dc_pieces : DfC N_pieces (defScope s_pieces) V_pieces V_pieces G_pieces := df_by (by decide +kernel)
/-! filled_cells -/
abbrev s_filled_cells : Stmt := topS 37
abbrev N_filled_cells : List Str := ["line", "params", "at", "owner", "handed", "cells", "number", "part", "k", "cell"]
abbrev P_filled_cells : List Str := ["line", "params", "at", "owner", "handed"]
abbrev G_filled_cells : List Str := ["enumerate", "parts_of", "range"]
abbrev V_filled_cells : List Bool := [true, true, true, true, true, true, true, true, true, false]
theorem sc_filled_cells : FnScope N_filled_cells P_filled_cells (defScope s_filled_cells) := fs_by (by decide +kernel)
theorem dc_filled_cells : DfC N_filled_cells (defScope s_filled_cells) V_filled_cells V_filled_cells G_filled_cells := df_by (by decide +kernel)
abbrev ow_filled_cells_0 : List (Str × Nat) := [("cell", 9)]
abbrev bv_filled_cells_0 : List Bool := [false, false, false, false, false, false, false, false, false, true]
abbrev bw_filled_cells_0 : List Bool := [false, false, false, false, false, false, false, false, false, true]
abbrev bg_filled_cells_0 : List Str := []
/-! argument_places -/
abbrev s_argument_places : Stmt := topS 38
abbrev N_argument_places : List Str := ["told", "at", "found", "argument"]
abbrev P_argument_places : List Str := ["told", "at"]
abbrev G_argument_places : List Str := ["len"]
abbrev V_argument_places : List Bool := [true, true, true, true]
theorem sc_argument_places : FnScope N_argument_places P_argument_places (defScope s_argument_places) := fs_by (by decide +kernel)
theorem dc_argument_places : DfC N_argument_places (defScope s_argument_places) V_argument_places V_argument_places G_argument_places := df_by (by decide +kernel)
/-! Sp_init -/
abbrev s_Sp_init : Stmt := inClass (topS 39) 0
abbrev N_Sp_init : List Str := ["self", "web"]
abbrev P_Sp_init : List Str := ["self", "web"]
abbrev G_Sp_init : List Str := ["starts", "pieces"]
abbrev V_Sp_init : List Bool := [true, true]
theorem sc_Sp_init : FnScope N_Sp_init P_Sp_init (defScope s_Sp_init) := fs_by (by decide +kernel)
theorem dc_Sp_init : DfC N_Sp_init (defScope s_Sp_init) V_Sp_init V_Sp_init G_Sp_init := df_by (by decide +kernel)
/-! Sp_plain -/
abbrev s_Sp_plain : Stmt := inClass (topS 39) 1
abbrev N_Sp_plain : List Str := ["self", "spot", "line", "params", "margin", "handed", "way", "section", "number", "at", "cells"]
abbrev P_Sp_plain : List Str := ["self", "spot", "line", "params", "margin", "handed", "way"]
abbrev G_Sp_plain : List Str := ["filled_cells", "len", "tuple"]
abbrev V_Sp_plain : List Bool := [true, true, true, true, true, true, true, true, true, true, true]
theorem sc_Sp_plain : FnScope N_Sp_plain P_Sp_plain (defScope s_Sp_plain) := fs_by (by decide +kernel)
theorem dc_Sp_plain : DfC N_Sp_plain (defScope s_Sp_plain) V_Sp_plain V_Sp_plain G_Sp_plain := df_by (by decide +kernel)
/-! Sp_handed_on -/
abbrev s_Sp_handed_on : Stmt := inClass (topS 39) 2
abbrev N_Sp_handed_on : List Str := ["self", "spot", "told", "params", "handed", "section", "number", "places", "found", "k", "argument"]
abbrev P_Sp_handed_on : List Str := ["self", "spot", "told", "params", "handed"]
abbrev G_Sp_handed_on : List Str := ["argument_places", "enumerate", "filled_cells"]
abbrev V_Sp_handed_on : List Bool := [true, true, true, true, true, true, true, true, true, true, true]
theorem sc_Sp_handed_on : FnScope N_Sp_handed_on P_Sp_handed_on (defScope s_Sp_handed_on) := fs_by (by decide +kernel)
theorem dc_Sp_handed_on : DfC N_Sp_handed_on (defScope s_Sp_handed_on) V_Sp_handed_on V_Sp_handed_on G_Sp_handed_on := df_by (by decide +kernel)
/-! Sp_spread -/
abbrev s_Sp_spread : Stmt := inClass (topS 39) 3
abbrev N_Sp_spread : List Str := ["self", "name", "done", "waiting", "spot", "told", "params", "margin", "handed", "way", "place", "deeper", "given", "k"]
abbrev P_Sp_spread : List Str := ["self", "name"]
abbrev G_Sp_spread : List Str := ["range", "tuple"]
abbrev V_Sp_spread : List Bool := [true, true, true, true, true, true, true, true, true, true, true, true, true, false]
theorem sc_Sp_spread : FnScope N_Sp_spread P_Sp_spread (defScope s_Sp_spread) := fs_by (by decide +kernel)
theorem dc_Sp_spread : DfC N_Sp_spread (defScope s_Sp_spread) V_Sp_spread V_Sp_spread G_Sp_spread := df_by (by decide +kernel)
abbrev ow_Sp_spread_0 : List (Str × Nat) := [("k", 13)]
abbrev bv_Sp_spread_0 : List Bool := [false, false, false, false, false, false, false, false, false, false, true, false, false, true]
abbrev bw_Sp_spread_0 : List Bool := [false, false, false, false, false, false, false, false, false, false, false, false, false, true]
abbrev bg_Sp_spread_0 : List Str := []
/-! Sp_steps -/
abbrev s_Sp_steps : Stmt := inClass (topS 39) 4
abbrev N_Sp_steps : List Str := ["self", "name", "margin", "handed", "way", "found", "section", "head", "code", "number", "told"]
abbrev P_Sp_steps : List Str := ["self", "name", "margin", "handed", "way"]
abbrev G_Sp_steps : List Str := ["enumerate"]
abbrev V_Sp_steps : List Bool := [true, true, true, true, true, true, true, true, true, true, true]
theorem sc_Sp_steps : FnScope N_Sp_steps P_Sp_steps (defScope s_Sp_steps) := fs_by (by decide +kernel)
theorem dc_Sp_steps : DfC N_Sp_steps (defScope s_Sp_steps) V_Sp_steps V_Sp_steps G_Sp_steps := df_by (by decide +kernel)
/-! lines_of_text -/
abbrev s_lines_of_text : Stmt := topS 42
abbrev N_lines_of_text : List Str := ["web", "name"]
abbrev P_lines_of_text : List Str := ["web", "name"]
abbrev G_lines_of_text : List Str := ["Weaver", "Spreader"]
abbrev V_lines_of_text : List Bool := [true, true]
theorem sc_lines_of_text : FnScope N_lines_of_text P_lines_of_text (defScope s_lines_of_text) := fs_by (by decide +kernel)
theorem dc_lines_of_text : DfC N_lines_of_text (defScope s_lines_of_text) V_lines_of_text V_lines_of_text G_lines_of_text := df_by (by decide +kernel)
/-! joined -/
abbrev s_joined : Stmt := topS 43
abbrev N_joined : List Str := ["lines", "line", "cell"]
abbrev P_joined : List Str := ["lines"]
abbrev G_joined : List Str := []
abbrev V_joined : List Bool := [true, false, false]
theorem sc_joined : FnScope N_joined P_joined (defScope s_joined) := fs_by (by decide +kernel)
theorem dc_joined : DfC N_joined (defScope s_joined) V_joined V_joined G_joined := df_by (by decide +kernel)
abbrev ow_joined_0 : List (Str × Nat) := [("line", 1), ("cell", 2)]
abbrev bv_joined_0 : List Bool := [false, true, true]
abbrev bw_joined_0 : List Bool := [false, true, true]
abbrev bg_joined_0 : List Str := []
/-! next_of -/
abbrev s_next_of : Stmt := topS 45
abbrev N_next_of : List Str := ["web", "names", "name", "used"]
abbrev P_next_of : List Str := ["web"]
abbrev G_next_of : List Str := ["names_in"]
abbrev V_next_of : List Bool := [true, true, false, false]
theorem sc_next_of : FnScope N_next_of P_next_of (defScope s_next_of) := fs_by (by decide +kernel)
theorem dc_next_of : DfC N_next_of (defScope s_next_of) V_next_of V_next_of G_next_of := df_by (by decide +kernel)
abbrev ow_next_of_0 : List (Str × Nat) := [("name", 2)]
abbrev bv_next_of_0 : List Bool := [true, true, true, false]
abbrev bw_next_of_0 : List Bool := [false, false, true, false]
abbrev bg_next_of_0 : List Str := ["uses_in"]
abbrev ow_next_of_1 : List (Str × Nat) := [("used", 3)]
abbrev bv_next_of_1 : List Bool := [false, true, false, true]
abbrev bw_next_of_1 : List Bool := [false, false, false, true]
abbrev bg_next_of_1 : List Str := []
/-! reached_from -/
abbrev s_reached_from : Stmt := topS 46
abbrev N_reached_from : List Str := ["after", "names", "found", "todo", "used"]
abbrev P_reached_from : List Str := ["after", "names"]
abbrev G_reached_from : List Str := ["list", "len"]
abbrev V_reached_from : List Bool := [true, true, true, true, true]
theorem sc_reached_from : FnScope N_reached_from P_reached_from (defScope s_reached_from) := fs_by (by decide +kernel)
theorem dc_reached_from : DfC N_reached_from (defScope s_reached_from) V_reached_from V_reached_from G_reached_from := df_by (by decide +kernel)
/-! in_circles -/
abbrev s_in_circles : Stmt := topS 47
abbrev N_in_circles : List Str := ["web", "after", "name"]
abbrev P_in_circles : List Str := ["web"]
abbrev G_in_circles : List Str := ["next_of", "names_in"]
abbrev V_in_circles : List Bool := [true, true, false]
theorem sc_in_circles : FnScope N_in_circles P_in_circles (defScope s_in_circles) := fs_by (by decide +kernel)
theorem dc_in_circles : DfC N_in_circles (defScope s_in_circles) V_in_circles V_in_circles G_in_circles := df_by (by decide +kernel)
abbrev ow_in_circles_0 : List (Str × Nat) := [("name", 2)]
abbrev bv_in_circles_0 : List Bool := [false, true, true]
abbrev bw_in_circles_0 : List Bool := [false, false, true]
abbrev bg_in_circles_0 : List Str := ["reached_from"]
/-! faults_of_use -/
abbrev s_faults_of_use : Stmt := topS 48
abbrev N_faults_of_use : List Str := ["heads", "section", "number", "line", "name", "found"]
abbrev P_faults_of_use : List Str := ["heads", "section", "number", "line"]
abbrev G_faults_of_use : List Str := ["len"]
abbrev V_faults_of_use : List Bool := [true, true, true, true, true, true]
theorem sc_faults_of_use : FnScope N_faults_of_use P_faults_of_use (defScope s_faults_of_use) := fs_by (by decide +kernel)
theorem dc_faults_of_use : DfC N_faults_of_use (defScope s_faults_of_use) V_faults_of_use V_faults_of_use G_faults_of_use := df_by (by decide +kernel)
/-! faults_in -/
abbrev s_faults_in : Stmt := topS 49
abbrev N_faults_in : List Str := ["web", "heads", "found", "section", "_", "code", "number", "line", "name"]
abbrev P_faults_in : List Str := ["web"]
abbrev G_faults_in : List Str := ["heads_of", "enumerate", "faults_of_use", "tuple", "in_circles"]
abbrev V_faults_in : List Bool := [true, true, true, true, true, true, true, true, false]
theorem sc_faults_in : FnScope N_faults_in P_faults_in (defScope s_faults_in) := fs_by (by decide +kernel)
theorem dc_faults_in : DfC N_faults_in (defScope s_faults_in) V_faults_in V_faults_in G_faults_in := df_by (by decide +kernel)
abbrev ow_faults_in_0 : List (Str × Nat) := [("name", 8)]
abbrev bv_faults_in_0 : List Bool := [false, false, false, false, false, false, false, false, true]
abbrev bw_faults_in_0 : List Bool := [false, false, false, false, false, false, false, false, true]
abbrev bg_faults_in_0 : List Str := []
/-! faults -/
abbrev s_faults : Stmt := topS 50
abbrev N_faults : List Str := ["web"]
abbrev P_faults : List Str := ["web"]
abbrev G_faults : List Str := ["faults_in", "need_web"]
abbrev V_faults : List Bool := [true]
theorem sc_faults : FnScope N_faults P_faults (defScope s_faults) := fs_by (by decide +kernel)
theorem dc_faults : DfC N_faults (defScope s_faults) V_faults V_faults G_faults := df_by (by decide +kernel)
/-! need_whole -/
abbrev s_need_whole : Stmt := topS 51
abbrev N_need_whole : List Str := ["web", "found"]
abbrev P_need_whole : List Str := ["web"]
abbrev G_need_whole : List Str := ["faults", "len", "NotWhole"]
abbrev V_need_whole : List Bool := [true, true]
theorem sc_need_whole : FnScope N_need_whole P_need_whole (defScope s_need_whole) := fs_by (by decide +kernel)
theorem dc_need_whole : DfC N_need_whole (defScope s_need_whole) V_need_whole V_need_whole G_need_whole := df_by (by decide +kernel)
/-! need_file -/
abbrev s_need_file : Stmt := topS 53
abbrev N_need_file : List Str := ["web", "name"]
abbrev P_need_file : List Str := ["web", "name"]
abbrev G_need_file : List Str := ["need_web", "need_whole", "isinstance", "str", "file_names", "NoText"]
abbrev V_need_file : List Bool := [true, true]
theorem sc_need_file : FnScope N_need_file P_need_file (defScope s_need_file) := fs_by (by decide +kernel)
theorem dc_need_file : DfC N_need_file (defScope s_need_file) V_need_file V_need_file G_need_file := df_by (by decide +kernel)
/-! tangled -/
abbrev s_tangled : Stmt := topS 54
abbrev N_tangled : List Str := ["web", "name"]
abbrev P_tangled : List Str := ["web", "name"]
abbrev G_tangled : List Str := ["need_file", "joined", "lines_of_text"]
abbrev V_tangled : List Bool := [true, true]
theorem sc_tangled : FnScope N_tangled P_tangled (defScope s_tangled) := fs_by (by decide +kernel)
theorem dc_tangled : DfC N_tangled (defScope s_tangled) V_tangled V_tangled G_tangled := df_by (by decide +kernel)
/-! l_mixed -/
abbrev s_l_mixed : Stmt := topS 56
abbrev N_l_mixed : List Str := ["_law_number", "_law_turn", "_law_many", "_law_prime", "_law_once", "_law_twice"]
abbrev P_l_mixed : List Str := ["_law_number", "_law_turn", "_law_many"]
abbrev G_l_mixed : List Str := ["int"]
abbrev V_l_mixed : List Bool := [true, true, true, true, true, true]
theorem sc_l_mixed : FnScope N_l_mixed P_l_mixed (defScope s_l_mixed) := fs_by (by decide +kernel)
theorem dc_l_mixed : DfC N_l_mixed (defScope s_l_mixed) V_l_mixed V_l_mixed G_l_mixed := df_by (by decide +kernel)
/-! l_pool -/
abbrev s_l_pool : Stmt := topS 57
abbrev N_l_pool : List Str := ["_law_script", "_law_seed", "_law_cell", "_law_cells"]
abbrev P_l_pool : List Str := ["_law_script"]
abbrev G_l_pool : List Str := ["int", "list", "len"]
abbrev V_l_pool : List Bool := [true, true, true, true]
theorem sc_l_pool : FnScope N_l_pool P_l_pool (defScope s_l_pool) := fs_by (by decide +kernel)
theorem dc_l_pool : DfC N_l_pool (defScope s_l_pool) V_l_pool V_l_pool G_l_pool := df_by (by decide +kernel)
/-! l_take -/
abbrev s_l_take : Stmt := topS 58
abbrev N_l_take : List Str := ["_law_pool_here", "_law_many", "_law_drawn"]
abbrev P_l_take : List Str := ["_law_pool_here", "_law_many"]
abbrev G_l_take : List Str := ["len", "int", "_law_mixed"]
abbrev V_l_take : List Bool := [true, true, true]
theorem sc_l_take : FnScope N_l_take P_l_take (defScope s_l_take) := fs_by (by decide +kernel)
theorem dc_l_take : DfC N_l_take (defScope s_l_take) V_l_take V_l_take G_l_take := df_by (by decide +kernel)
/-! l_signs -/
abbrev s_l_signs : Stmt := topS 59
abbrev N_l_signs : List Str := ["_law_signs_here"]
abbrev P_l_signs : List Str := []
abbrev G_l_signs : List Str := []
abbrev V_l_signs : List Bool := [true]
theorem sc_l_signs : FnScope N_l_signs P_l_signs (defScope s_l_signs) := fs_by (by decide +kernel)
theorem dc_l_signs : DfC N_l_signs (defScope s_l_signs) V_l_signs V_l_signs G_l_signs := df_by (by decide +kernel)
/-! l_word -/
abbrev s_l_word : Stmt := topS 60
abbrev N_l_word : List Str := ["_law_pool_here", "_law_taken", "_law_letters", "_law_size", "_law_word_here", "_law_others", "_law_k", "_law_other"]
abbrev P_l_word : List Str := ["_law_pool_here", "_law_taken"]
abbrev G_l_word : List Str := ["_law_take", "range"]
abbrev V_l_word : List Bool := [true, true, true, true, true, true, false, false]
theorem sc_l_word : FnScope N_l_word P_l_word (defScope s_l_word) := fs_by (by decide +kernel)
theorem dc_l_word : DfC N_l_word (defScope s_l_word) V_l_word V_l_word G_l_word := df_by (by decide +kernel)
abbrev ow_l_word_0 : List (Str × Nat) := [("_law_k", 6)]
abbrev bv_l_word_0 : List Bool := [true, false, true, false, false, false, true, false]
abbrev bw_l_word_0 : List Bool := [false, false, false, false, false, false, true, false]
abbrev bg_l_word_0 : List Str := ["_law_take"]
abbrev ow_l_word_1 : List (Str × Nat) := [("_law_k", 6)]
abbrev bv_l_word_1 : List Bool := [false, false, false, false, false, false, true, false]
abbrev bw_l_word_1 : List Bool := [false, false, false, false, false, false, true, false]
abbrev bg_l_word_1 : List Str := []
abbrev ow_l_word_2 : List (Str × Nat) := [("_law_k", 6)]
abbrev bv_l_word_2 : List Bool := [false, false, false, false, false, false, true, false]
abbrev bw_l_word_2 : List Bool := [false, false, false, false, false, false, true, false]
abbrev bg_l_word_2 : List Str := []
abbrev ow_l_word_3 : List (Str × Nat) := [("_law_other", 7)]
abbrev bv_l_word_3 : List Bool := [false, true, false, false, false, false, false, true]
abbrev bw_l_word_3 : List Bool := [false, false, false, false, false, false, false, true]
abbrev bg_l_word_3 : List Str := []
/-! l_line -/
abbrev s_l_line : Stmt := topS 61
abbrev N_l_line : List Str := ["_law_pool_here", "_law_params", "_law_signs_here", "_law_line_here", "_law_k", "_law_way", "_law_piece", "_law_param", "_law_near", "_law_j"]
abbrev P_l_line : List Str := ["_law_pool_here", "_law_params"]
abbrev G_l_line : List Str := ["_law_signs", "range", "_law_take", "len"]
abbrev V_l_line : List Bool := [true, true, true, true, true, true, true, true, true, false]
theorem sc_l_line : FnScope N_l_line P_l_line (defScope s_l_line) := fs_by (by decide +kernel)
theorem dc_l_line : DfC N_l_line (defScope s_l_line) V_l_line V_l_line G_l_line := df_by (by decide +kernel)
abbrev ow_l_line_0 : List (Str × Nat) := [("_law_j", 9)]
abbrev bv_l_line_0 : List Bool := [true, false, true, false, false, false, false, false, false, true]
abbrev bw_l_line_0 : List Bool := [false, false, false, false, false, false, false, false, false, true]
abbrev bg_l_line_0 : List Str := ["_law_take"]
/-! l_argument -/
abbrev s_l_argument : Stmt := topS 62
abbrev N_l_argument : List Str := ["_law_pool_here", "_law_params", "_law_signs_here", "_law_text_here", "_law_k", "_law_piece", "_law_j"]
abbrev P_l_argument : List Str := ["_law_pool_here", "_law_params"]
abbrev G_l_argument : List Str := ["range", "_law_take", "len"]
abbrev V_l_argument : List Bool := [true, true, true, true, true, true, false]
theorem sc_l_argument : FnScope N_l_argument P_l_argument (defScope s_l_argument) := fs_by (by decide +kernel)
theorem dc_l_argument : DfC N_l_argument (defScope s_l_argument) V_l_argument V_l_argument G_l_argument := df_by (by decide +kernel)
abbrev ow_l_argument_0 : List (Str × Nat) := [("_law_j", 6)]
abbrev bv_l_argument_0 : List Bool := [true, false, true, false, false, false, true]
abbrev bw_l_argument_0 : List Bool := [false, false, false, false, false, false, true]
abbrev bg_l_argument_0 : List Str := ["_law_take", "len"]
/-! l_plan -/
abbrev s_l_plan : Stmt := topS 63
abbrev N_l_plan : List Str := ["_law_pool_here", "_law_plan_here", "_law_k", "_law_name", "_law_is_file", "_law_params", "_law_j", "_law_piece"]
abbrev P_l_plan : List Str := ["_law_pool_here"]
abbrev G_l_plan : List Str := ["range", "_law_take", "_law_word", "int", "tuple"]
abbrev V_l_plan : List Bool := [true, true, true, true, true, true, true, false]
theorem sc_l_plan : FnScope N_l_plan P_l_plan (defScope s_l_plan) := fs_by (by decide +kernel)
theorem dc_l_plan : DfC N_l_plan (defScope s_l_plan) V_l_plan V_l_plan G_l_plan := df_by (by decide +kernel)
abbrev ow_l_plan_0 : List (Str × Nat) := [("_law_piece", 7)]
abbrev bv_l_plan_0 : List Bool := [false, false, false, false, false, false, false, true]
abbrev bw_l_plan_0 : List Bool := [false, false, false, false, false, false, false, true]
abbrev bg_l_plan_0 : List Str := []
/-! l_use -/
abbrev s_l_use : Stmt := topS 64
abbrev N_l_use : List Str := ["_law_pool_here", "_law_piece", "_law_params", "_law_indent", "_law_param"]
abbrev P_l_use : List Str := ["_law_pool_here", "_law_piece", "_law_params"]
abbrev G_l_use : List Str := ["_law_take", "tuple"]
abbrev V_l_use : List Bool := [true, true, true, true, false]
theorem sc_l_use : FnScope N_l_use P_l_use (defScope s_l_use) := fs_by (by decide +kernel)
theorem dc_l_use : DfC N_l_use (defScope s_l_use) V_l_use V_l_use G_l_use := df_by (by decide +kernel)
abbrev ow_l_use_0 : List (Str × Nat) := [("_law_param", 4)]
abbrev bv_l_use_0 : List Bool := [true, false, true, false, true]
abbrev bw_l_use_0 : List Bool := [false, false, false, false, true]
abbrev bg_l_use_0 : List Str := ["_law_argument"]
/-! l_code -/
abbrev s_l_code : Stmt := topS 65
abbrev N_l_code : List Str := ["_law_pool_here", "_law_plan_here", "_law_k", "_law_most", "_law_code_here", "_law_targets", "_law_j", "_law_piece"]
abbrev P_l_code : List Str := ["_law_pool_here", "_law_plan_here", "_law_k", "_law_most"]
abbrev G_l_code : List Str := ["range", "_law_take", "len", "_law_use", "_law_line"]
abbrev V_l_code : List Bool := [true, true, true, true, true, true, true, false]
theorem sc_l_code : FnScope N_l_code P_l_code (defScope s_l_code) := fs_by (by decide +kernel)
theorem dc_l_code : DfC N_l_code (defScope s_l_code) V_l_code V_l_code G_l_code := df_by (by decide +kernel)
abbrev ow_l_code_0 : List (Str × Nat) := [("_law_piece", 7)]
abbrev bv_l_code_0 : List Bool := [false, false, false, false, false, false, false, true]
abbrev bw_l_code_0 : List Bool := [false, false, false, false, false, false, false, true]
abbrev bg_l_code_0 : List Str := []
/-! l_web -/
abbrev s_l_web : Stmt := topS 66
abbrev N_l_web : List Str := ["_law_pool_here", "_law_plan_here", "_law_most", "_law_sections", "_law_k", "_law_j", "_law_prose", "_law_section", "_law_at", "_law_line_here"]
abbrev P_l_web : List Str := ["_law_pool_here", "_law_plan_here", "_law_most"]
abbrev G_l_web : List Str := ["range", "len", "int", "_law_take", "tuple", "_law_code"]
abbrev V_l_web : List Bool := [true, true, true, true, true, true, true, true, true, false]
theorem sc_l_web : FnScope N_l_web P_l_web (defScope s_l_web) := fs_by (by decide +kernel)
theorem dc_l_web : DfC N_l_web (defScope s_l_web) V_l_web V_l_web G_l_web := df_by (by decide +kernel)
abbrev ow_l_web_0 : List (Str × Nat) := [("_law_line_here", 9)]
abbrev bv_l_web_0 : List Bool := [true, false, false, false, false, false, false, false, false, true]
abbrev bw_l_web_0 : List Bool := [false, false, false, false, false, false, false, false, false, true]
abbrev bg_l_web_0 : List Str := ["_law_line"]
abbrev ow_l_web_1 : List (Str × Nat) := [("_law_line_here", 9)]
abbrev bv_l_web_1 : List Bool := [true, false, false, false, false, false, false, false, false, true]
abbrev bw_l_web_1 : List Bool := [false, false, false, false, false, false, false, false, false, true]
abbrev bg_l_web_1 : List Str := ["_law_line"]
/-! l_names -/
abbrev s_l_names : Stmt := topS 67
abbrev N_l_names : List Str := ["_law_web_here", "_law_names_here", "_law_prose", "_law_head_here", "_law_code_here"]
abbrev P_l_names : List Str := ["_law_web_here"]
abbrev G_l_names : List Str := []
abbrev V_l_names : List Bool := [true, true, true, true, true]
theorem sc_l_names : FnScope N_l_names P_l_names (defScope s_l_names) := fs_by (by decide +kernel)
theorem dc_l_names : DfC N_l_names (defScope s_l_names) V_l_names V_l_names G_l_names := df_by (by decide +kernel)
/-! l_head -/
abbrev s_l_head : Stmt := topS 68
abbrev N_l_head : List Str := ["_law_web_here", "_law_name", "_law_prose", "_law_head_here", "_law_code_here"]
abbrev P_l_head : List Str := ["_law_web_here", "_law_name"]
abbrev G_l_head : List Str := []
abbrev V_l_head : List Bool := [true, true, true, true, true]
theorem sc_l_head : FnScope N_l_head P_l_head (defScope s_l_head) := fs_by (by decide +kernel)
theorem dc_l_head : DfC N_l_head (defScope s_l_head) V_l_head V_l_head G_l_head := df_by (by decide +kernel)
/-! l_code_of -/
abbrev s_l_code_of : Stmt := topS 69
abbrev N_l_code_of : List Str := ["_law_web_here", "_law_name", "_law_found", "_law_s", "_law_k"]
abbrev P_l_code_of : List Str := ["_law_web_here", "_law_name"]
abbrev G_l_code_of : List Str := ["range", "len"]
abbrev V_l_code_of : List Bool := [true, true, true, true, false]
theorem sc_l_code_of : FnScope N_l_code_of P_l_code_of (defScope s_l_code_of) := fs_by (by decide +kernel)
theorem dc_l_code_of : DfC N_l_code_of (defScope s_l_code_of) V_l_code_of V_l_code_of G_l_code_of := df_by (by decide +kernel)
abbrev ow_l_code_of_0 : List (Str × Nat) := [("_law_k", 4)]
abbrev bv_l_code_of_0 : List Bool := [true, false, false, true, true]
abbrev bw_l_code_of_0 : List Bool := [false, false, false, false, true]
abbrev bg_l_code_of_0 : List Str := []
/-! l_used -/
abbrev s_l_used : Stmt := topS 70
abbrev N_l_used : List Str := ["_law_web_here", "_law_name", "_law_used_here", "_law_s", "_law_k", "_law_line_here"]
abbrev P_l_used : List Str := ["_law_web_here", "_law_name"]
abbrev G_l_used : List Str := ["_law_code_of"]
abbrev V_l_used : List Bool := [true, true, true, true, true, true]
theorem sc_l_used : FnScope N_l_used P_l_used (defScope s_l_used) := fs_by (by decide +kernel)
theorem dc_l_used : DfC N_l_used (defScope s_l_used) V_l_used V_l_used G_l_used := df_by (by decide +kernel)
/-! l_reached -/
abbrev s_l_reached : Stmt := topS 71
abbrev N_l_reached : List Str := ["_law_web_here", "_law_name", "_law_found", "_law_at", "_law_other"]
abbrev P_l_reached : List Str := ["_law_web_here", "_law_name"]
abbrev G_l_reached : List Str := ["_law_used", "len"]
abbrev V_l_reached : List Bool := [true, true, true, true, false]
theorem sc_l_reached : FnScope N_l_reached P_l_reached (defScope s_l_reached) := fs_by (by decide +kernel)
theorem dc_l_reached : DfC N_l_reached (defScope s_l_reached) V_l_reached V_l_reached G_l_reached := df_by (by decide +kernel)
abbrev ow_l_reached_0 : List (Str × Nat) := [("_law_other", 4)]
abbrev bv_l_reached_0 : List Bool := [false, false, true, false, true]
abbrev bw_l_reached_0 : List Bool := [false, false, false, false, true]
abbrev bg_l_reached_0 : List Str := []
/-! l_first_fault -/
abbrev s_l_first_fault : Stmt := topS 72
abbrev N_l_first_fault : List Str := ["_law_web_here", "_law_names_here", "_law_s", "_law_k", "_law_line_here", "_law_head_here", "_law_name"]
abbrev P_l_first_fault : List Str := ["_law_web_here"]
abbrev G_l_first_fault : List Str := ["_law_names", "range", "len", "_law_head", "_law_reached"]
abbrev V_l_first_fault : List Bool := [true, true, true, true, true, true, true]
theorem sc_l_first_fault : FnScope N_l_first_fault P_l_first_fault (defScope s_l_first_fault) := fs_by (by decide +kernel)
theorem dc_l_first_fault : DfC N_l_first_fault (defScope s_l_first_fault) V_l_first_fault V_l_first_fault G_l_first_fault := df_by (by decide +kernel)
/-! l_spoilt -/
abbrev s_l_spoilt : Stmt := topS 73
abbrev N_l_spoilt : List Str := ["_law_pool_here", "_law_web_here", "_law_plan_here", "_law_s", "_law_places", "_law_prose", "_law_head_here", "_law_code_here", "_law_piece", "_law_use_here", "_law_way", "_law_at", "_law_one"]
abbrev P_l_spoilt : List Str := ["_law_pool_here", "_law_web_here", "_law_plan_here"]
abbrev G_l_spoilt : List Str := ["range", "len", "_law_take", "_law_use", "_law_word"]
abbrev V_l_spoilt : List Bool := [true, true, true, true, true, true, true, true, true, true, true, true, false]
theorem sc_l_spoilt : FnScope N_l_spoilt P_l_spoilt (defScope s_l_spoilt) := fs_by (by decide +kernel)
theorem dc_l_spoilt : DfC N_l_spoilt (defScope s_l_spoilt) V_l_spoilt V_l_spoilt G_l_spoilt := df_by (by decide +kernel)
abbrev ow_l_spoilt_0 : List (Str × Nat) := [("_law_s", 3)]
abbrev bv_l_spoilt_0 : List Bool := [false, true, false, true, false, false, false, false, false, false, false, false, false]
abbrev bw_l_spoilt_0 : List Bool := [false, false, false, true, false, false, false, false, false, false, false, false, false]
abbrev bg_l_spoilt_0 : List Str := ["len"]
abbrev ow_l_spoilt_1 : List (Str × Nat) := [("_law_one", 12)]
abbrev bv_l_spoilt_1 : List Bool := [false, false, false, false, false, false, false, false, false, false, false, false, true]
abbrev bw_l_spoilt_1 : List Bool := [false, false, false, false, false, false, false, false, false, false, false, false, true]
abbrev bg_l_spoilt_1 : List Str := []
/-! l_same -/
abbrev s_l_same : Stmt := topS 74
abbrev N_l_same : List Str := ["_law_actual", "_law_due", "_law_k"]
abbrev P_l_same : List Str := ["_law_actual", "_law_due"]
abbrev G_l_same : List Str := ["isinstance", "tuple", "len", "range", "_law_same", "str", "int", "bool"]
abbrev V_l_same : List Bool := [true, true, true]
theorem sc_l_same : FnScope N_l_same P_l_same (defScope s_l_same) := fs_by (by decide +kernel)
theorem dc_l_same : DfC N_l_same (defScope s_l_same) V_l_same V_l_same G_l_same := df_by (by decide +kernel)
/-! l_parts -/
abbrev s_l_parts : Stmt := topS 75
abbrev N_l_parts : List Str := ["_law_line_here", "_law_params", "_law_parts_here", "_law_start", "_law_at", "_law_turn", "_law_found", "_law_end", "_law_k"]
abbrev P_l_parts : List Str := ["_law_line_here", "_law_params"]
abbrev G_l_parts : List Str := ["range", "len", "tuple"]
abbrev V_l_parts : List Bool := [true, true, true, true, true, true, true, true, false]
theorem sc_l_parts : FnScope N_l_parts P_l_parts (defScope s_l_parts) := fs_by (by decide +kernel)
theorem dc_l_parts : DfC N_l_parts (defScope s_l_parts) V_l_parts V_l_parts G_l_parts := df_by (by decide +kernel)
abbrev ow_l_parts_0 : List (Str × Nat) := [("_law_k", 8)]
abbrev bv_l_parts_0 : List Bool := [true, true, false, false, true, false, false, false, true]
abbrev bw_l_parts_0 : List Bool := [false, false, false, false, false, false, false, false, true]
abbrev bg_l_parts_0 : List Str := ["len"]
/-! l_text -/
abbrev s_l_text : Stmt := topS 76
abbrev N_l_text : List Str := ["_law_web_here", "_law_text_here", "_law_places", "_law_s", "_law_prose", "_law_head_here", "_law_code_here", "_law_k", "_law_line_here"]
abbrev P_l_text : List Str := ["_law_web_here"]
abbrev G_l_text : List Str := ["range", "len", "int"]
abbrev V_l_text : List Bool := [true, true, true, true, true, true, true, true, true]
theorem sc_l_text : FnScope N_l_text P_l_text (defScope s_l_text) := fs_by (by decide +kernel)
theorem dc_l_text : DfC N_l_text (defScope s_l_text) V_l_text V_l_text G_l_text := df_by (by decide +kernel)
/-! l_put -/
abbrev s_l_put : Stmt := topS 77
abbrev N_l_put : List Str := ["_law_line_here", "_law_place", "_law_params", "_law_given", "_law_signs_here", "_law_part", "_law_k"]
abbrev P_l_put : List Str := ["_law_line_here", "_law_place", "_law_params", "_law_given"]
abbrev G_l_put : List Str := ["_law_parts", "range"]
abbrev V_l_put : List Bool := [true, true, true, true, true, true, false]
theorem sc_l_put : FnScope N_l_put P_l_put (defScope s_l_put) := fs_by (by decide +kernel)
theorem dc_l_put : DfC N_l_put (defScope s_l_put) V_l_put V_l_put G_l_put := df_by (by decide +kernel)
abbrev ow_l_put_0 : List (Str × Nat) := [("_law_k", 6)]
abbrev bv_l_put_0 : List Bool := [true, true, false, false, false, false, true]
abbrev bw_l_put_0 : List Bool := [false, false, false, false, false, false, true]
abbrev bg_l_put_0 : List Str := []
/-! l_arguments -/
abbrev s_l_arguments : Stmt := topS 78
abbrev N_l_arguments : List Str := ["_law_use_here", "_law_place", "_law_at", "_law_places", "_law_argument_here"]
abbrev P_l_arguments : List Str := ["_law_use_here", "_law_place"]
abbrev G_l_arguments : List Str := ["len"]
abbrev V_l_arguments : List Bool := [true, true, true, true, true]
theorem sc_l_arguments : FnScope N_l_arguments P_l_arguments (defScope s_l_arguments) := fs_by (by decide +kernel)
theorem dc_l_arguments : DfC N_l_arguments (defScope s_l_arguments) V_l_arguments V_l_arguments G_l_arguments := df_by (by decide +kernel)
/-! l_spread -/
abbrev s_l_spread : Stmt := topS 79
abbrev N_l_spread : List Str := ["_law_web_here", "_law_places", "_law_name", "_law_margin", "_law_given", "_law_way", "_law_room", "_law_signs_here", "_law_params", "_law_s", "_law_k", "_law_line_here", "_law_place", "_law_row", "_law_wider", "_law_starts", "_law_handed", "_law_more", "_law_one", "_law_j"]
abbrev P_l_spread : List Str := ["_law_web_here", "_law_places", "_law_name", "_law_margin", "_law_given", "_law_way", "_law_room"]
abbrev G_l_spread : List Str := ["_law_head", "_law_code_of", "_law_put", "len", "range", "_law_arguments", "_law_spread"]
abbrev V_l_spread : List Bool := [true, true, true, true, true, true, true, true, true, true, true, true, true, true, true, true, true, true, false, false]
theorem sc_l_spread : FnScope N_l_spread P_l_spread (defScope s_l_spread) := fs_by (by decide +kernel)
theorem dc_l_spread : DfC N_l_spread (defScope s_l_spread) V_l_spread V_l_spread G_l_spread := df_by (by decide +kernel)
abbrev ow_l_spread_0 : List (Str × Nat) := [("_law_one", 18)]
abbrev bv_l_spread_0 : List Bool := [false, false, false, false, false, true, false, false, false, false, false, false, false, false, false, false, false, false, true, false]
abbrev bw_l_spread_0 : List Bool := [false, false, false, false, false, false, false, false, false, false, false, false, false, false, false, false, false, false, true, false]
abbrev bg_l_spread_0 : List Str := []
abbrev ow_l_spread_1 : List (Str × Nat) := [("_law_j", 19)]
abbrev bv_l_spread_1 : List Bool := [false, false, false, false, false, false, false, false, false, false, false, false, true, false, false, false, false, false, false, true]
abbrev bw_l_spread_1 : List Bool := [false, false, false, false, false, false, false, false, false, false, false, false, false, false, false, false, false, false, false, true]
abbrev bg_l_spread_1 : List Str := []
abbrev ow_l_spread_2 : List (Str × Nat) := [("_law_j", 19)]
abbrev bv_l_spread_2 : List Bool := [false, false, false, false, true, false, false, false, true, false, false, true, false, false, false, true, false, false, false, true]
abbrev bw_l_spread_2 : List Bool := [false, false, false, false, false, false, false, false, false, false, false, false, false, false, false, false, false, false, false, true]
abbrev bg_l_spread_2 : List Str := ["_law_put"]
abbrev ow_l_spread_3 : List (Str × Nat) := [("_law_one", 18)]
abbrev bv_l_spread_3 : List Bool := [false, false, false, false, false, false, false, false, false, false, false, false, false, false, false, false, false, false, true, false]
abbrev bw_l_spread_3 : List Bool := [false, false, false, false, false, false, false, false, false, false, false, false, false, false, false, false, false, false, true, false]
abbrev bg_l_spread_3 : List Str := ["len"]
/-! l_told -/
abbrev s_l_told : Stmt := topS 80
abbrev N_l_told : List Str := ["_law_web_here", "_law_name", "e"]
abbrev P_l_told : List Str := ["_law_web_here", "_law_name"]
abbrev G_l_told : List Str := ["tangled", "NotWhole", "NoText"]
abbrev V_l_told : List Bool := [true, true, true]
theorem sc_l_told : FnScope N_l_told P_l_told (defScope s_l_told) := fs_by (by decide +kernel)
theorem dc_l_told : DfC N_l_told (defScope s_l_told) V_l_told V_l_told G_l_told := df_by (by decide +kernel)
/-! l_agrees -/
abbrev s_l_agrees : Stmt := topS 81
abbrev N_l_agrees : List Str := ["_law_pool_here", "_law_web_here", "_law_fault", "_law_places", "_law_names_here", "_law_name", "_law_due", "_law_signs_here", "_law_one"]
abbrev P_l_agrees : List Str := ["_law_pool_here", "_law_web_here"]
abbrev G_l_agrees : List Str := ["_law_first_fault", "_law_text", "_law_names", "_law_word", "_law_head", "_law_spread", "_law_same", "_law_told"]
abbrev V_l_agrees : List Bool := [true, true, true, true, true, true, true, true, false]
theorem sc_l_agrees : FnScope N_l_agrees P_l_agrees (defScope s_l_agrees) := fs_by (by decide +kernel)
theorem dc_l_agrees : DfC N_l_agrees (defScope s_l_agrees) V_l_agrees V_l_agrees G_l_agrees := df_by (by decide +kernel)
abbrev ow_l_agrees_0 : List (Str × Nat) := [("_law_one", 8)]
abbrev bv_l_agrees_0 : List Bool := [false, false, false, false, false, false, false, false, true]
abbrev bw_l_agrees_0 : List Bool := [false, false, false, false, false, false, false, false, true]
abbrev bg_l_agrees_0 : List Str := []
/-! l_refused -/
abbrev s_l_refused : Stmt := topS 82
abbrev N_l_refused : List Str := ["_law_pool_here", "_law_web_here", "_law_value", "e"]
abbrev P_l_refused : List Str := ["_law_pool_here", "_law_web_here"]
abbrev G_l_refused : List Str := ["_law_same", "_law_told", "list", "_law_take", "tangled", "KnotError", "isinstance", "InvalidWeb", "repr"]
abbrev V_l_refused : List Bool := [true, true, true, true]
theorem sc_l_refused : FnScope N_l_refused P_l_refused (defScope s_l_refused) := fs_by (by decide +kernel)
theorem dc_l_refused : DfC N_l_refused (defScope s_l_refused) V_l_refused V_l_refused G_l_refused := df_by (by decide +kernel)
/-! l_anew -/
abbrev s_l_anew : Stmt := topS 83
abbrev N_l_anew : List Str := ["_law_web_here", "_law_one"]
abbrev P_l_anew : List Str := ["_law_web_here"]
abbrev G_l_anew : List Str := ["tuple"]
abbrev V_l_anew : List Bool := [true, false]
theorem sc_l_anew : FnScope N_l_anew P_l_anew (defScope s_l_anew) := fs_by (by decide +kernel)
theorem dc_l_anew : DfC N_l_anew (defScope s_l_anew) V_l_anew V_l_anew G_l_anew := df_by (by decide +kernel)
abbrev ow_l_anew_0 : List (Str × Nat) := [("_law_one", 1)]
abbrev bv_l_anew_0 : List Bool := [false, true]
abbrev bw_l_anew_0 : List Bool := [false, true]
abbrev bg_l_anew_0 : List Str := ["tuple", "list"]
/-! law -/
abbrev s_law : Stmt := topS 84
abbrev N_law : List Str := ["_law_script", "_law_pool_here", "_law_plan_here", "_law_web_here"]
abbrev P_law : List Str := ["_law_script"]
abbrev G_law : List Str := ["_law_pool", "_law_plan", "_law_web", "_law_take", "_law_agrees", "_law_refused", "_law_spoilt", "_law_anew"]
abbrev V_law : List Bool := [true, true, true, true]
theorem sc_law : FnScope N_law P_law (defScope s_law) := fs_by (by decide +kernel)
theorem dc_law : DfC N_law (defScope s_law) V_law V_law G_law := df_by (by decide +kernel)
end Kn
/-! W1: webs as data of Lean; what makes one whole and small; what the module's names hold. -/
namespace Kn
open PySem PySem.Spec PyProof.Rows L2
structure Hd where
  name : Str
  params : List Str
  file : Bool
inductive Ln where
  | plain (s : Str) | use (n : Nat) (x : Str) (as : List Str)
structure Se where
  prose : List Str
  head : Option Hd
  code : List Ln
def Hd.d (h : Hd) : D := .tup [.str h.name, .tup (h.params.map D.str), .bl h.file]
def hdD : Option Hd → D
  | none => .non
  | some h => h.d
def Ln.d : Ln → D
  | .plain s => .tup [.str "plain", .str s]
  | .use n x as => .tup [.str "use", .int (n : Nat), .str x, .tup (as.map D.str)]
def Se.d (s : Se) : D := .tup [.tup (s.prose.map D.str), hdD s.head, .tup (s.code.map Ln.d)]
def webD (w : List Se) : D := .tup (w.map Se.d)
def codes (x : Str) : List Nat := x.cps.toList
theorem codes_len (x : Str) : (codes x).length = x.length := by unfold codes Str.length; simp
structure WordOk (x : Str) : Prop where
  pos : 1 ≤ x.length
  le : x.length ≤ 8
  all : ∀ c ∈ codes x, 97 ≤ c ∧ c ≤ 122
def sgn (c : Nat) : Prop := 32 ≤ c ∧ c ≤ 126 ∧ c ≠ 37
structure LineOk (x : Str) : Prop where
  len : x.length ≤ 40
  all : ∀ c ∈ codes x, sgn c
structure ArgOk (x : Str) : Prop where
  line : LineOk x
  pos : 1 ≤ x.length
  first : (codes x).head? ≠ some 32
  last : (codes x).getLast? ≠ some 32
  no : ∀ c ∈ codes x, c ≠ 44 ∧ c ≠ 40 ∧ c ≠ 41
def Ln.Ok : Ln → Prop
  | .plain s => LineOk s
  | .use n x as => n ≤ 20 ∧ WordOk x ∧ as.length ≤ 3 ∧ ∀ a ∈ as, ArgOk a
structure Hd.Ok (h : Hd) : Prop where
  name : WordOk h.name
  few : h.params.length ≤ 3
  all : ∀ p ∈ h.params, WordOk p
  nd : h.params.Nodup
  file : h.file = true → h.params = []
structure Se.Ok (s : Se) : Prop where
  prose : ∀ l ∈ s.prose, LineOk l
  few : s.prose.length ≤ 8
  head : ∀ h, s.head = some h → h.Ok
  code : ∀ l ∈ s.code, l.Ok
  short : s.code.length ≤ 8
  none : s.head = none → s.code = []
structure WebOk (w : List Se) : Prop where
  se : ∀ s ∈ w, s.Ok
  few : w.length ≤ 12
  one : ∀ s ∈ w, ∀ t ∈ w, ∀ h g, s.head = some h → t.head = some g → h.name = g.name → h = g
/-- what the module's names hold -/
structure Tx (mg : Str → Option Value) : Prop where
  len : mg "len" = none
  enumerate : mg "enumerate" = none
  tuple : mg "tuple" = none
  isinstance : mg "isinstance" = none
  int : mg "int" = none
  bool : mg "bool" = none
  str : mg "str" = none
  list : mg "list" = none
  all : mg "all" = none
  ord : mg "ord" = none
  set : mg "set" = none
  range : mg "range" = none
  repr : mg "repr" = none
  letters : ∃ t, mg "LETTERS" = some (.str "abcdefghijklmnopqrstuvwxyz" t)
  mletters : ∃ t, mg "MOST_LETTERS" = some (.int 8 t)
  mparams : ∃ t, mg "MOST_PARAMS" = some (.int 3 t)
  margs : ∃ t, mg "MOST_ARGUMENTS" = some (.int 3 t)
  mindent : ∃ t, mg "MOST_INDENT" = some (.int 20 t)
/-- a def of the text stands -/
structure At (K : PySem.W.Frag) (mg : Str → Option Value) (x : Str) (st : Stmt) (ps : List Str) : Prop where
  ex : ∃ (f : Addr) (fd : FuncData), Fun K x x st f fd ∧ mg x = some (.ref f) ∧ Binds K fd ps []
section
variable {P : Program} {w : World} {K : PySem.W.Frag} {mg : Str → Option Value} {base : Heap} {N G ps : List Str} {vb wb : List Bool} {x : Str} {st : Stmt} {k : Nat}
theorem At.r {R : List D → D → Prop} (A : At K mg x st ps) (S : FnScope N ps (defScope st)) (dc : DfC N (defScope st) vb wb G) (len : ∀ ds d, R ds d → ds.length = ps.length)
    (body : ∀ X B H ds d, Cz ⟨P, w, K, mg, base, [], B, H⟩ N vb wb G (defScope st) k X → R ds d → Go X ⟨P, w, K, mg, base, [], B, H⟩ (defBody st) (startD N ds) { nx := fun _ => d = .non, rt := fun d' _ => d' = d }) : FnD P w K mg base x (k + 1) (spR K R) := by
  obtain ⟨f, fd, F, g, b⟩ := A.ex
  exact ⟨f, fd, ps, g, F.kp, b, ok_R F S dc len body⟩
theorem At.l {R : List D → O → Prop} (A : At K mg x st ps) (S : FnScope N ps (defScope st)) (dc : DfC N (defScope st) vb wb G) (len : ∀ ds d, R ds d → ds.length = ps.length)
    (body : ∀ X B H ds o, Cz ⟨P, w, K, mg, base, [], B, H⟩ N vb wb G (defScope st) k X → R ds o → Go X ⟨P, w, K, mg, base, [], B, H⟩ (defBody st) (startD N ds) { nx := fun _ => False, rf := fun o' _ => o' = o }) : FnD P w K mg base x (k + 1) (spL K R) := by
  obtain ⟨f, fd, F, g, b⟩ := A.ex
  exact ⟨f, fd, ps, g, F.kp, b, ok_L F S dc len body⟩
theorem At.n {pre : List D → Prop} {post : List D → D → Prop} (A : At K mg x st ps) (S : FnScope N ps (defScope st)) (dc : DfC N (defScope st) vb wb G) (len : ∀ ds, pre ds → ds.length = ps.length)
    (body : ∀ X B H ds, Cz ⟨P, w, K, mg, base, [], B, H⟩ N vb wb G (defScope st) k X → pre ds → Go X ⟨P, w, K, mg, base, [], B, H⟩ (defBody st) (startD N ds) { nx := fun _ => post ds .non, rt := fun d _ => post ds d }) : FnD P w K mg base x (k + 1) (spN K pre post) := by
  obtain ⟨f, fd, F, g, b⟩ := A.ex
  exact ⟨f, fd, ps, g, F.kp, b, ok_N F S dc len body⟩
theorem At.m {pre : List D → Prop} {post : List D → O → Prop} (A : At K mg x st ps) (S : FnScope N ps (defScope st)) (dc : DfC N (defScope st) vb wb G) (len : ∀ ds, pre ds → ds.length = ps.length)
    (body : ∀ X B H ds, Cz ⟨P, w, K, mg, base, [], B, H⟩ N vb wb G (defScope st) k X → pre ds → Go X ⟨P, w, K, mg, base, [], B, H⟩ (defBody st) (startD N ds) { nx := fun _ => False, rf := fun o _ => post ds o }) : FnD P w K mg base x (k + 1) (spM K pre post) := by
  obtain ⟨f, fd, F, g, b⟩ := A.ex
  exact ⟨f, fd, ps, g, F.kp, b, ok_M F S dc len body⟩
theorem At.p {pre : List D → Prop} {post : List D → D → Prop} (A : At K mg x st ps) (S : FnScope N ps (defScope st)) (dc : DfC N (defScope st) vb wb G) (len : ∀ ds, pre ds → ds.length + 1 = ps.length)
    (body : ∀ X B H l c ds, Cz ⟨P, w, K, mg, base, [l], B, H⟩ N vb wb G (defScope st) k X → pre ds → Go X ⟨P, w, K, mg, base, [l], B, H⟩ (defBody st) (startP N l c ds) { nx := fun _ => False, rt := fun d Δ => post ds d ∧ Δ[0]? = some (.own (.pool l (.some c))) }) : FnD P w K mg base x (k + 1) (spP K pre post) := by
  obtain ⟨f, fd, F, g, b⟩ := A.ex
  exact ⟨f, fd, ps, g, F.kp, b, ok_P F S dc len body⟩
end
theorem strs_len (xs : List Str) : (xs.map D.str).length = xs.length := by simp
theorem at_lit {xs : List D} {n : Nat} {d : D} (h : xs[n]? = some d) : atI xs (n : Int) = some d := atI_nat h
end Kn
/-! K21: the pool opened. -/
namespace Kn
open PySem PySem.Spec PyProof.Rows L2
/-- the pool's fields as data -/
def Pool.get (p : Pool) (x : Str) : Option D :=
  if x = "cells" then some (.lst (p.cells.map D.int)) else if x = "at" then some (.int p.at_) else if x = "rest" then some (.int p.rest) else if x = "left" then some (.int p.left) else if x = "small" then some (.bl p.small) else if x = "seed" then some (.int p.seed) else if x = "turn" then some (.int p.turn) else none
/-- a field set -/
inductive PSet : Pool → Str → D → Pool → Prop
  | at_ (p : Pool) (i : Int) (h : 0 ≤ i) : PSet p "at" (.int i) { p with at_ := i }
  | rest (p : Pool) (i : Int) : PSet p "rest" (.int i) { p with rest := i }
  | left (p : Pool) (i : Int) : PSet p "left" (.int i) { p with left := i }
  | small (p : Pool) (i : Bool) : PSet p "small" (.bl i) { p with small := i }
  | turn (p : Pool) (i : Int) : PSet p "turn" (.int i) { p with turn := i }
section
variable {X : Cx} {E : En} {N G : List Str} {vb wb : List Bool} {sc : Scope} {k : Nat} {Δ Δ' : List Slot} {d d1 d2 d3 : D} {a b c e : Expr} {pos p0 px : Pos} {j : Nat} {es : List Expr} {ds : List D} {x y : Str} {l c0 : Addr} {p : Pool}
theorem get_val {K : PySem.W.Frag} {B : Hp} (hc : B c0 = some (.lst (p.cells.map V.int))) (h : p.get x = some d) : ∃ v, valV (poolK c0 p) (.inr x) = some v ∧ Dn K B v d := by
  unfold Pool.get at h
  unfold poolK
  simp only [valV_cons]
  by_cases e1 : x = "cells"
  · rw [if_pos e1] at h; cases h; subst e1; exact ⟨_, rfl, .lst hc DnL.ints⟩
  rw [if_neg e1] at h
  by_cases e2 : x = "at"
  · rw [if_pos e2] at h; cases h; subst e2; exact ⟨_, rfl, .int _⟩
  rw [if_neg e2] at h
  by_cases e3 : x = "rest"
  · rw [if_pos e3] at h; cases h; subst e3; exact ⟨_, rfl, .int _⟩
  rw [if_neg e3] at h
  by_cases e4 : x = "left"
  · rw [if_pos e4] at h; cases h; subst e4; exact ⟨_, rfl, .int _⟩
  rw [if_neg e4] at h
  by_cases e5 : x = "small"
  · rw [if_pos e5] at h; cases h; subst e5; exact ⟨_, rfl, .bl _⟩
  rw [if_neg e5] at h
  by_cases e6 : x = "seed"
  · rw [if_pos e6] at h; cases h; subst e6; exact ⟨_, rfl, .int _⟩
  rw [if_neg e6] at h
  by_cases e7 : x = "turn"
  · rw [if_pos e7] at h; cases h; subst e7; exact ⟨_, rfl, .int _⟩
  rw [if_neg e7] at h
  cases h
/-- pool["x"] -/
theorem ev_pool (C : Cz E N vb wb G sc k X) (i : Nat) (hi : Δ[i]? = some (.own (.pool l (.is c0 p)))) (hx : p.get x = some d) (hv : vb[i]? = some true := by rfl) (hN : N[i]? = some y := by rfl) : Ev X E (.Subscript (.Name y px) (.Constant (.str x) j p0) pos) Δ d := fun σ B H S Q q => by
  obtain ⟨h1, h2, h3⟩ := C.vis i y hv hN
  obtain ⟨l', el, _, _, e0, hl, hc, _⟩ := S.own hi
  obtain ⟨v, hv', rv⟩ := get_val (K := E.K) hc hx
  refine WE.of (pe_dget (hu_of C.room) (pe_var (i := i) (by rw [C.hN]; exact hN) h1 h2 h3) pe_str (fun _ _ => rfl)) ?_
  exact ⟨.ref l', el, l', v, rfl, .inl ⟨_, .inr x, .inl hl, rfl, hv'.symm⟩, q v B H (Pg.refl S.sub) rv⟩
theorem set_put {d : D} {p' : Pool} {v : V} {K : PySem.W.Frag} {B : Hp} (h : PSet p x d p') (r : Dn K B v d) : putK (poolK c0 p) (.inr x) v = poolK c0 p' ∧ p'.cells = p.cells ∧ (0 ≤ p.at_ → 0 ≤ p'.at_) := by
  cases h with
  | at_ i h => cases r; exact ⟨rfl, rfl, fun _ => h⟩
  | rest i => cases r; exact ⟨rfl, rfl, fun h => h⟩
  | left i => cases r; exact ⟨rfl, rfl, fun h => h⟩
  | small i => cases r; exact ⟨rfl, rfl, fun h => h⟩
  | turn i => cases r; exact ⟨rfl, rfl, fun h => h⟩
/-- pool["x"] = e -/
theorem gs_pool (C : Cz E N vb wb G sc k X) (i : Nat) {P : Ps} {p' : Pool} (hi : Δ[i]? = some (.own (.pool l (.is c0 p)))) (he : Ev X E e Δ d) (hp : PSet p x d p') (hP : P.nx (Δ.set i (.own (.pool l (.is c0 p'))))) (hv : vb[i]? = some true := by rfl) (hN : N[i]? = some y := by rfl)
    {pos2 spos : Pos} (hs : swapsWith e (some (.Subscript (.Name y px) (.Constant (.str x) j p0) pos2)) spos.line X.env = pure false := by rfl) : GoS X E (.Assign [.Subscript (.Name y px) (.Constant (.str x) j p0) pos2] e spos) Δ P := fun σ B H S D0 M => by
  obtain ⟨h1, h2, h3⟩ := C.vis i y hv hN
  refine WS.of (ps_dput (hu_of C.room) (pe_var (i := i) (by rw [C.hN]; exact hN) h1 h2 h3) pe_str (pe_W e) hs) ?_
  refine he σ B H S _ fun v B1 H1 p1 r1 => ?_
  have S1 := S.step p1
  obtain ⟨l', el, _, _, e0, hl, hc, ha⟩ := S1.own hi
  obtain ⟨q1, q2, q3⟩ := set_put (c0 := c0) hp r1
  refine ⟨.ref l', el, l', _, rfl, DPut.k (k := .inr x) hl (sz_lt (by show 7 < 1000000; decide)), M.nx σ B1 _ _ p1.eb (S1.put (p := .pool l (.is c0 p')) (u := .dK (putK (poolK c0 p) (.inr x) v)) hi el ⟨e0, by rw [upd_same, q1], by rw [q2]; exact hc, q3 ha⟩ fun m c h => ⟨l, .is c0 p', rfl⟩) hP⟩
/-- the pool as it stands -/
theorem go_open {P : Ps} {sts : List Stmt} (i : Nat) (hi : Δ[i]? = some (.own (.pool l (.some c0)))) (h : ∀ p : Pool, 0 ≤ p.at_ → Go X E sts (Δ.set i (.own (.pool l (.is c0 p)))) P) : Go X E sts Δ P := fun σ B H S D0 M => by
  obtain ⟨l', el, nB, mE, e0, p, hl, hc, ha⟩ := S.own hi
  refine h p ha σ B H ⟨S.sub, S.rn, fun j s hj => ?_, fun j k o q l2 g1 g2 g3 g4 => ?_⟩ D0 M
  · rcases getElem?_set_cases hj with ⟨e, hs⟩ | ⟨ne, hj⟩
    · subst e hs
      exact ⟨l', el, nB, mE.imp id fun z => ⟨⟨_, _, rfl⟩, z.2⟩, e0, hl, hc, ha⟩
    · exact S.sl j s hj
  · have back : ∀ {j : Nat} {o : O}, (Δ.set i (.own (.pool l (.is c0 p))))[j]? = some (.own o) → ∃ o2, Δ[j]? = some (.own o2) := fun {j o} q => by
      rcases getElem?_set_cases q with ⟨e, hs⟩ | ⟨e, q⟩
      · subst e; exact ⟨_, hi⟩
      · exact ⟨o, q⟩
    obtain ⟨o1, w1⟩ := back g1
    obtain ⟨o2, w2⟩ := back g2
    exact S.ap j k o1 o2 l2 w1 w2 g3 g4
theorem Sees.shut {σ : L2.St} {B H : Hp} (S : Sees E Δ σ B H) {i : Nat} (hi : Δ[i]? = some (.own (.pool l (.is c0 p)))) : Sees E (Δ.set i (.own (.pool l (.some c0)))) σ B H := by
  obtain ⟨l', el, nB, mE, e0, hl, hc, ha⟩ := S.own hi
  refine ⟨S.sub, S.rn, fun j s hj => ?_, fun j k o q l2 g1 g2 g3 g4 => ?_⟩
  · rcases getElem?_set_cases hj with ⟨e, hs⟩ | ⟨ne, hj⟩
    · subst e hs
      exact ⟨l', el, nB, mE.imp id fun z => ⟨⟨_, _, rfl⟩, z.2⟩, e0, p, hl, hc, ha⟩
    · exact S.sl j s hj
  · have back : ∀ {j : Nat} {o : O}, (Δ.set i (.own (.pool l (.some c0))))[j]? = some (.own o) → ∃ o2, Δ[j]? = some (.own o2) := fun {j o} q => by
      rcases getElem?_set_cases q with ⟨e, hs⟩ | ⟨e, q⟩
      · subst e; exact ⟨_, hi⟩
      · exact ⟨o, q⟩
    obtain ⟨o1, w1⟩ := back g1
    obtain ⟨o2, w2⟩ := back g2
    exact S.ap j k o1 o2 l2 w1 w2 g3 g4
/-- return, the pool told less -/
theorem gs_retP {P : Ps} (i : Nat) (hi : Δ[i]? = some (.own (.pool l (.is c0 p)))) (he : Do X E e Δ fun d => P.rt d (Δ.set i (.own (.pool l (.some c0))))) : GoS X E (.Return (some e) pos) Δ P := fun σ B H S D0 M => WS.of (ps_ret (pe_W e)) (he σ B H S _ fun v B' H' d x S' r hP => M.rt v σ B' H' d _ x.eb (S'.shut hi) r hP)
theorem DnL.set {K : PySem.W.Frag} {B : Hp} {v : V} {d : D} : ∀ {vs : List V} {ds : List D} (m : Nat), DnL K B vs ds → Dn K B v d → DnL K B (vs.set m v) (ds.set m d)
  | _, _, _, .nil, _ => .nil
  | _, _, 0, .cons _ r, h => .cons h r
  | _, _, m + 1, .cons h r, h2 => .cons h (DnL.set m r h2)
/-- xs[i] = e -/
theorem gs_lset (C : Cz E N vb wb G sc k X) (i : Nat) {P : Ps} {n : Int} {m : Nat} (hi : Δ[i]? = some (.own (.lst ds))) (he : Ev X E e Δ d) (hb : Ev X E b Δ (.int n)) (hn : ixN ds.length n = some m) (hP : P.nx (Δ.set i (.own (.lst (ds.set m d))))) (hv : vb[i]? = some true := by rfl) (hN : N[i]? = some y := by rfl)
    {pos2 spos : Pos} (hs : swapsWithSole [.Subscript (.Name y px) b pos2] e spos.line X.env = pure false := by rfl) (hw : swappedStores [.Subscript (.Name y px) b pos2] e X.env = pure none := by rfl) (h1' : (assignEach [.Subscript (.Name y px) b pos2] X.env).map (·.2) = [assign (.Subscript (.Name y px) b pos2) X.env] := by rfl)
    (ha : ∀ v, assign (.Subscript (.Name y px) b pos2) X.env v = (do
      let ov ← holding [v] (eval (.Name y px) X.env)
      let iv ← holding [v, ov] (eval b X.env)
      standAt pos2
      holding [v, ov, iv] (setItem ov iv v)
      release [v, ov, iv] []) := by intro _; rfl) : GoS X E (.Assign [.Subscript (.Name y px) b pos2] e spos) Δ P := fun σ B H S D0 M => by
  obtain ⟨h1, h2, h3⟩ := C.vis i y hv hN
  refine WS.of (ps_asg (pe_W e) (pg_sub (pe_var (i := i) (by rw [C.hN]; exact hN) h1 h2 h3) (pe_W b) set_list ha) hs hw h1') ?_
  refine he σ B H S _ fun v B1 H1 p1 r1 => ?_
  obtain ⟨l, el, _⟩ := S.own hi
  refine ⟨.ref l, el, hb σ B1 H1 (S.step p1) _ fun u B2 H2 p2 r2 => ?_⟩
  cases r2
  have S2 := (S.step p1).step p2
  obtain ⟨l', el', _, _, ws, hl, rl⟩ := S2.own hi
  rw [el] at el'; cases el'
  exact ⟨l, ws, n, m, rfl, rfl, hl, by rw [rl.length]; exact hn, M.nx σ B2 _ _ (p1.trans p2).eb (own_upd S2 hi el (DnL.set m rl (r1.mono p2.eb))) hP⟩
end
end Kn
/-! L1: the pool. -/
namespace Kn
open PySem PySem.Spec PyProof.Rows L2
section
variable {P : Program} {w : World} {K : PySem.W.Frag} {mg : Str → Option Value} {base : Heap}
/-- a number below n -/
def Below (n : Int) (d : D) : Prop := ∃ i : Nat, d = .int (i : Nat) ∧ (i : Int) < n
theorem below_mod {x m : Int} (h : 0 < m) : Below m (.int (x % m)) := by
  have h1 := Int.emod_nonneg x (Int.ne_of_gt h)
  have h2 := Int.emod_lt_of_pos x h
  exact ⟨(x % m).toNat, by rw [Int.toNat_of_nonneg h1], by rw [Int.toNat_of_nonneg h1]; exact h2⟩
theorem ok_mixed (T : Tx mg) (A : At K mg "_law_mixed" s_l_mixed P_l_mixed) (n t m : Int) (hm : 0 < m) : FnD P w K mg base "_law_mixed" 1 (spN K (fun ds => ds = [.int n, .int t, .int m]) fun _ d => Below m d) := by
  refine A.n sc_l_mixed dc_l_mixed (fun ds h => by subst h; rfl) fun X B H ds C hR => ?_
  subst hR
  show Go X _ _ [.d (.int n), .d (.int t), .d (.int m), .un, .un, .un] _
  refine go_cons (gs_set C 3 (Do.of ev_int ?_))
  have h0 : (0 : Int) < 2305843009213693951 := by decide
  refine go_cons (gs_set C 4 (Do.of (ev_mod (ev_intI C 0 (ev_add (ev_add (ev_mul (ev_nm C 0 rfl) ev_int (.inr ⟨by decide, by decide⟩)) (ev_mul (ev_nm C 1 rfl) ev_int (.inr ⟨by decide, by decide⟩))) ev_int) T.int) (ev_nm C 3 rfl) h0) ?_))
  have h1 := Int.emod_nonneg (n * 48271 + t * 1000000000039 + 12345678910111213) (Int.ne_of_gt h0)
  have h2 := Int.emod_lt_of_pos (n * 48271 + t * 1000000000039 + 12345678910111213) h0
  generalize hg : (n * 48271 + t * 1000000000039 + 12345678910111213) % 2305843009213693951 = o at h1 h2
  refine go_cons (gs_set C 5 (Do.of (ev_mod (ev_mul (ev_intI C 0 (ev_add (ev_mul (ev_nm C 4 rfl) (ev_nm C 4 rfl) (.inl ⟨by omega, by omega⟩)) (ev_nm C 1 rfl)) T.int) ev_int (.inr ⟨by decide, by decide⟩)) (ev_nm C 3 rfl) h0) ?_))
  exact go_cons (gs_ret (Do.of (ev_mod (ev_fdiv (ev_nm C 5 rfl) ev_int ⟨by decide, by decide⟩) (ev_nm C 2 rfl) hm) (below_mod hm)))
def pre_take : List D → Prop := fun ds => ∃ m : Int, ds = [.int m] ∧ 0 < m ∧ m ≤ 1000000
def post_take : List D → D → Prop := fun ds d => ∀ m : Int, ds = [.int m] → Below m d
theorem ok_take (T : Tx mg) (A : At K mg "_law_take" s_l_take P_l_take) (A1 : At K mg "_law_mixed" s_l_mixed P_l_mixed) : FnD P w K mg base "_law_take" 2 (spP K pre_take post_take) := by
  refine A.p sc_l_take dc_l_take (fun ds h => by obtain ⟨_, rfl, _⟩ := h; rfl) fun X B H l c ds C hR => ?_
  obtain ⟨m, rfl, hm, hm2⟩ := hR
  show Go X _ _ [.own (.pool l (.some c)), .d (.int m), .un] _
  refine go_open 0 rfl fun p hp => ?_
  show Go X _ _ [.own (.pool l (.is c p)), .d (.int m), .un] _
  have fin : ∀ d, Below m d → post_take [.int m] d := fun d h m' e => by injection e with e; injection e with e; subst e; exact h
  refine go_cons (gs_pool C 0 rfl (ev_add (ev_pool C 0 rfl rfl) ev_int) (.turn p _) ?_)
  have hlen : ∀ q : Pool, LenD (D.lst (q.cells.map D.int)) (q.cells.map D.int).length := fun q => .lst _
  refine go_cons (gs_via (fun Δ' => ∃ q : Pool, 0 ≤ q.at_ ∧ Δ' = [.own (.pool l (.is c q)), .d (.int m), .un]) (gs_ifE (ew_and (et_cmp co_eqI (ev_pool C 0 rfl rfl).r ev_int.r) fun _ => ew_and1 (et_cmp co_lt (ev_pool C 0 rfl rfl).r (ev_len C 0 (ev_pool C 0 rfl rfl).r (hlen _) T.len).r)).t (fun h => ?_) (fun _ => go_nil ⟨{ p with turn := p.turn + 1 }, hp, rfl⟩)) ?_)
  · have hlt : p.at_ < (p.cells.length : Int) := by
      have := (Bool.and_eq_true_iff.mp h).2
      have := of_decide_eq_true this
      rw [List.length_map] at this
      exact this
    obtain ⟨a, ha⟩ : ∃ a : Nat, p.at_ = (a : Int) := ⟨p.at_.toNat, (Int.toNat_of_nonneg hp).symm⟩
    obtain ⟨x, hx⟩ : ∃ x, p.cells[a]? = some x := ⟨_, List.getElem?_eq_getElem (by omega)⟩
    refine go_cons (gs_pool C 0 rfl (ev_ix (d := .int x) C (ev_pool C 0 rfl rfl).r (ev_pool (d := .int (a : Int)) C 0 rfl (by rw [← ha]; rfl)) rfl (atI_nat (by rw [List.getElem?_map, hx]; rfl))) (.rest _ x) ?_)
    refine go_cons (gs_pool C 0 rfl (ev_add (ev_pool C 0 rfl rfl) ev_int) (.at_ _ _ (by show 0 ≤ p.at_ + 1; omega)) ?_)
    refine go_cons (gs_pool C 0 rfl (ev_cmp co_lt (ev_pool C 0 rfl rfl).r (ev_pow ev_int ev_int ⟨by decide, by decide, by decide⟩).r) (.small _ _) ?_)
    refine go_cons (gs_pool C 0 rfl (ev_ix (d := .int (if decide (x < (10 : Int) ^ 18) then 2 else 60)) C (EvF.lr (ef_lst (ea_cons ev_int (ea_cons ev_int ea_nil)))) (ev_intB C 1 (ev_pool C 0 rfl rfl) T.int) rfl ?_) (.left _ _) ?_)
    · by_cases h : x < (10 : Int) ^ 18
      · have e : decide (x < (10 : Int) ^ ((18 : Int).toNat)) = true := decide_eq_true h
        rw [e, if_pos rfl, decide_eq_true h]; rfl
      · have e : decide (x < (10 : Int) ^ ((18 : Int).toNat)) = false := decide_eq_false h
        rw [e, if_neg Bool.false_ne_true, decide_eq_false h]; rfl
    · refine go_nil ⟨_, ?_, rfl⟩
      show 0 ≤ p.at_ + 1
      omega
  rintro _ ⟨q, hq, rfl⟩
  refine go_cons (gs_ifE (et_cmp co_eqI (ev_pool C 0 rfl rfl).r ev_int.r) (fun _ => ?_) (fun _ => go_nil ?_))
  · exact go_cons (gs_retP 0 rfl (do_callN C 2 (ok_mixed (P := P) (w := w) (base := base) T A1 q.seed q.turn m hm) (DoA.of (ea_cons (ev_pool C 0 rfl rfl) (ea_cons (ev_pool C 0 rfl rfl) (ea_cons (ev_nm C 1 rfl) ea_nil))) ⟨rfl, fun d hd => ⟨fin d hd, rfl⟩⟩)))
  refine go_cons (gs_pool C 0 rfl (ev_sub (ev_pool C 0 rfl rfl) ev_int) (.left q _) ?_)
  refine go_cons (gs_ifE (et_val (ev_pool C 0 rfl rfl)) (fun _ => ?_) (fun _ => go_nil ?_))
  · exact go_cons (gs_retP 0 rfl (do_callN C 2 (ok_mixed (P := P) (w := w) (base := base) T A1 q.rest q.turn m hm) (DoA.of (ea_cons (ev_pool C 0 rfl rfl) (ea_cons (ev_pool C 0 rfl rfl) (ea_cons (ev_nm C 1 rfl) ea_nil))) ⟨rfl, fun d hd => ⟨fin d hd, rfl⟩⟩)))
  refine go_cons (gs_set C 2 (Do.of (ev_mod (ev_intI C 1 (ev_pool C 0 rfl rfl) T.int) (ev_nm C 1 rfl) hm) ?_))
  refine go_cons (gs_pool C 0 rfl (ev_fdiv (ev_pool C 0 rfl rfl) (ev_nm C 1 rfl) ⟨hm, by omega⟩) (.rest _ _) ?_)
  refine go_cons (gs_via (fun Δ' => ∃ q2 : Pool, Δ' = [.own (.pool l (.is c q2)), .d (.int m), .d (.int (q.rest % m))]) (gs_ifE (et_cmp co_eqI (ev_pool C 0 rfl rfl).r ev_int.r) (fun _ => ?_) (fun _ => go_nil ⟨_, rfl⟩)) ?_)
  · refine go_cons (gs_pool C 0 rfl ev_int (.left _ _) ?_)
    exact go_nil ⟨_, rfl⟩
  rintro _ ⟨q2, rfl⟩
  exact go_cons (gs_retP 0 rfl (Do.of (ev_nm C 2 rfl) ⟨fin _ (below_mod hm), rfl⟩))
end
end Kn
/-! K22: more of what draws want. -/
namespace Kn
open PySem PySem.Spec PyProof.Rows L2
section
variable {X : Cx} {E : En} {N G : List Str} {vb wb : List Bool} {sc : Scope} {k : Nat} {Δ Δ' : List Slot} {d d1 d2 d3 : D} {a b c e o f : Expr} {pos p apos cpos px : Pos} {j : Nat} {es : List Expr} {ds : List D} {x y : Str}
/-- sep.join(a new list of texts) -/
theorem do_join {P : D → Prop} {z : Str} (C : Cz E N vb wb G sc k X) (ho : Ev X E o Δ (.str z)) (ha : DoF X E e Δ fun w => ∃ xs : List Str, w = .lst (xs.map D.str) ∧ (xs.map (·.length)).sum + xs.length * z.length ≤ 1000000 ∧ P (.str (Txt.join z xs)))
    (hbase : attributeBase o "join" X.env (eval o X.env) = eval o X.env := by rfl)
    (hfew : ((backTo cpos (starEach [e] X.env)).all (fun x => !x.1) && (backToKw cpos (keywordEach [] X.env)).all (fun x => x.1.isSome) && decide (([e] : List Expr).length + ([] : List Keyword).length + (if ([] : List Keyword).isEmpty then 0 else 1) < 30)) = true := by rfl)
    (hline : (apos.endLine == cpos.line) = true := by rfl) (hs : starEach [e] X.env = (false, eval e X.env) :: starEach [] X.env := by rfl) : Do X E (.Call (.Attribute o "join" apos) [e] [] cpos) Δ P := fun σ B H S Q q =>
  WE.of (pe_bm PySem.F.plainAttrs_str PySem.F.slot_str_join PySem.F.type_str_join mt_join (pe_W o) (pa_cons (pe_W e) pa_nil hs) hbase hfew hline hs rfl) (ho σ B H S _ fun v B1 H1 p1 r1 => by
    cases r1
    refine ⟨rfl, ha σ B1 H1 (S.step p1) _ fun l B2 H2 w x2 S2 hl hB ho ⟨xs, ew, hlen, hP⟩ => ?_⟩
    subst ew
    obtain ⟨vs, hvs, rvs⟩ := ho
    rw [rvs.of_strs] at hvs
    exact ⟨z, l, xs, rfl, rfl, .inl (SqL.of hvs), Nat.le_trans hlen (by decide), q _ B2 H2 _ ((Pp.of p1).trans x2) S2 (.str _) hP⟩)
/-- tuple(a new list) -/
theorem do_tupleF {P : D → Prop} (C : Cz E N vb wb G sc k X) (i : Nat) (ha : DoF X E a Δ fun w => ∃ xs : List D, w = .lst xs ∧ P (.tup xs)) (hm : E.mg "tuple" = none) (hG : G[i]? = some ("tuple" : Str) := by rfl) (he : starEach [a] X.env = (false, eval a X.env) :: starEach [] X.env := by rfl) : Do X E (.Call (.Name "tuple" p) [a] [] pos) Δ P := fun σ B H S Q q => by
  obtain ⟨h1, h2⟩ := C.gl i _ hG
  refine WE.of (pe_callTy call_tuple_of h1 (by rw [C.hm]; exact hm) boot_tuple (pa_cons (pe_W a) pa_nil he) (by decide) h2 he rfl) (ha σ B H S _ fun l B1 H1 w x1 S1 hl hB r ⟨xs, ew, hP⟩ => ?_)
  subst ew
  obtain ⟨vs, hvs, rvs⟩ := r
  exact ⟨l, vs, rfl, .inl ⟨SqL.of hvs, fun m nm => q _ _ _ _ (x1.trans (.of (Pg.new S1.sub nm))) (S1.step (Pg.new S1.sub nm)) (.tup upd_same (rvs.mono (Ex.new (S1.sub.free nm)))) hP⟩⟩
/-- int(a test's value) -/
theorem do_intB {P : D → Prop} (C : Cz E N vb wb G sc k X) (i : Nat) (ha : Do X E a Δ fun d => ∃ b : Bool, d = .bl b ∧ P (.int (if b then 1 else 0))) (hm : E.mg "int" = none) (hG : G[i]? = some ("int" : Str) := by rfl) (he : starEach [a] X.env = (false, eval a X.env) :: starEach [] X.env := by rfl) : Do X E (.Call (.Name "int" p) [a] [] pos) Δ P := fun σ B H S Q q => by
  obtain ⟨h1, h2⟩ := C.gl i _ hG
  refine WE.of (pe_callTy call_int1 h1 (by rw [C.hm]; exact hm) (by decide +kernel) (pa_cons (pe_W a) pa_nil he) (by decide) h2 he rfl) (ha σ B H S _ fun v B1 H1 d x1 S1 r1 ⟨b, eb, hP⟩ => ?_)
  subst eb
  cases r1
  exact .inr ⟨b, rfl, q _ B1 H1 _ x1 S1 (.int _) hP⟩
theorem do_mul {P : D → Prop} (h : Do X E a Δ fun d1 => Do X E b Δ fun d2 => ∃ i j, d1 = .int i ∧ d2 = .int j ∧ CMul i j ∧ P (.int (i * j))) : Do X E (.BinOp a .Mult b pos) Δ P :=
  do_two (fun _ _ => pe_op op_mul) (h.mono fun d1 h1 => h1.mono fun d2 ⟨i, j, e1, e2, hc, hP⟩ => by subst e1 e2; exact ⟨_, rd_I hc, hP⟩)
theorem rd_lt {i j : Int} {K : PySem.W.Frag} : RD K (rI0 fun i j => .bl (decide (i < j))) (.int i) (.int j) (.bl (decide (i < j))) := fun B H v u e h1 h2 Q q => ⟨i, j, h1.int_inv, h2.int_inv, q _ B H (Pg.refl e) (.bl _)⟩
theorem dt_ltI {P : Bool → Prop} (h : Do X E a Δ fun d1 => Do X E b Δ fun d2 => ∃ i j, d1 = .int i ∧ d2 = .int j ∧ P (decide (i < j))) (hm : behindInMarks .Lt b = false := by first | exact nomark _ | rfl) : DoT X E (.Compare a [.Lt] [b] pos) Δ P :=
  dt_cmp op_lt (h.mono fun d1 h1 => h1.mono fun d2 ⟨i, j, e1, e2, hP⟩ => by subst e1 e2; exact ⟨_, rd_lt, hP⟩) hm
theorem rd_gt {i j : Int} {K : PySem.W.Frag} : RD K (rI0 fun i j => .bl (decide (j < i))) (.int i) (.int j) (.bl (decide (j < i))) := fun B H v u e h1 h2 Q q => ⟨i, j, h1.int_inv, h2.int_inv, q _ B H (Pg.refl e) (.bl _)⟩
theorem dt_gtI {P : Bool → Prop} (h : Do X E a Δ fun d1 => Do X E b Δ fun d2 => ∃ i j, d1 = .int i ∧ d2 = .int j ∧ P (decide (j < i))) (hm : behindInMarks .Gt b = false := by first | exact nomark _ | rfl) : DoT X E (.Compare a [.Gt] [b] pos) Δ P :=
  dt_cmp op_gt (h.mono fun d1 h1 => h1.mono fun d2 ⟨i, j, e1, e2, hP⟩ => by subst e1 e2; exact ⟨_, rd_gt, hP⟩) hm
/-- a list that a name owns is lent for an expression that gives a text -/
theorem do_lend {P : D → Prop} (i : Nat) (hi : Δ[i]? = some (.own (.lst ds))) (h : Do X E e (Δ.set i (.d (.lst ds))) P) (txt : ∀ d, P d → ∃ x, d = .str x) : Do X E e Δ P := fun σ B H S Q q => by
  obtain ⟨B2, ex, S2, _⟩ := S.freeze hi rfl
  refine h σ B2 H S2 Q fun v B' H' d x' S' r hP => ?_
  obtain ⟨t, rfl⟩ := txt d hP
  cases r
  have pools : ∀ (n : Nat) (m : Addr) (c : PoolSt), (Δ.set i (.d (.lst ds)))[n]? = some (Slot.own (.pool m c)) → Δ[n]? = some (Slot.own (.pool m c)) := fun n m c hn => by
    rcases getElem?_set_cases hn with ⟨_, z⟩ | ⟨_, z⟩
    · cases z
    · exact z
  have keep : ∀ a o, (∀ (n : Nat) (m : Addr) (c : PoolSt), Δ[n]? = some (Slot.own (.pool m c)) → σ[n]? ≠ some (some (V.ref a))) → H a = some o → H' a = some o := fun a o hn ha => x'.eh a o (fun n m c hn2 => hn n m c (pools n m c hn2)) ha
  have sub : Ex B H' := (ex.trans x'.eb).trans S'.sub
  have S3 : Sees E Δ σ B H' := by
    refine ⟨sub, ⟨S.rn.eb, S'.rn.eh, S'.rn.th, S.rn.fr⟩, fun n s hs => ?_, S.ap⟩
    have w := S.sl n s hs
    cases s with
    | un => trivial
    | d y => exact w
    | own o2 =>
      obtain ⟨l, el, nB, mE, ho⟩ := w
      refine ⟨l, el, nB, mE, ?_⟩
      have notp : (∀ m c, o2 ≠ .pool m c) → H' l = H l := fun hnp => by
        cases hl : H l with
        | none => exact absurd hl ho.there
        | some u =>
          refine keep l u (fun n2 m c hn2 e2 => ?_) hl
          have := S.ap n n2 _ _ _ hs hn2 el e2
          subst this
          rw [hs] at hn2
          cases hn2
          exact hnp m c rfl
      cases o2 with
      | lst ys => exact ho.mono (Ex.refl B) (notp fun m c h => by cases h)
      | dK ys => exact ho.mono (Ex.refl B) (notp fun m c h => by cases h)
      | dT ys => exact ho.mono (Ex.refl B) (notp fun m c h => by cases h)
      | pool m c =>
        have hne : i ≠ n := by rintro rfl; rw [hi] at hs; cases hs
        obtain ⟨l3, el3, _, _, ho3⟩ := S'.own (i := n) (o := .pool m c) (by rw [List.getElem?_set_ne hne]; exact hs)
        rw [el] at el3; cases el3
        cases c with
        | none => exact ho3
        | is c p =>
          obtain ⟨z1, z2, z3, z4⟩ := ho3
          obtain ⟨_, _, w3, _⟩ := ho
          exact ⟨z1, z2, w3, z4⟩
        | some c =>
          obtain ⟨z1, p, z2, z3, z4⟩ := ho3
          obtain ⟨_, p0, _, w3, _⟩ := ho
          have w4 := (ex.trans x'.eb) _ _ w3
          rw [z3] at w4
          refine ⟨z1, p, z2, ?_, z4⟩
          rw [w3]
          injection w4 with w4
          rw [w4]
  exact q _ B H' _ ⟨Ex.refl B, keep, x'.th, fun _ _ h => h⟩ S3 (.str t) hP
end
end Kn
/-! KS: set(..) of distinct texts. -/
namespace Kn
open PySem PySem.Spec PyProof.Rows L2
theorem text_at : ∀ {us : List Value} {zs : List Str}, StrsAre us zs → ∀ (i : Nat) (v : Value), us[i]? = some v → ∃ t, v = .str (zs.getD i Str.empty) t
  | _, _, .nil, i, v, h => by simp at h
  | _, _, .cons n t r, 0, v, h => ⟨t, by simp at h; rw [← h]; rfl⟩
  | _, _, .cons n t r, i + 1, v, h => by obtain ⟨u, e⟩ := text_at r i v (by simpa using h); exact ⟨u, by rw [e]; rfl⟩
theorem texts_of : ∀ {zs : List Str} {us : List Value}, Vals (zs.map V.str) us → StrsAre us zs
  | [], _, .nil => .nil
  | x :: zs, _, .cons r t => by obtain ⟨k, rfl⟩ := r; exact .cons x k (texts_of t)
theorem snoc_any {α : Type} [BEq α] [LawfulBEq α] [DecidableEq α] {zs : List α} {i : Nat} {x : α} (hx : zs[i]? = some x) (k : α) : ((zs.take i).any (· == k) || decide (k = x)) = (zs.take (i + 1)).any (· == k) := by
  rw [List.take_add_one, hx, List.any_append]
  have e : (decide (k = x)) = (x == k) := by
    by_cases h : k = x
    · subst h; simp
    · rw [decide_eq_false h]; exact (beq_false_of_ne fun z => h z.symm).symm
  rw [e]
  simp
section
variable {prog : Program} {w : World} {A : Around} {R : Result → Shared → Prop} {I : Addr} {fp wr : List Addr} {G : Array GenState → Array GenState → Prop} {n : Nat} {P : Nat → Value → Prop} {St : Nat → Shared → Prop}
theorem set_turns (W : WalksS prog w A.in1 I fp wr G n P St) (S : Addr) (far : S ∉ fp) (zs : List Str) (hsz : zs.length = n) (nd : zs.Nodup) (few : n ≤ 1000) (hv : ∀ i v, P i v → ∃ t, v = .str (zs.getD i Str.empty) t) :
    ∀ (m i : Nat) (s : Shared), n - i = m → i ≤ n → St i s → s.heap.SetOf (PySem.strKind prog w) S (fun z => (zs.take i).any (· == z)) i →
      (∀ s', Moved (S :: wr) G s s' → s'.heap.SetOf (PySem.strKind prog w) S (fun z => (zs.take n).any (· == z)) n → R (.ok (.ret .none)) s') → codeAny (model prog w) A (.builtin "set.update.loop" ⟨[.ref S, .ref I], []⟩) R s := by
  have far2 : S ∉ wr := fun z => far (W.sub _ z)
  have wide : ∀ b ∈ wr, b ∈ S :: wr := fun b z => List.mem_cons_of_mem _ z
  have keep : ∀ {j : Nat} {s s' : Shared}, Moved wr G s s' → s.heap.SetOf (PySem.strKind prog w) S (fun z => (zs.take j).any (· == z)) j → s'.heap.SetOf (PySem.strKind prog w) S (fun z => (zs.take j).any (· == z)) j := fun hm hS => by
    obtain ⟨o, es, ep, tb, ho, q⟩ := hS; exact ⟨o, es, ep, tb, hm.heap S _ far2 ho, q⟩
  intro m
  induction m with
  | zero =>
    intro i s hm hi st hS k
    have e : i = n := by omega
    subst e
    refine codeAny_builtin PyProof.Rows.F.entry_set_update_loop ?_; rw [Around.under_plainId PyProof.Rows.F.plain_set_update_loop _]; show wpAny _ A.in1 (pyNext (.ref I) >>= _) _ _ s
    refine wpAny_bind (W.done s _ _ st fun s' hm => ?_); show wpAny _ A.in1 (ret Value.none) _ _ s'; exact wpAny_pure (k s' (hm.mono wide) (keep hm hS))
  | succ m ih =>
    intro i s hm hi st hS k
    have hlt : i < n := by omega
    refine codeAny_builtin PyProof.Rows.F.entry_set_update_loop ?_; rw [Around.under_plainId PyProof.Rows.F.plain_set_update_loop _]; show wpAny _ A.in1 (pyNext (.ref I) >>= _) _ _ s
    refine wpAny_bind (W.item i s _ _ hlt st fun v s' hP st' hm => ?_); obtain ⟨t, rfl⟩ := hv i v hP
    have hS1 := keep hm hS
    have hx : zs[i]? = some (zs.getD i Str.empty) := by rw [List.getD_eq_getElem?_getD, List.getElem?_eq_getElem (by omega)]; rfl
    have nin : (zs.take i).any (· == zs.getD i Str.empty) = false := by
      cases hb : (zs.take i).any (· == zs.getD i Str.empty) with
      | false => rfl
      | true =>
        obtain ⟨y, hy, ey⟩ := List.any_eq_true.mp hb
        have ey2 : y = zs.getD i Str.empty := eq_of_beq ey
        obtain ⟨j, hj⟩ := List.mem_iff_getElem?.mp hy
        rw [List.getElem?_take] at hj
        split at hj
        · rename_i hji
          obtain ⟨hjl, ej⟩ := List.getElem?_eq_some_iff.mp hj; obtain ⟨hil, ei⟩ := List.getElem?_eq_some_iff.mp hx
          exact absurd (ej.trans (ey2.trans ei.symm)) (List.pairwise_iff_getElem.mp nd j i hjl hil hji)
        · cases hj
    show wpAny _ A.in1 (holding [Value.str (zs.getD i Str.empty) t] (setAdd S (.str (zs.getD i Str.empty) t)) >>= _) _ _ s'
    refine wpAny_bind (wpAny_holding ?_); unfold setAdd; refine wpAny_holding ?_
    refine wpAny_bind ((PySem.strKind prog w).pyHash (k := zs.getD i Str.empty) (strKind_is _ _ _ _) ?_)
    refine wpAny_setAddHashed_of (knd := PySem.strKind prog w) (s := { s' with toks := s'.toks + 1 }) (strKind_is _ _ _ _) rfl hS1 (by unfold scanBound; omega) fun h' same hS2 => ?_
    have hS3 : h'.SetOf (PySem.strKind prog w) S (fun z => (zs.take (i + 1)).any (· == z)) (i + 1) := PyProof.Rows.SetOf_congr hS2 (fun z => snoc_any hx z) (by show (if (zs.take i).any _ = true then _ else _) = _; rw [nin]; rfl)
    refine wpAny_pure ⟨plainId_quiet PyProof.Rows.F.plain_set_update_loop _, ih (i + 1) _ (by omega) hlt (W.frame _ s' _ _ st' (Nat.le_succ _) fun b hb o e => ?_) hS3 fun s2 hm2 hS4 => ?_⟩
    · rw [same.2 b (fun z : b = S => far (by rw [← z]; exact hb))]; exact e
    · refine k s2 (Moved.trans W.gtrans ((hm.mono wide).then_heap (Nat.le_succ _) fun b o hb e => ?_) hm2) hS4; rw [same.2 b (fun z : b = S => hb (by rw [z]; exact List.mem_cons_self))]; exact e
end
section
variable {prog : Program} {w : World} {A : Around} {E : Value → Shared → Prop} {s : Shared}
/-- the new set's object -/
def setNew (ledd : Bool) : Obj := { cls := .type "set", dict := none, data := .set #[] 0 (.fresh 0 0 ledd) }
theorem call_set_texts {lx : Addr} {its : Array Value} {zs : List Str} {Q : Value → Shared → Prop} (calm : A.handled = none) (hl : s.heap.IsTuple lx its) (hi : PyProof.Rows.StrsAre its.toList zs) (nd : zs.Nodup) (few : zs.length ≤ 1000)
    (k : ∀ (h' : Heap) (tk : Nat), h'.SetOf (PySem.strKind prog w) s.heap.objs.size (fun z => (zs.take its.size).any (· == z)) its.size → (∀ b o, b < s.heap.objs.size → s.heap.get? b = some o → h'.get? b = some o) → Q (.ref s.heap.objs.size) { s with heap := h', toks := tk }) :
    wpAny (model prog w) A (call (.type "set") [.ref lx]) Q E s := by
  obtain ⟨c, tll, hmr⟩ := PySem.F.called_set.mro
  have hmade := PySem.F.called_set.made; have hsub := PySem.F.called_set.sub
  refine wpAny_call (codeAny_of_tree ?_); show wpAny _ _ (callAny (.type "set") _) _ _ _
  refine wpAny_pure ⟨Code.quiet_builtin _ (by decide +kernel), codeAny_builtin PySem.F.entry_type_call ?_⟩
  rw [Around.under_plain (weight_type_call_type "set" [.ref lx] []) rfl]
  have h1 := PySem.F.called_set.notType; have h2 := PySem.F.called_set.canCreate; have hct := PySem.F.typeCall_set_1 (.ref lx)
  repeat any_goals (first | assumption | wp_step)
  refine codeAny_mono (code_set_new_1 (.ref lx) (E := E) (Q₁ := fun obj s₁ => ∃ ledd : Bool, obj = .ref s.heap.objs.size ∧ s₁ = { s with heap := s.heap.push (setNew ledd) }) fun ledd => ⟨ledd, rfl, rfl⟩) fun r s₁ hr => ?_
  cases r with
  | error e => exact hr
  | ok fl => cases fl with
    | ret obj =>
      obtain ⟨ledd, rfl, rfl⟩ := hr
      have hS : (s.heap.push (setNew ledd)).get? s.heap.objs.size = some (setNew ledd) := Heap.get?_push_size _ rfl
      have hT : Shared.TypeIs { s with heap := s.heap.push (setNew ledd) } (.ref s.heap.objs.size) "set" := ⟨_, hS, rfl⟩
      have hli := PySem.F.called_set.init.lookup; have hbi := PySem.F.called_set.init.bind (.ref s.heap.objs.size)
      repeat any_goals (first | assumption | wp_step)
      refine codeAny_mono (codeAny_call_builtin (R := wants (fun r s₂ => r = .none ∧ ∃ h' tk, s₂ = { s with heap := h', toks := tk } ∧ h'.SetOf (PySem.strKind prog w) s.heap.objs.size (fun z => (zs.take its.size).any (· == z)) its.size ∧ (∀ b o, b < s.heap.objs.size → s.heap.get? b = some o → h'.get? b = some o)) E) PySem.F.called_set.init.plain PySem.F.entry_set_init (check_set_init_1 hT ?_)) fun r₂ s₂ hr₂ => ?_
      · obtain ⟨ol, holl, hcl, nl, hdl⟩ := hl
        obtain ⟨ocl2, odict, odata, oslots⟩ := ol
        simp only at hcl hdl; subst hcl; subst hdl
        have hol' : (s.heap.push (setNew ledd)).get? lx = some { cls := .type "tuple", dict := odict, data := .seq its nl, slots := oslots } := Heap.get?_push_of_some _ holl
        have hsls := PySem.F.sub_tuple_set; have hslf := PySem.F.sub_tuple_frozenset
        have hnee : (Value.type "tuple" == Value.type "dict") = false := by decide
        have hl1 : (s.heap.push (setNew ledd)).IsTuple lx its := ⟨_, hol', rfl, nl, rfl⟩
        unfold Builtin.«set.__init__» noKeywords Builtin.Frozenset.updateFrom
        generalize hPI : pyIter = PI
        wp_walk
        subst hPI
        refine wpAny_pyIter_tuple hl1 ?_; refine wpAny_bind (wpAny_runValue ?_)
        have hlS : lx < s.heap.objs.size := Heap.lt_size holl
        have calm3 : A.in1.in1.in1.handled = none := by simp [calm]
        have hneI : lx ≠ (s.heap.push (setNew ledd)).objs.size := by rw [Heap.size_push]; exact Nat.ne_of_lt (Nat.lt_succ_of_lt hlS)
        have far : s.heap.objs.size ∉ [(s.heap.push (setNew ledd)).objs.size, lx] := by rw [Heap.size_push]; simp only [List.mem_cons, List.mem_singleton, List.not_mem_nil, or_false, not_or]; exact ⟨Nat.ne_of_lt (Nat.lt_succ_self _), Nat.ne_of_gt hlS, not_false⟩
        have hsz : zs.length = its.size := by rw [← StrsAre.len_eq hi, Array.length_toList]
        have hval : ∀ (i : Nat) (v : Value), its[i]? = some v → ∃ t, v = .str (zs.getD i Str.empty) t := fun i v hv => text_at hi i v (by rw [Array.getElem?_toList]; exact hv)
        refine set_turns ((Walks.tuple calm3 _ lx hneI its).toS) s.heap.objs.size far zs hsz nd (by rw [← hsz]; exact few) hval (its.size - 0) 0 _ (by omega) (Nat.zero_le _) ⟨⟨_, Heap.get?_push_size _ rfl, rfl, rfl⟩, (hl1.push _)⟩ ?set0 ?setk
        case set0 =>
          have hget : ((s.heap.push (setNew ledd)).push { cls := .type "tuple_iterator", data := .fields #[.ref lx, .int 0 0] }).get? s.heap.objs.size = some (setNew ledd) := Heap.get?_push_of_some _ hS
          exact PyProof.Rows.SetOf_congr ((PyProof.Rows.setObjOf_fresh (knd := PySem.strKind prog w) ledd).setOf hget (by unfold scanBound; omega)) (fun _ => rfl) rfl
        case setk =>
          intro s' hm hSet
          obtain ⟨h', g', d', tk', os'⟩ := s'
          have eg : g' = s.gens := hm.gens; have ed : d' = s.drawn := hm.drawn; have eo : os' = s.os := hm.os
          subst eg; subst ed; subst eo
          show wpAny _ _ _ _ _ _; refine wpAny_pure ?_; show wpAny _ _ (ret Value.none) _ _ _
          refine wpAny_pure ⟨rfl, h', tk', rfl, hSet, fun b o hb e => ?_⟩
          have hb9 : b ≠ s.heap.objs.size := Nat.ne_of_lt hb
          have hb2 : b ≠ (s.heap.push (setNew ledd)).objs.size := by rw [Heap.size_push]; exact Nat.ne_of_lt (Nat.lt_succ_of_lt hb)
          exact hm.heap b o (by simp only [List.mem_cons, List.mem_singleton, List.not_mem_nil, or_false, not_or]; exact ⟨hb9, hb2, not_false⟩) (Heap.get?_push_of_some _ (Heap.get?_push_of_some _ e))
      · cases r₂ with
        | error e => exact hr₂
        | ok fl₂ => cases fl₂ with
          | ret v =>
            obtain ⟨rfl, h', tk, rfl, hSet, hk'⟩ := hr₂
            repeat any_goals (first | assumption | wp_step)
            exact k _ _ hSet hk'
          | _ => exact hr₂.elim
    | _ => exact hr.elim
end
end Kn
/-! K12: len(set(..)) of distinct texts; a chain as a test; deep equality; dicts as tuples; get. -/
namespace Kn
open PySem PySem.Spec PyProof.Rows L2
section
variable {X : Cx} {E : En} {N G : List Str} {vb wb : List Bool} {sc : Scope} {k : Nat} {Δ : List Slot} {d d1 d2 d3 : D} {a b c e : Expr} {pos p q2 p2 : Pos} {op op' : CmpOp}
def tLenTexts (K : PySem.W.Frag) (ta : TE) : TE := fun σ H Q => ta σ H fun x H1 => ∃ (l : Addr) (xs : List Str), x = .ref l ∧ SqT K H1 l (xs.map V.str) ∧ xs.Nodup ∧ xs.length ≤ 1000 ∧ Q (.int (xs.length : Nat)) H1
theorem pe_lenTexts {ta : TE} (hg : Gl X "len") (hm : X.mg "len" = none) (hg2 : Gl X "set") (hm2 : X.mg "set" = none) (ha : PE X a ta) (hc : X.calm = true) (na : starEach [a] X.env = (false, eval a X.env) :: starEach [] X.env) : PE X (.Call (.Name "len" p) [.Call (.Name "set" p2) [a] [] q2] [] pos) (tLenTexts X.K ta) := by
  refine ⟨fun pins s σ H Q I h => ?_⟩
  refine Call_ (ld_blt I hg hm boot_len ?_); refine PyProof.Rows.callWith_builtin1 (PyProof.Rows.args_cons ?_ rfl) rfl rfl
  refine Call_ (ld_blt I hg2 hm2 boot_set ?_)
  refine PyProof.Rows.callWith_type1 (PyProof.Rows.args_cons (thn (ha.run pins s σ H _ I h) fun v s1 ⟨x, H1, I1, r1, q1⟩ => PyProof.Rows.args_nil ?_) na) na rfl
  obtain ⟨l, xs, rfl, hq, nd, hl, q1⟩ := q1
  cases r1
  obtain ⟨its, r, pl, hz⟩ := I1.tuple hq
  have hlen : its.toArray.size = xs.length := by rw [List.size_toArray, ← r.length, List.length_map]
  refine call_set_texts (I1.ok.hd hc) pl (by simpa using texts_of r) nd hl fun h' tk hS hk => ?_
  refine PyProof.Rows.args_nil ?_
  rw [hlen] at hS
  obtain ⟨o, es, ep, t, ho, hex, hd, _, _, _, hf, hn⟩ := hS
  have I2 : Inv X pins σ H1 { s1 with heap := h', toks := tk } := I1.kept fun b o e => hk b o (Heap.lt_size e) e
  exact call_len_set ho hex hd hf (by rw [hn]; omega) ⟨.int xs.length, H1, I2.tok _, ⟨_, by rw [hn]⟩, q1⟩
theorem ev_lenSet (C : Cz E N vb wb G sc k X) (i l : Nat) {xs : List Str} (ha : Ev X E a Δ (.tup (xs.map D.str))) (nd : xs.Nodup) (hl : xs.length ≤ 1000) (hm : E.mg "len" = none) (hm2 : E.mg "set" = none) (hG : G[i]? = some ("len" : Str) := by rfl) (hG2 : G[l]? = some ("set" : Str) := by rfl)
    (na : starEach [a] X.env = (false, eval a X.env) :: starEach [] X.env := by rfl) : Ev X E (.Call (.Name "len" p) [.Call (.Name "set" p2) [a] [] q2] [] pos) Δ (.int (xs.length : Nat)) := fun σ B H S Q q =>
  WE.of (pe_lenTexts (C.gl i _ hG).1 (by rw [C.hm]; exact hm) (C.gl l _ hG2).1 (by rw [C.hm]; exact hm2) (pe_W a) C.calm na) (ha σ B H S _ fun v B1 H1 p1 r1 => by
    cases r1 with
    | tup h r => rw [r.of_strs] at h; exact ⟨_, xs, rfl, SqT.of (p1.sub _ _ h), nd, hl, q _ B1 H1 p1 (.int _)⟩)
/-- a chain as a test, both links true -/
theorem et_chain (h : Co X E op d1 d2 true) (h' : Co X E op' d2 d3 true) (ha : Ev X E a Δ d1) (hb : Ev X E b Δ d2) (hc : Ev X E c Δ d3) (hm : lastMarks [op, op'] [b, c] = false := by rfl) : EvT X E (.Compare a [op, op'] [b, c] pos) Δ true := by
  obtain ⟨r, ho, hr⟩ := h
  obtain ⟨rr, hrr, hy⟩ := h'
  exact fun σ B H S Q q => WT.of (pt_chain ho hrr (pe_W a) (pe_W b) (pe_W c) hm) (ha σ B H S _ fun u B1 H1 p1 r1 => hb σ B1 H1 (S.step p1) _ fun v B2 H2 p2 r2 => hr B2 H2 u v p2.sub ((r1.mono p2.eb).r p2.sub) (r2.r p2.sub) _ fun z B3 H3 p3 r3 => by
      cases r3
      refine ⟨true, rfl, ?_⟩
      rw [if_pos rfl]
      exact hc σ B3 H3 (((S.step p1).step p2).step p3) _ fun w B4 H4 p4 r4 => hy B4 H4 v w p4.sub ((r2.mono (p3.trans p4).eb).r p4.sub) (r4.r p4.sub) _ fun w' B5 H5 p5 r5 => by cases r5; exact ⟨true, rfl, q B5 H5 ((((p1.trans p2).trans p3).trans p4).trans p5)⟩)
/-! ### deep equality -/
mutual
def D.py : D → PyData
  | .bl b => .bool b
  | .int i => .int i
  | .str x => .str x
  | .lst xs => .list (pys xs)
  | .tup xs => .tuple (pys xs)
  | _ => .none
def pys : List D → List PyData
  | [] => []
  | x :: r => x.py :: pys r
end
mutual
/-- none, bools, ints, texts, lists, tuples alone -/
def D.plain : D → Bool
  | .non => true
  | .bl b => true
  | .int i => true
  | .str x => true
  | .lst xs => plains xs
  | .tup xs => plains xs
  | _ => false
def plains : List D → Bool
  | [] => true
  | x :: r => x.plain && plains r
end
mutual
theorem Dn.py {K : PySem.W.Frag} {B H : Hp} (e : Ex B H) : ∀ {v : V} {d : D}, Dn K B v d → d.plain = true → Dp K H v d.py
  | _, _, .non, _ => .non
  | _, _, .bl b, _ => .bl b
  | _, _, .int i, _ => .int i
  | _, _, .str x, _ => .str x
  | _, _, .lst h r, q => .lst (SqL.of (e _ _ h)) (DnL.py e r q)
  | _, _, .tup h r, q => .tup (SqT.of (e _ _ h)) (DnL.py e r q)
  | _, _, .dic h r, q => by cases q
  | _, _, .dit h r, q => by cases q
  | _, _, .ins h r, q => by cases q
theorem DnL.py {K : PySem.W.Frag} {B H : Hp} (e : Ex B H) : ∀ {vs : List V} {ds : List D}, DnL K B vs ds → plains ds = true → DpAll K H vs (pys ds)
  | _, _, .nil, _ => .nil
  | _, _, .cons h r, q => by
    rw [plains, Bool.and_eq_true] at q
    exact .cons (Dn.py e h q.1) (DnL.py e r q.2)
end
mutual
theorem eqv_self : ∀ d : D, PyData.eqv d.py d.py = true
  | .non => by simp [D.py, PyData.eqv]
  | .bl b => by simp [D.py, PyData.eqv]
  | .int i => by simp [D.py, PyData.eqv]
  | .str x => by simp [D.py, PyData.eqv]
  | .lst xs => by simp only [D.py, PyData.eqv]; exact eqvs_self xs
  | .tup xs => by simp only [D.py, PyData.eqv]; exact eqvs_self xs
  | .dic _ => by simp [D.py, PyData.eqv]
  | .dit _ => by simp [D.py, PyData.eqv]
  | .ins _ _ => by simp [D.py, PyData.eqv]
theorem eqvs_self : ∀ ds : List D, PyData.eqvAll (pys ds) (pys ds) = true
  | [] => by simp [pys, PyData.eqvAll]
  | x :: r => by simp [pys, PyData.eqvAll, eqv_self x, eqvs_self r]
end
theorem pys_len : ∀ ds : List D, (pys ds).length = ds.length
  | [] => rfl
  | x :: r => congrArg (· + 1) (pys_len r)
theorem co_deep (C : Cz E N vb wb G sc k X) (h : d1.plain = true) (hs : SeqAt.shaped d1.py = true) : Co X E .Eq d1 d1 true := by
  refine ⟨_, op_eqD C.room.units, fun B H v u e h1 h2 Q q => ?_⟩
  have z : ∀ {w : V}, Dr E.K B H w d1 → Dp E.K H w d1.py := fun {w} r => by
    cases d1 with
    | lst ds => obtain ⟨p, vs, e1, e2, e3⟩ := r; rw [e1]; exact .lst (SqL.of e2) (DnL.py e e3 h)
    | tup ds => exact Dn.py e (show Dn E.K B w (.tup ds) from r) h
    | non => exact Dn.py e (show Dn E.K B w .non from r) h
    | bl x => exact Dn.py e (show Dn E.K B w (.bl x) from r) h
    | int x => exact Dn.py e (show Dn E.K B w (.int x) from r) h
    | str x => exact Dn.py e (show Dn E.K B w (.str x) from r) h
    | dic x => cases h
    | dit x => cases h
    | ins x y => cases h
  refine ⟨_, _, by rw [C.hK]; exact z h1, by rw [C.hK]; exact z h2, hs, hs, ?_⟩
  rw [eqv_self]
  exact q _ B H (Pg.refl e) (.bl true)
end
end Kn
/-! K13: tuple of a dict. -/
namespace Kn
open PySem PySem.Spec PyProof.Rows L2
section
variable {prog : Program} {w : World} {A : Around} {E : Value → Shared → Prop} {s : Shared} {r d : Addr} {n : Nat} {P : Nat → Value → Prop} {OK : Heap → Prop}
theorem collect_src {Q : List Value → Shared → Prop} (S : PySem.W.KdlSrc prog w "dict" r d n P OK) (hh : A.handled = none) (hok : OK s.heap) (hn : n ≤ sizeLine)
    (k : ∀ (h' : Heap) (tk : Nat) (accu : Array Value), (∀ b o, s.heap.get? b = some o → h'.get? b = some o) → ItemsOf P accu n → Q accu.toList { s with heap := h', toks := tk }) : wpAny (model prog w) A (collect (.ref r)) Q E s := by
  unfold collect; refine wpAny_bind (wpAny_runValue (codeAny_builtin F.entry_proto_collect ?_)); rw [Around.under_plainId F.plain_proto_collect _]
  show wpAny _ A.in1 (newList [] >>= fun l => again (.builtin "list.__iadd__" ⟨[l, .ref r], []⟩)) _ _ s; refine wpAny_bind (wpAny_newObj_type ?_)
  refine wpAny_pure ⟨plainId_quiet F.plain_list_iadd _, codeAny_builtin F.entry_list_iadd ?_⟩; rw [Around.under_plainId F.plain_list_iadd _]
  show wpAny _ A.in1 (Builtin.List.listExtendWith (.ref s.heap.objs.size) (.ref r) (.ref s.heap.objs.size)) _ _ _
  have hS9 : (s.heap.push { cls := .type "list", data := .seq ([] : List Value).toArray }).get? s.heap.objs.size = some { cls := .type "list", data := .seq #[] 0 } := Heap.get?_push_size _ rfl
  have lt := S.there _ hok
  refine wpAny_mono (PySem.W.kdl_extend (A := A) (R := fun rr s' => rr = .ok (.ret (.ref s.heap.objs.size)) ∧ ∃ (h' : Heap) (tk : Nat) (accu : Array Value) (c' : Nat), s' = { s with heap := h', toks := tk } ∧ (∀ b o, s.heap.get? b = some o → h'.get? b = some o) ∧ h'.get? s.heap.objs.size = some { cls := .type "list", dict := none, data := .seq accu c', slots := #[] } ∧ ItemsOf P accu n)
      (s := { s with heap := s.heap.push { cls := .type "list", data := .seq ([] : List Value).toArray } }) S hh (S.keep _ _ hok fun b _ o e => Heap.get?_push_of_some _ e) s.heap.objs.size (Nat.ne_of_gt lt.1) (Nat.ne_of_gt lt.2) _ 0 hS9
      (fun h' tk accu c' hkk e hi => ⟨rfl, h', tk, accu, c', rfl, fun b o q => hkk b o (Nat.ne_of_lt (Heap.lt_size q)) (Heap.get?_push_of_some _ q), e, hi⟩) hn) (fun fin s' h => ?_) (fun e s' h => absurd h.1 (by simp))
  cases fin with
  | done f =>
    obtain ⟨e, h', tk, accu, c', rfl, hkk, hSet, hi⟩ := h
    cases e; show wpAny _ A (load s.heap.objs.size >>= _) _ _ _; exact wpAny_bind (wpAny_load hSet (wpAny_pure (k h' tk accu hkk hi)))
  | again c' =>
    refine ⟨h.1, codeAny_mono h.2 fun rr s'' hr' => ?_⟩
    obtain ⟨rfl, h', tk, accu, c', rfl, hkk, hSet, hi⟩ := hr'
    show wpAny _ A (load s.heap.objs.size >>= _) _ _ _; exact wpAny_bind (wpAny_load hSet (wpAny_pure (k h' tk accu hkk hi)))
theorem new_tuple_src {Q₁ : Value → Shared → Prop} (S : PySem.W.KdlSrc prog w "dict" r d n P OK) (hh : A.handled = none) (hok : OK s.heap) (hn : n ≤ sizeLine)
    (k : ∀ (h' : Heap) (tk : Nat) (accu : Array Value), (∀ b o, s.heap.get? b = some o → h'.get? b = some o) → ItemsOf P accu n → Q₁ (.ref h'.objs.size) { s with heap := h'.push { cls := .type "tuple", data := .seq accu }, toks := tk }) :
    codeAny (model prog w) A (.call (.builtin "tuple.__new__") ⟨[.type "tuple", .ref r], []⟩) (wants Q₁ E) s := by
  refine codeAny_of_tree ?_; show wpAny _ A.in1 (do checkBuiltinCall "tuple.__new__" ⟨[.type "tuple", .ref r], []⟩; again (.builtin "tuple.__new__" ⟨[.type "tuple", .ref r], []⟩)) _ _ s
  refine wpAny_bind (wpAny_of_eq (F.newCall_tuple_1 _) (wpAny_pure ⟨plainId_quiet F.plain_tuple_new _, codeAny_builtin F.entry_tuple_new ?_⟩)); rw [Around.under_plainId F.plain_tuple_new _]
  have f1 := sub_tuple_self; have f2 := init_tuple_lookup; have f3 := madeHere_tuple; have f4 := S.type s hok
  have calm1 : A.in1.handled = none := hh
  wp_walk using wpAny_typeOf f4, collect_src (A := A.in1) S calm1 hok hn
  intro h' tk accu hkk hacc
  show wpAny _ _ (Builtin.Tuple.tupleExact accu.toList.toArray >>= fun v => ret v) _ _ _; unfold Builtin.Tuple.tupleExact
  refine wpAny_bind (wpAny_newObj_type ?_ (by show accu.toList.toArray.size ≤ sizeLine; simp only [Array.toArray_toList]; rw [hacc.1]; exact hn))
  refine wpAny_pure ?_
  have e : accu.toList.toArray = accu := by simp
  rw [e]; exact k h' tk accu hkk hacc
theorem call_tuple_src {Q : Value → Shared → Prop} (S : PySem.W.KdlSrc prog w "dict" r d n P OK) (hh : A.handled = none) (hok : OK s.heap) (hn : n ≤ sizeLine)
    (k : ∀ (h' : Heap) (tk : Nat) (accu : Array Value), (∀ b o, s.heap.get? b = some o → h'.get? b = some o) → ItemsOf P accu n → Q (.ref h'.objs.size) { s with heap := h'.push { cls := .type "tuple", data := .seq accu }, toks := tk }) : wpAny (model prog w) A (call (.type "tuple") [.ref r]) Q E s := by
  refine callType_codes (Q₁ := fun obj s₁ => s₁.TypeIs obj "tuple" ∧ Q obj s₁) F.called_tuple (F.typeCall_tuple_1 _) F.entry_object_init (new_tuple_src (A := A.in1) S hh hok hn fun h' tk accu hkk hacc => ⟨⟨_, Heap.get?_push_size _ rfl, rfl⟩, k h' tk accu hkk hacc⟩) fun obj s₁ hh1 => ?_
  exact ⟨hh1.1, F.args_object_init_2 obj _, object_init_meets F.called_tuple.init.lookup F.called_tuple.made (by decide) prog w A.in1 _ s₁ ⟨hh1.1, rfl, hh1.2⟩⟩
end
theorem key_rel {k : Key} {v : Value} (h : keyIs k v = true) : RelV (kV k) v := by
  cases k with
  | inl i => cases v with
    | int j t => exact ⟨t, by have e : (i == j) = true ∨ (j == i) = true := by first | exact .inl h | exact .inr h
                              rcases e with e | e <;> rw [eq_of_beq e]⟩
    | _ => cases h
  | inr x => cases v with
    | str j t => exact ⟨t, by have e : (x == j) = true ∨ (j == x) = true := by first | exact .inl h | exact .inr h
                              rcases e with e | e <;> rw [eq_of_beq e]⟩
    | _ => cases h
theorem vals_at : ∀ {xs : List V} {us : List Value}, xs.length = us.length → (∀ (j : Nat) (x : V) (u : Value), xs[j]? = some x → us[j]? = some u → RelV x u) → Vals xs us
  | [], [], _, _ => .nil
  | [], _ :: _, h, _ => by cases h
  | _ :: _, [], h, _ => by cases h
  | x :: xs, u :: us, h, f => .cons (f 0 x u rfl rfl) (vals_at (Nat.succ.inj h) fun j x u a b => f (j + 1) x u a b)
def rTupD : List V → Hp → VK → Prop := fun xs H Q => ∃ p kvs, xs = [.ref p] ∧ H p = some (.dK kvs) ∧ ∀ q, H q = none → Q (.ref q) (upd H q (.tup (kvs.map fun kv => kV kv.1)))
theorem call_tuple_dK {X : Cx} (hc : X.calm = true) : CallR X (.type "tuple") rTupD := by
  intro pins s σ H xs us Q I r h
  obtain ⟨p, kvs, e, hkk, q⟩ := h
  subst e
  obtain ⟨u, rfl, rx⟩ := Vals.one r
  obtain rfl : u = Value.ref p := rx
  obtain ⟨z, lo, vz, rk, hd⟩ := (show ObjOk X.prog X.w H s.heap p (.dK kvs) from I.hok p _ hkk)
  obtain ⟨ep, hat⟩ := hd.dictAt
  have hll : kvs.length = vz.length := Paired.length rk
  refine call_tuple_src (PySem.W.kdl_dict (knd := mixKind X.prog X.w) (kvs := vz) (ep := ep) lo) (I.ok.hd hc) hat (by rw [← hll]; exact z) fun h' tk accu keep hacc => ?_
  have I1 : Inv X pins σ H { s with heap := h', toks := tk } := I.kept keep
  have hv : Vals (kvs.map fun kv => kV kv.1) accu.toList := by
    have el : accu.toList.length = vz.length := by rw [Array.length_toList]; exact hacc.1
    refine vals_at (by rw [List.length_map, hll, el]) fun j x w h1 h2 => ?_
    obtain ⟨k, y, hky, hi⟩ := hacc.2 j w (by rw [← Array.getElem?_toList]; exact h2)
    have e3 : (kvs.map fun kv => kV kv.1) = (kvs.map (·.1)).map kV := by rw [List.map_map]; rfl
    rw [e3, KV.keys rk, List.map_map, List.getElem?_map, hky] at h1
    cases h1
    exact key_rel hi
  have I2 : Inv X pins σ (upd H h'.objs.size (.tup (kvs.map fun kv => kV kv.1))) { s with heap := h'.push { cls := .type "tuple", data := .seq accu }, toks := tk } :=
    I1.laid (t' := tk) (fun b o e => Heap.get?_push_of_some _ e) (Nat.le_refl _) (show ObjOk X.prog X.w _ _ _ (.tup (kvs.map fun kv => kV kv.1)) from ⟨by rw [List.length_map]; exact z, accu.toList, hv, by have := IsTup.new h' accu; simpa using this⟩)
  exact ⟨.ref h'.objs.size, _, I2, rfl, q _ (I1.hok.fresh (Nat.le_refl _))⟩
section
variable {X : Cx} {E : En} {N G : List Str} {vb wb : List Bool} {sc : Scope} {k : Nat} {Δ : List Slot} {a : Expr} {pos p : Pos}
theorem DnK.keys {K : PySem.W.Frag} {B : Hp} : ∀ {vz : List (Key × V)} {ds : List (Key × D)}, DnK K B vz ds → vz.map (·.1) = ds.map (·.1)
  | _, _, .nil => rfl
  | _, _, .cons j h r => congrArg (j :: ·) (DnK.keys r)
theorem keyD_dn2 {K : PySem.W.Frag} {B : Hp} : ∀ ks : List Key, DnL K B (ks.map kV) (ks.map keyD)
  | [] => .nil
  | .inl i :: r => .cons (.int i) (keyD_dn2 r)
  | .inr x :: r => .cons (.str x) (keyD_dn2 r)
/-- tuple(dict), the dict new -/
theorem ev_tupleK (C : Cz E N vb wb G sc k X) (i : Nat) {kds : List (Key × D)} (ha : EvF X E a Δ (.dK kds)) (hm : E.mg "tuple" = none) (hG : G[i]? = some ("tuple" : Str) := by rfl) (he : starEach [a] X.env = (false, eval a X.env) :: starEach [] X.env := by rfl) : Ev X E (.Call (.Name "tuple" p) [a] [] pos) Δ (.tup (kds.map fun kv => keyD kv.1)) := fun σ B H S Q q => by
  obtain ⟨h1, h2⟩ := C.gl i _ hG
  refine WE.of (pe_callTy (call_tuple_dK C.calm) h1 (by rw [C.hm]; exact hm) boot_tuple (pa_cons (pe_W a) pa_nil he) (by decide) h2 he rfl) (ha σ B H S _ fun l B1 H1 p1 hll hB r => ?_)
  obtain ⟨ws, e, h3⟩ := r
  have e1 : (ws.map fun kv => kV kv.1) = (kds.map (·.1)).map kV := by rw [← DnK.keys h3, List.map_map]; rfl
  have e2 : (kds.map fun kv => keyD kv.1) = (kds.map (·.1)).map keyD := by rw [List.map_map]; rfl
  refine ⟨l, ws, rfl, e, fun m nm => q _ _ _ (p1.trans (Pg.new p1.sub nm)) (.tup upd_same ?_)⟩
  rw [e1, e2]
  exact keyD_dn2 _
/-! ### the keys of a dict, walked -/
theorem wk_keys {K : PySem.W.Frag} {B : Hp} {l : Addr} {od : Obj} {vz : List (Key × V)} {ds : List (Key × D)} (h : B l = some (.frz od (.dK vz))) (r : DnK K B vz ds) : Wk K (Itk l od vz) B (ds.map fun kv => keyD kv.1) where
  goes := fun i B' H hi x s => ⟨s _ _ (x _ _ h), by rw [r.len]; simpa using hi⟩
  stops := fun B' H x s => ⟨s _ _ (x _ _ h), by rw [r.len]; simp⟩
  yields := fun i B' H v H' hi x s y => by
    obtain ⟨rfl, k, w, hkk, rfl⟩ := y
    have e1 : (vz.map (·.1))[i]? = some k := by rw [List.getElem?_map, hkk]; rfl
    rw [r.keys] at e1
    refine ⟨B', keyD k, Pg.refl s, ?_, ?_⟩
    · have e2 : (ds.map fun kv => keyD kv.1) = (ds.map (·.1)).map keyD := by rw [List.map_map]; rfl
      rw [e2, List.getElem?_map, e1]; rfl
    · cases k with
      | inl i => exact .int i
      | inr x => exact .str x
/-- what a name owns, told to all as a locked dict -/
theorem Sees.locked {σ : L2.St} {B H : Hp} (S : Sees E Δ σ B H) {i : Nat} {kds : List (Key × D)} {l : Addr} {vz : List (Key × V)} (od : Obj) (hi : Δ[i]? = some (.own (.dK kds))) (hll : σ[i]? = some (some (.ref l))) (e : H l = some (.dK vz)) (r : DnK E.K B vz kds) :
    Sees E (Δ.set i (.d (.dic kds))) σ (upd B l (.frz od (.dK vz))) (upd H l (.frz od (.dK vz))) := by
  obtain ⟨l', el, hB, hE, ho⟩ := S.own hi
  rw [hll] at el
  cases el
  have hE' : E.H l = none := by
    rcases hE with z | ⟨⟨m, c, z⟩, _⟩
    · exact z
    · cases z
  have ex : Ex B (upd B l (.frz od (.dK vz))) := Ex.new hB
  refine ⟨upd_both S.sub, ⟨S.rn.eb.trans ex, fun a u n q => ?_, fun a q => ?_, fun a q n => ?_⟩, fun j s hj => ?_, fun j m o p l2 g1 g2 g3 g4 => ?_⟩
  · have na : a ≠ l := by rintro rfl; rw [hE'] at q; cases q
    rw [upd_ne na]; exact S.rn.eh a u n q
  · by_cases na : a = l
    · subst na; rw [upd_same]; simp
    · rw [upd_ne na]; exact S.rn.th a q
  · have na : a ≠ l := by rintro rfl; exact q hE'
    rw [upd_ne na]; exact S.rn.fr a q n
  · rcases getElem?_set_cases hj with ⟨e2, hs⟩ | ⟨ne, hj⟩
    · subst e2 hs
      exact ⟨_, hll, .dic (.inr ⟨od, upd_same⟩) (r.mono ex)⟩
    · have q := S.sl j s hj
      cases s with
      | un => trivial
      | d y => obtain ⟨v, e2, r2⟩ := q; exact ⟨v, e2, r2.mono ex⟩
      | own o2 =>
        obtain ⟨l2, e2, n2, m2, r2⟩ := q
        have nl : l2 ≠ l := by rintro rfl; exact ne (S.ap i j _ o2 _ hi hj hll e2)
        exact ⟨l2, e2, by rw [upd_ne nl]; exact n2, m2, r2.mono ex (upd_ne nl)⟩
  · rcases getElem?_set_cases g1 with ⟨e2, hs⟩ | ⟨ne1, g1⟩
    · cases hs
    · rcases getElem?_set_cases g2 with ⟨e2, hs⟩ | ⟨ne2, g2⟩
      · cases hs
      · exact S.ap j m o p l2 g1 g2 g3 g4
end
section
variable {X : Cx} {E : En} {N G : List Str} {vb wb : List Bool} {sc scope : Scope} {k : Nat} {Δ : List Slot} {a elt tg : Expr} {pos p : Pos} {own : List (Str × Nat)} {x : Str}
theorem strs_any {K : PySem.W.Frag} {B : Hp} : ∀ {vz : List V} {xs : List Str}, DnL K B vz (xs.map D.str) → ∀ B' : Hp, DnL K B' vz (xs.map D.str)
  | _, [], .nil, _ => .nil
  | _, y :: ys, .cons h r, B' => by cases h; exact .cons (.str y) (strs_any r B')
/-- [elt for tg in d if c], d a name that owns a dict; texts come -/
theorem ef_lcKeys (C : Cz E N vb wb G sc k X) (i : Nat) {xs : List Str} {kds : List (Key × D)} (f : Ifs) (ok : BlkOk N sc scope own) (no : noOwn (Δ.set i (.d (.dic kds))) (own.map (·.2))) (np : noPool (Δ.set i (.d (.dic kds)))) (hd : Δ[i]? = some (.own (.dK kds)))
    (ht : ∃ J : List D → List D → Prop, J (kds.map fun kv => keyD kv.1) [] ∧ LcT X E scope tg f elt (own.map (·.2)) (Δ.set i (.d (.dic kds))) J ∧ ∀ accu, J [] accu → accu = xs.map D.str)
    (hv : vb[i]? = some true := by rfl) (hN : N[i]? = some x := by rfl) (hs : ∀ z, foldedSetIterable (.Name x p) X.env z = pure z := by intro _; rfl) : EvF X E (.ListComp elt [⟨tg, .Name x p, f.exs, 0⟩] scope pos) Δ (.lst (xs.map D.str)) := fun σ B H S Q q => by
  intro pins s I
  have hlen : σ.length = X.N.length := I.len
  obtain ⟨v1, v2, v3⟩ := C.vis i x hv hN
  refine (WE.of (pe_lock (pe_lc (own := own) C.calm (by rw [C.hN]; exact C.nd) (pi_keys (tg := tg) (pe_var (i := i) (by rw [C.hN]; exact hN) v1 v2 v3)) (by rw [C.hN, C.hsc]; exact ok) (bG_ok tg) (f.ok (X := X) (scope := scope)) (bE_ok elt) hs)) ?_ : WE X _ σ H Q) pins s I
  obtain ⟨l, el, hB, hE, ho⟩ := S.own hd
  obtain ⟨vz, hvs, rv⟩ := ho
  have hE' : E.H l = none := by
    rcases hE with z | ⟨⟨m, c, z⟩, _⟩
    · exact z
    · cases z
  refine ⟨l, .dK vz, hvs, trivial, fun od => ?_⟩
  have S2 := S.locked od hd el hvs rv
  have ex : Ex B (upd B l (.frz od (.dK vz))) := Ex.new hB
  refine ⟨.ref l, el, l, od, rfl, .inl ⟨vz, upd_same, ?_⟩⟩
  obtain ⟨J, j0, jt, jd⟩ := ht
  refine lc_read (P := fun o => o = .lst (xs.map D.str)) (Q := fun v H' => H' l = some (.frz od (.dK vz)) ∧ Q v (upd H' l (.dK vz))) S2 (Pp.of (Pg.refl S2.sub)) S2 (wk_keys upd_same (rv.mono ex)) j0 jt (fun accu h => by rw [jd accu h]) no hlen fun m B' H' o x' S' hn hB' r e => ?_
  subst e
  obtain ⟨ws, hw, rw'⟩ := r
  have hne : m ≠ l := by rintro rfl; rw [upd_same] at hn; cases hn
  have keep : ∀ a u, upd H l (.frz od (.dK vz)) a = some u → H' a = some u := fun a u hu => x'.eh a u (fun j m c hj _ => noPool.at np j m c hj) hu
  have hl' : H' l = some (.frz od (.dK vz)) := keep l _ upd_same
  refine ⟨hl', q m B _ ⟨⟨Ex.refl B, fun a u _ hu => ?_, fun a ha => ?_, fun a _ hb => hb⟩, fun a u hb => ?_⟩ (by rw [upd_ne hne] at hn; exact hn) ?_ ⟨ws, by rw [upd_ne hne]; exact hw, strs_any rw' B⟩⟩
  · by_cases na : a = l
    · subst na; rw [upd_same]; rw [hvs] at hu; exact hu
    · rw [upd_ne na]; exact keep a u (by rw [upd_ne na]; exact hu)
  · by_cases na : a = l
    · subst na; rw [upd_same]; simp
    · rw [upd_ne na]
      cases hu : H a with
      | none => exact absurd hu ha
      | some u => rw [keep a u (by rw [upd_ne na]; exact hu)]; simp
  · have na : a ≠ l := by rintro rfl; rw [hB] at hb; cases hb
    rw [upd_ne na]; exact keep a u (by rw [upd_ne na]; exact S.sub a u hb)
  · cases hb : B m with
    | none => rfl
    | some u =>
      have := S.sub m u hb
      rw [upd_ne hne] at hn
      rw [hn] at this
      cases this
end
end Kn
/-! K14: comprehensions with any target and one test. -/
namespace Kn
open PySem PySem.Spec PyProof.Rows L2
section
variable {X : Cx} {E : En} {N G G' : List Str} {vb wb vb' wb' : List Bool} {sc scope : Scope} {k : Nat} {Δ Δ' : List Slot} {tg iter elt : Expr} {pos p apos cpos px py : Pos} {own : List (Str × Nat)}
theorem ew_ort {a b : Expr} {es : List Expr} {x : Bool} (h : EvT X E a Δ x) (hx : x = true := by rfl) : EvW X E (.BoolOp .Or (a :: b :: es) pos) Δ true := by subst hx; exact ew_or (y := true) h (by intro z; cases z)
theorem ew_andf {a b : Expr} {es : List Expr} {x : Bool} (h : EvT X E a Δ x) (hx : x = false := by rfl) : EvW X E (.BoolOp .And (a :: b :: es) pos) Δ false := by subst hx; exact ew_and (y := true) h (by intro z; cases z)
theorem ev_ort {a b : Expr} {es : List Expr} {x : Bool} (h : Ev X E a Δ (.bl x)) (hx : x = true := by rfl) : Ev X E (.BoolOp .Or (a :: b :: es) pos) Δ (.bl true) := by subst hx; exact ev_or (y := true) h (by intro z; cases z)
theorem ev_andf {a b : Expr} {es : List Expr} {x : Bool} (h : Ev X E a Δ (.bl x)) (hx : x = false := by rfl) : Ev X E (.BoolOp .And (a :: b :: es) pos) Δ (.bl false) := by subst hx; exact ev_and (y := true) h (by intro z; cases z)
theorem ev_neg {a : Expr} {i : Int} (h : Ev X E a Δ (.int i)) : Ev X E (.UnaryOp .USub a pos) Δ (.int (-i)) := fun σ B H S Q q => WE.of (pe_un un_neg (pe_W a)) (h σ B H S _ fun v B1 H1 p1 r1 => by
  cases r1
  exact ⟨i, rfl, q _ B1 H1 p1 (.int _)⟩)
theorem df_lcG {α : Type} (C : Cz E N vb wb G sc k X) (f : Ifs) (bk : BkC N sc scope own vb' wb' G') (no : noOwn Δ (own.map (·.2))) (enc : α → D) (S : α → List Slot) (g : α → Bool) (R : α → D → Prop) {P : O → Prop}
    (hi : DoI X E tg iter Δ fun ds => ∃ xs : List α, ds = xs.map enc ∧ xs.length ≤ 1000000 ∧ (∀ x ∈ xs, ∀ Y, Cz E N vb' wb' G' (relS scope sc) k Y → Bd Y E tg (own.map (·.2)) (enc x) (wipeD Δ (own.map (·.2))) (fun Δ' => Δ' = S x) ∧ DoIf Y E f (S x) (fun b => b = g x) ∧ (g x = true → Do Y E elt (S x) (R x))) ∧
      ∀ zs, Paired R (xs.filter g) zs → P (.lst zs)) (hs : ∀ x, foldedSetIterable iter X.env x = pure x := by intro _; rfl) : DoF X E (.ListComp elt [⟨tg, iter, f.exs, 0⟩] scope pos) Δ P := by
  refine df_lc C f bk.ok no (fun σ B H S0 Q q => hi σ B H S0 Q fun J B' H' ds x' S' wk ⟨xs, e, hl, ht, hP⟩ => q J B' H' ds x' S' wk ?_) hs
  subst e
  refine ⟨fun r acc => ∃ done left, xs = done ++ left ∧ r = left.map enc ∧ Paired R (done.filter g) acc, ⟨[], xs, rfl, rfl, .nil⟩, fun x r acc ⟨done, left, e1, e2, e3⟩ => ?_, fun acc ⟨done, left, e1, e2, e3⟩ => ?_⟩
  · cases left with
    | nil => cases e2
    | cons z left =>
      injection e2 with e2 e4
      subst e2 e4
      have hz : z ∈ xs := by rw [e1]; simp
      refine ⟨S z, fun Y hY => (ht z hz Y (C.blk bk hY)).1, fun Y hY => ?_⟩
      have app : ∀ {l1 : List α} {l2 : List D} {d : D}, R z d → Paired R l1 l2 → Paired R (l1 ++ [z]) (l2 ++ [d]) := fun {l1 l2 d} hd h => by
        induction h with
        | nil => exact .cons hd .nil
        | cons h _ ih => exact .cons h ih
      have fin : ∀ b, b = g z → (b = true → ∀ Y, Blk X scope Y → Do Y E elt (S z) fun y => acc.length < 1000000 ∧ ∃ done2 left2, xs = done2 ++ left2 ∧ left.map enc = left2.map enc ∧ Paired R (done2.filter g) (acc ++ [y])) ∧ (b = false → ∃ done2 left2, xs = done2 ++ left2 ∧ left.map enc = left2.map enc ∧ Paired R (done2.filter g) acc) := fun b hb => by
        subst hb
        refine ⟨fun hg Y2 hY2 => ((ht z hz Y2 (C.blk bk hY2)).2.2 hg).mono fun d hd => ⟨?_, done ++ [z], left, by rw [e1]; simp, rfl, ?_⟩, fun hg => ⟨done ++ [z], left, by rw [e1]; simp, rfl, ?_⟩⟩
        · have h1 := Paired.length e3
          have h2 : (done.filter g).length ≤ done.length := List.length_filter_le _ _
          have h3 : xs.length = done.length + (left.length + 1) := by rw [e1]; simp
          omega
        · rw [List.filter_append, List.filter_cons_of_pos hg]; exact app hd e3
        · rw [List.filter_append, List.filter_cons_of_neg (by rw [hg]; decide)]; simpa using e3
      have h0 := (ht z hz Y (C.blk bk hY)).2.1
      cases f with
      | no => exact fin true h0
      | one c => exact h0.mono fin
  · cases left with
    | cons z left => cases e2
    | nil =>
      rw [List.append_nil] at e1
      subst e1
      exact hP acc e3
theorem ef_lcG {α : Type} (C : Cz E N vb wb G sc k X) (f : Ifs) (bk : BkC N sc scope own vb' wb' G') (no : noOwn Δ (own.map (·.2))) (np : noPool Δ) (enc : α → D) (S : α → List Slot) (g : α → Bool) (h : α → D) (xs : List α) (hi : DoI X E tg iter Δ fun ds => ds = xs.map enc) (hl : xs.length ≤ 1000000)
    (ht : ∀ x ∈ xs, ∀ Y, Cz E N vb' wb' G' (relS scope sc) k Y → Bd Y E tg (own.map (·.2)) (enc x) (wipeD Δ (own.map (·.2))) (fun Δ' => Δ' = S x) ∧ DoIf Y E f (S x) (fun b => b = g x) ∧ (g x = true → Ev Y E elt (S x) (h x)))
    (hs : ∀ x, foldedSetIterable iter X.env x = pure x := by intro _; rfl) : EvF X E (.ListComp elt [⟨tg, iter, f.exs, 0⟩] scope pos) Δ (.lst ((xs.filter g).map h)) :=
  DoF.ev (df_lcG C f bk no enc S g (fun x d => d = h x) (fun σ B H S0 Q q => hi σ B H S0 Q fun J B' H' ds x' S' wk e => q J B' H' ds x' S' wk ⟨xs, e, hl, fun x hx Y CY => ⟨(ht x hx Y CY).1, (ht x hx Y CY).2.1, fun hg => Do.of ((ht x hx Y CY).2.2 hg) rfl⟩, fun zs hz => by rw [paired_map hz]⟩) hs) np
/-- all([elt for tg in iter]) -/
theorem ev_allG {α : Type} (C : Cz E N vb wb G sc k X) (ia : Nat) (bk : BkC N sc scope own vb' wb' G') (no : noOwn Δ (own.map (·.2))) (np : noPool Δ) (enc : α → D) (S : α → List Slot) (g : α → Bool) (xs : List α) (hi : DoI X E tg iter Δ fun ds => ds = xs.map enc) (hl : xs.length ≤ 1000000)
    (ht : ∀ x ∈ xs, ∀ Y, Cz E N vb' wb' G' (relS scope sc) k Y → Bd Y E tg (own.map (·.2)) (enc x) (wipeD Δ (own.map (·.2))) (fun Δ' => Δ' = S x) ∧ Ev Y E elt (S x) (.bl (g x))) (hm : E.mg "all" = none) (hG : G[ia]? = some ("all" : Str) := by rfl)
    (hs : ∀ x, foldedSetIterable iter X.env x = pure x := by intro _; rfl) : Ev X E (.Call (.Name "all" p) [.ListComp elt [⟨tg, iter, [], 0⟩] scope pos] [] cpos) Δ (.bl (xs.all g)) := by
  have h := ef_lcG (pos := pos) C .no bk no np enc S (fun _ => true) (fun x => .bl (g x)) xs hi hl (fun x hx Y CY => ⟨(ht x hx Y CY).1, rfl, fun _ => (ht x hx Y CY).2⟩) hs
  have e : (xs.filter fun _ => true).map (fun x => D.bl (g x)) = (xs.map g).map D.bl := by rw [List.map_map, List.filter_eq_self.mpr (fun _ _ => rfl)]; rfl
  rw [e] at h
  refine (ev_all C ia h.lr hm hG rfl).is ?_
  rw [List.all_map]
  rfl
/-- [elt for tg in d if c], d a name that owns a dict; texts come -/
theorem ef_lcK {α : Type} {ps : List α} {x : Str} (C : Cz E N vb wb G sc k X) (i : Nat) (f : Ifs) (bk : BkC N sc scope own vb' wb' G') (enc : α → Key × D) (no : noOwn (Δ.set i (.d (.dic (ps.map enc)))) (own.map (·.2))) (np : noPool (Δ.set i (.d (.dic (ps.map enc))))) (S : α → List Slot) (g : α → Bool) (h : α → Str) (hd : Δ[i]? = some (.own (.dK (ps.map enc)))) (hl : ps.length ≤ 1000000)
    (ht : ∀ q ∈ ps, ∀ Y, Cz E N vb' wb' G' (relS scope sc) k Y → Bd Y E tg (own.map (·.2)) (keyD (enc q).1) (wipeD (Δ.set i (.d (.dic (ps.map enc)))) (own.map (·.2))) (fun Δ' => Δ' = S q) ∧ DoIf Y E f (S q) (fun b => b = g q) ∧ (g q = true → Ev Y E elt (S q) (.str (h q))))
    (hv : vb[i]? = some true := by rfl) (hN : N[i]? = some x := by rfl) (hs : ∀ z, foldedSetIterable (.Name x p) X.env z = pure z := by intro _; rfl) : EvF X E (.ListComp elt [⟨tg, .Name x p, f.exs, 0⟩] scope pos) Δ (.lst (((ps.filter g).map h).map D.str)) := by
  refine ef_lcKeys (xs := (ps.filter g).map h) C i f bk.ok no np hd ⟨fun r acc => ∃ done left, ps = done ++ left ∧ r = left.map (fun q => keyD (enc q).1) ∧ acc = ((done.filter g).map h).map D.str, ⟨[], ps, rfl, by rw [List.map_map]; rfl, rfl⟩, fun x r acc ⟨done, left, e1, e2, e3⟩ => ?_, fun acc ⟨done, left, e1, e2, e3⟩ => ?_⟩ hv hN hs
  · cases left with
    | nil => cases e2
    | cons z left =>
      injection e2 with e2 e4
      subst e2 e4
      have hz : z ∈ ps := by rw [e1]; simp
      refine ⟨S z, fun Y hY => (ht z hz Y (C.blk bk hY)).1, fun Y hY => ?_⟩
      have fin : ∀ b, b = g z → (b = true → ∀ Y, Blk X scope Y → Do Y E elt (S z) fun y => acc.length < 1000000 ∧ ∃ done2 left2, ps = done2 ++ left2 ∧ left.map (fun q => keyD (enc q).1) = left2.map (fun q => keyD (enc q).1) ∧ acc ++ [y] = ((done2.filter g).map h).map D.str) ∧ (b = false → ∃ done2 left2, ps = done2 ++ left2 ∧ left.map (fun q => keyD (enc q).1) = left2.map (fun q => keyD (enc q).1) ∧ acc = ((done2.filter g).map h).map D.str) := fun b hb => by
        subst hb
        refine ⟨fun hg Y2 hY2 => Do.of ((ht z hz Y2 (C.blk bk hY2)).2.2 hg) ⟨?_, done ++ [z], left, by rw [e1]; simp, rfl, ?_⟩, fun hg => ⟨done ++ [z], left, by rw [e1]; simp, rfl, ?_⟩⟩
        · have h2 : (done.filter g).length ≤ done.length := List.length_filter_le _ _
          have h3 : ps.length = done.length + (left.length + 1) := by rw [e1]; simp
          rw [e3, List.length_map, List.length_map]
          omega
        · rw [List.filter_append, List.filter_cons_of_pos hg, e3]; simp
        · rw [List.filter_append, List.filter_cons_of_neg (by rw [hg]; decide), e3]; simp
      have h0 := (ht z hz Y (C.blk bk hY)).2.1
      cases f with
      | no => exact fin true h0
      | one c => exact h0.mono fin
  · cases left with
    | cons z left => cases e2
    | nil =>
      rw [List.append_nil] at e1
      subst e1
      exact e3
end
end Kn
/-! P1: slots. -/
namespace Kn
open PySem PySem.Spec PyProof.Rows L2
/-! ### slot_at, parts_of -/
def slotAt (line : Str) (at_ : Int) : List Str → Nat → Option (Int × Nat)
  | [], _ => none
  | p :: r, n => if Txt.startswith3 line ("{" ++ p ++ "}") at_ = true then some (at_ + p.length + 2, n) else slotAt line at_ r (n + 1)
def slotD : Option (Int × Nat) → D
  | none => .non
  | some (e, n) => .tup [.int e, .int (n : Nat)]
def R_slot_at : List D → D → Prop := fun ds d => ∃ (line : Str) (at_ : Int) (ps : List Str), ds = [.str line, .int at_, .tup (ps.map D.str)] ∧ (∀ p ∈ ps, p.length ≤ 1000) ∧ d = slotD (slotAt line at_ ps 0)
theorem len_app (x y : Str) : (x ++ y).length = x.length + y.length := by
  show (x.cps ++ y.cps).size = _
  rw [Array.size_append]
  rfl
section
variable {P : Program} {w : World} {K : PySem.W.Frag} {mg : Str → Option Value} {base : Heap}
theorem ok_slot_at (T : Tx mg) (A : At K mg "slot_at" s_slot_at P_slot_at) : FnD P w K mg base "slot_at" 1 (spR K R_slot_at) := by
  refine A.r sc_slot_at dc_slot_at (fun ds d h => by obtain ⟨_, _, _, rfl, _⟩ := h; rfl) fun X B H ds d C hR => ?_
  obtain ⟨line, at_, ps, rfl, hp, rfl⟩ := hR
  show Go X _ _ [.d (.str line), .d (.int at_), .d (.tup (ps.map D.str)), .un, .un] _
  refine go_cons (gs_for C [3, 4] (di_enumT C 0 (Do.of (ev_nm C 2 rfl) ⟨_, rfl, ?_⟩) T.enumerate))
  refine ⟨fun r Δ => ∃ (n : Nat) (qs : List Str) (a b : Slot), r = enumF n (qs.map D.str) ∧ Δ = [.d (.str line), .d (.int at_), .d (.tup (ps.map D.str)), a, b] ∧ (∀ p ∈ qs, p.length ≤ 1000) ∧ slotAt line at_ qs n = slotAt line at_ ps 0, ⟨0, ps, _, _, rfl, rfl, hp, rfl⟩, fun y r Δ2 hJ => ?_, fun Δ2 hJ => ?_⟩
  · obtain ⟨n, qs, sa, sb, hr, rfl, hq, hs⟩ := hJ
    cases qs with
    | nil => cases hr
    | cons q qs =>
      injection hr with h1 h2
      subst h1 h2
      have hq1 := hq q List.mem_cons_self
      refine bd_tup C (bs_cons (bd_nm C 3 (bs_cons (bd_nm C 4 (bs_nil ?_)))))
      refine go_cons (gs_ifE (et_val (ev_starts3 (ev_nm C 0 rfl) (ev_cats (ev_cats ev_str (ev_nm C 4 rfl) (by show 1 + q.length ≤ _; omega)) ev_str (by rw [len_app]; show 1 + q.length + 1 ≤ _; omega)) (ev_nm C 1 rfl) trivial)) (fun hb => ?_) (fun hb => ?_))
      · refine go_cons (gs_ret (Do.of (ev_tup (ea_cons (ev_add (ev_add (ev_nm C 1 rfl) (ev_len C 1 (ev_nm C 4 rfl).r (.str _ (by omega)) T.len)) ev_int) (ea_cons (ev_nm C 3 rfl) ea_nil))) ?_))
        rw [← hs]
        show _ = slotD (if _ then _ else _)
        rw [if_pos hb]
        rfl
      · refine go_nil ?_
        refine go_nil ⟨n + 1, qs, _, _, rfl, rfl, fun p h => hq p (List.mem_cons_of_mem _ h), ?_⟩
        rw [← hs]
        show _ = if _ then _ else _
        rw [if_neg (by rw [hb]; decide)]
  · obtain ⟨n, qs, sa, sb, hr, rfl, hq, hs⟩ := hJ
    cases qs with
    | cons q qs => cases hr
    | nil =>
      refine go_cons (gs_ret (Do.of ev_non ?_))
      rw [← hs]
      rfl
end
/-! ### slots in code lists -/
def pat (p : Str) : List Nat := 123 :: (codes p ++ [125])
theorem pat_len (p : Str) : (pat p).length = p.length + 2 := by unfold pat; simp [codes_len]
def slotL (l : List Nat) (i : Nat) : List Str → Nat → Option (Nat × Nat)
  | [], _ => none
  | p :: r, n => if (l.drop i).take (pat p).length = pat p then some (i + (pat p).length, n) else slotL l i r (n + 1)
theorem codes_app (x y : Str) : codes (x ++ y) = codes x ++ codes y := by
  show (x.cps ++ y.cps).toList = _
  rw [Array.toList_append]
  rfl
theorem codes_pat (p : Str) : codes ("{" ++ p ++ "}") = pat p := by
  rw [codes_app, codes_app]
  rfl
theorem starts3_iff (z y : Str) (i : Nat) (hy : 1 ≤ y.length) : Txt.startswith3 z y (i : Int) = decide (((codes z).drop i).take (codes y).length = codes y) := by
  have e1 : fromIndex z.length (i : Int) = i := by
    unfold fromIndex
    rw [if_neg (by omega)]
    omega
  unfold Txt.startswith3
  rw [e1, PySem.StrLaws.subAt_eq]
  show (decide (i + y.length ≤ z.length) && (((codes z).drop i).take y.length == codes y)) = _
  rw [codes_len]
  by_cases h : ((codes z).drop i).take y.length = codes y
  · have hl := congrArg List.length h
    rw [List.length_take, List.length_drop, codes_len, codes_len] at hl
    rw [decide_eq_true h, decide_eq_true (show i + y.length ≤ z.length by omega), h]
    simp
  · rw [decide_eq_false h]
    have : (((codes z).drop i).take y.length == codes y) = false := by simpa using h
    rw [this, Bool.and_false]
theorem slotAt_eq (z : Str) (i : Nat) : ∀ (ps : List Str) (n : Nat), slotAt z (i : Int) ps n = (slotL (codes z) i ps n).map fun e => (((e.1 : Nat) : Int), e.2)
  | [], _ => rfl
  | p :: r, n => by
    have h1 : 1 ≤ ("{" ++ p ++ "}" : Str).length := by rw [len_app, len_app]; show 1 ≤ 1 + p.length + 1; omega
    unfold slotAt slotL
    rw [starts3_iff _ _ _ h1, codes_pat]
    by_cases h : ((codes z).drop i).take (pat p).length = pat p
    · rw [if_pos (by simpa using h), if_pos h, pat_len]
      show _ = some (((i + (p.length + 2) : Nat) : Int), n)
      congr 2
    · rw [if_neg (by simpa using h), if_neg h]
      exact slotAt_eq z i r (n + 1)
theorem slotL_end {l : List Nat} {i : Nat} : ∀ {ps : List Str} {n e m : Nat}, slotL l i ps n = some (e, m) → i + 2 ≤ e ∧ e ≤ l.length
  | p :: r, n, e, m, h => by
    unfold slotL at h
    split at h
    · rename_i h1
      cases h
      have h2 := congrArg List.length h1
      rw [List.length_take, List.length_drop, pat_len] at h2
      rw [pat_len]
      omega
    · exact slotL_end h
inductive Part where
  | text (a b : Nat) | slot (a b k : Nat)
def Part.d : Part → D
  | .text a b => .tup [.str "text", .int (a : Nat), .int (b : Nat)]
  | .slot a b k => .tup [.str "slot", .int (a : Nat), .int (b : Nat), .int (k : Nat)]
/-- the parts of a line from a place on, a text having begun at b -/
def partsGo (l : List Nat) (ps : List Str) : Nat → Nat → Nat → List Part
  | 0, _, _ => []
  | fuel + 1, b, i =>
    if i < l.length then
      match slotL l i ps 0 with
      | none => partsGo l ps fuel b (i + 1)
      | some (e, n) => (if b < i then [Part.text b i] else []) ++ .slot i e n :: partsGo l ps fuel e e
    else if b < i then [.text b i] else []
def partsOf (l : List Nat) (ps : List Str) : List Part := partsGo l ps (l.length + 1) 0 0
def R_parts_of : List D → D → Prop := fun ds d => ∃ (line : Str) (ps : List Str), ds = [.str line, .tup (ps.map D.str)] ∧ line.length ≤ 1000 ∧ (∀ p ∈ ps, p.length ≤ 1000) ∧ d = .tup ((partsOf (codes line) ps).map Part.d)
section
variable {P : Program} {w : World} {K : PySem.W.Frag} {mg : Str → Option Value} {base : Heap}
theorem ok_parts_of (T : Tx mg) (A : At K mg "parts_of" s_parts_of P_parts_of) (F1 : FnD P w K mg base "slot_at" 1 (spR K R_slot_at)) : FnD P w K mg base "parts_of" 2 (spR K R_parts_of) := by
  refine A.r sc_parts_of dc_parts_of (fun ds d h => by obtain ⟨_, _, rfl, _⟩ := h; rfl) fun X B H ds d C hR => ?_
  obtain ⟨line, ps, rfl, hl, hp, rfl⟩ := hR
  show Go X _ _ [.d (.str line), .d (.tup (ps.map D.str)), .un, .un, .un, .un] _
  refine go_cons (gs_new C 2 (DoF.of (ef_lst ea_nil) ?_))
  refine go_cons (gs_set C 3 (Do.of ev_int ?_))
  refine go_cons (gs_set C 4 (Do.of ev_int ?_))
  refine go_cons (gs_while C (fun m Δ => ∃ (done : List Part) (b i : Nat) (sl : Slot), Δ = [.d (.str line), .d (.tup (ps.map D.str)), .own (.lst (done.map Part.d)), .d (.int b), .d (.int i), sl] ∧ b ≤ i ∧ i ≤ line.length ∧ line.length < i + m ∧ done.length ≤ 2 * i ∧ done ++ partsGo (codes line) ps m b i = partsOf (codes line) ps) (m0 := line.length + 1) ⟨[], 0, 0, _, rfl, Nat.le_refl _, Nat.zero_le _, by omega, Nat.le_refl _, by rw [← codes_len]; rfl⟩ ?_)
  rintro m _ ⟨done, b, i, sl, rfl, hbi, hil, hm, hd, hq⟩
  have F1' := F1
  refine ⟨decide ((i : Int) < (line.length : Int)), et_cmp co_lt (ev_nm C 4 rfl).r (ev_len C 0 (ev_nm C 0 rfl).r (.str _ (by omega)) T.len).r, fun hb => ?_, fun hb => ?_⟩
  · have hlt : i < line.length := by simpa using hb
    obtain ⟨m, rfl⟩ : ∃ m', m = m' + 1 := ⟨m - 1, by omega⟩
    refine go_cons (gs_set C 5 (Do.of (ev_call C 1 F1 (ea_cons (ev_nm C 0 rfl) (ea_cons (ev_nm C 4 rfl) (ea_cons (ev_nm C 1 rfl) ea_nil))) ⟨line, i, ps, rfl, hp, rfl⟩) ?_))
    rw [slotAt_eq]
    unfold partsGo at hq
    rw [if_pos (by rw [codes_len]; exact hlt)] at hq
    cases hs : slotL (codes line) i ps 0 with
    | none =>
      rw [hs] at hq
      refine go_cons (gs_ifE (et_cmp co_is (ev_nm C 5 rfl).r ev_non.r) (fun _ => ?_) (fun h => by cases h))
      refine go_cons (gs_aug C 4 rfl ev_int (go_nil ?_))
      exact go_nil ⟨m, Nat.lt_succ_self _, done, b, i + 1, _, rfl, by omega, by omega, by omega, by omega, hq⟩
    | some en =>
      obtain ⟨e, n⟩ := en
      rw [hs] at hq
      obtain ⟨h2, h3⟩ := slotL_end hs
      rw [codes_len] at h3
      refine go_cons (gs_ifE (et_cmp co_is (ev_nm C 5 rfl).r ev_non.r) (fun h => by cases h) (fun _ => ?_))
      refine go_cons (gs_via (fun Δ' => ∃ done2 : List Part, Δ' = [.d (.str line), .d (.tup (ps.map D.str)), .own (.lst (done2.map Part.d)), .d (.int b), .d (.int i), .d (.tup [.int (e : Nat), .int (n : Nat)])] ∧ done2.length ≤ done.length + 1 ∧ done2 ++ .slot i e n :: partsGo (codes line) ps m e e = partsOf (codes line) ps) (gs_ifE (et_cmp co_lt (ev_nm C 3 rfl).r (ev_nm C 4 rfl).r) (fun h => ?_) (fun h => ?_)) ?_)
      · have hbi2 : b < i := by simpa using h
        rw [if_pos hbi2] at hq
        refine go_cons (gs_append C 2 rfl (Do.of (ev_tup (ea_cons ev_str (ea_cons (ev_nm C 3 rfl) (ea_cons (ev_nm C 4 rfl) ea_nil)))) ⟨by rw [List.length_map]; omega, go_nil ?_⟩))
        refine ⟨done ++ [.text b i], ?_, by simp, by rw [← hq]; simp⟩
        rw [List.map_append]
        rfl
      · have hbi2 : ¬ b < i := by simpa using h
        rw [if_neg hbi2] at hq
        exact go_nil ⟨done, rfl, Nat.le_succ _, hq⟩
      · rintro _ ⟨done2, rfl, hl2, hq2⟩
        refine go_cons (gs_append C 2 rfl (Do.of (ev_tup (ea_cons ev_str (ea_cons (ev_nm C 4 rfl) (ea_cons (ev_ix C (ev_nm C 5 rfl).r ev_int rfl rfl) (ea_cons (ev_ix C (ev_nm C 5 rfl).r ev_int rfl rfl) ea_nil))))) ⟨by rw [List.length_map]; omega, ?_⟩))
        refine go_cons (gs_set C 4 (Do.of (ev_ix C (ev_nm C 5 rfl).r ev_int rfl rfl) ?_))
        refine go_cons (gs_set C 3 (Do.of (ev_nm C 4 rfl) (go_nil ?_)))
        refine go_nil ⟨m, Nat.lt_succ_self _, done2 ++ [.slot i e n], e, e, .d (.tup [.int (e : Nat), .int (n : Nat)]), ?_, Nat.le_refl _, h3, by omega, by rw [List.length_append]; show _ + 1 ≤ _; omega, ?_⟩
        · rw [List.map_append]; rfl
        · rw [List.append_assoc]; exact hq2
  · have hge : ¬ i < line.length := by simpa using hb
    obtain ⟨m, rfl⟩ : ∃ m', m = m' + 1 := ⟨m - 1, by omega⟩
    unfold partsGo at hq
    rw [if_neg (by rw [codes_len]; exact hge)] at hq
    refine go_cons (gs_ifE (et_cmp co_lt (ev_nm C 3 rfl).r (ev_nm C 4 rfl).r) (fun h => ?_) (fun h => ?_))
    · have hbi2 : b < i := by simpa using h
      rw [if_pos hbi2] at hq
      refine go_cons (gs_append C 2 rfl (Do.of (ev_tup (ea_cons ev_str (ea_cons (ev_nm C 3 rfl) (ea_cons (ev_nm C 4 rfl) ea_nil)))) ⟨by rw [List.length_map]; omega, go_nil ?_⟩))
      refine go_cons (gs_ret (Do.of (ev_tuple C 2 (er_own C 2 rfl rfl) rfl T.tuple) ?_))
      show D.tup _ = _
      rw [← hq, List.map_append]
      rfl
    · have hbi2 : ¬ b < i := by simpa using h
      rw [if_neg hbi2, List.append_nil] at hq
      refine go_nil ?_
      refine go_cons (gs_ret (Do.of (ev_tuple C 2 (er_own C 2 rfl rfl) rfl T.tuple) ?_))
      show D.tup _ = _
      rw [← hq]
end
end Kn
/-! P2: what is a web. -/
namespace Kn
open PySem PySem.Spec PyProof.Rows L2
section
variable {P : Program} {w : World} {K : PySem.W.Frag} {mg : Str → Option Value} {base : Heap}
def R_is (e : α → D) (ok : α → Prop) : List D → D → Prop := fun ds d => ∃ x, ds = [e x] ∧ ok x ∧ d = .bl true
theorem ok_is_number (T : Tx mg) (A : At K mg "is_number" s_is_number P_is_number) : FnD P w K mg base "is_number" 1 (spR K (R_is (fun n : Nat => .int (n : Int)) fun _ => True)) := by
  refine A.r sc_is_number dc_is_number (fun ds d h => by obtain ⟨_, rfl, _⟩ := h; rfl) fun X B H ds d C hR => ?_
  obtain ⟨n, rfl, _, rfl⟩ := hR
  show Go X _ _ [.d (.int n)] _
  refine go_cons (gs_ret (Do.of (ev_and (ev_isi C 0 1 (T := "int") (ev_nm C 0 rfl).r rfl T.isinstance T.int rfl) fun _ => ev_and (ev_not (ev_isi C 0 2 (T := "bool") (ev_nm C 0 rfl).r rfl T.isinstance T.bool rfl)) fun _ => ev_one (ev_cmp co_ge (ev_nm C 0 rfl).r ev_int.r)) ?_))
  show D.bl _ = D.bl true
  congr 1
theorem at_last {α : Type} {l : List α} (h : l ≠ []) : atI l (-1) = l.getLast? := by
  have hp : 0 < l.length := List.length_pos_iff.mpr h
  unfold atI ixN
  rw [if_neg (by decide), if_pos (by omega), List.getLast?_eq_getElem?]
  show l[((-1 : Int) + (l.length : Int)).toNat]? = _
  congr 1
  omega
theorem co_le1 {X : Cx} {E : En} {i l : Int} (h : i ≤ l := by omega) : Co X E .LtE (.int i) (.int l) true := by have := co_le (X := X) (E := E) (i := i) (l := l); rwa [decide_eq_true h] at this
theorem wlen {x : Str} {n : Nat} (h : x.length ≤ n) (hn : n ≤ 1000 := by decide) : LenD (.str x) x.length := .str _ (by omega)
theorem ok_is_word (T : Tx mg) (A : At K mg "is_word" s_is_word P_is_word) : FnD P w K mg base "is_word" 1 (spR K (R_is D.str WordOk)) := by
  refine A.r sc_is_word dc_is_word (fun ds d h => by obtain ⟨_, rfl, _⟩ := h; rfl) fun X B H ds d C hR => ?_
  obtain ⟨x, rfl, hx, rfl⟩ := hR
  obtain ⟨t1, ht1⟩ := T.mletters
  obtain ⟨t2, ht2⟩ := T.letters
  show Go X _ _ [.d (.str x), .un] _
  have h1 := hx.pos
  have h2 := hx.le
  refine go_cons (gs_ifE (ew_or (et_not (et_val (ev_isi C 0 1 (T := "str") (ev_nm C 0 rfl).r rfl T.isinstance T.str rfl))) fun _ => ew_or1 (et_not (et_chain co_le1 co_le1 ev_int (ev_len C 2 (ev_nm C 0 rfl).r (.str _ (by omega)) T.len) (ev_gint C 3 ht1)))).t (fun h => ?_) (fun _ => ?_))
  · cases h
  · refine go_nil (go_cons (gs_ret (Do.of (ev_allC C 4 1 (bk_by (own := ow_is_word_0) (vb := bv_is_word_0) (wb := bw_is_word_0) (G := bg_is_word_0) (by decide +kernel)) (by exact ⟨trivial, trivial⟩) (by trivial) (fun c => .str ⟨#[c]⟩) (fun c => decide (c ∈ codes "abcdefghijklmnopqrstuvwxyz")) (codes x) (di_strE (ev_nm C 0 rfl)) (by rw [codes_len]; omega) (fun c hc Y CY => ev_cmp co_inS (ev_nm CY 1 rfl).r (ev_gstr CY 0 ht2).r) T.all) ?_)))
    show D.bl _ = D.bl true
    congr 1
    refine List.all_eq_true.mpr fun c hc => decide_eq_true ?_
    obtain ⟨g1, g2⟩ := hx.all c hc
    have : c = 97 ∨ c = 98 ∨ c = 99 ∨ c = 100 ∨ c = 101 ∨ c = 102 ∨ c = 103 ∨ c = 104 ∨ c = 105 ∨ c = 106 ∨ c = 107 ∨ c = 108 ∨ c = 109 ∨ c = 110 ∨ c = 111 ∨ c = 112 ∨ c = 113 ∨ c = 114 ∨ c = 115 ∨ c = 116 ∨ c = 117 ∨ c = 118 ∨ c = 119 ∨ c = 120 ∨ c = 121 ∨ c = 122 := by omega
    rcases this with h | h | h | h | h | h | h | h | h | h | h | h | h | h | h | h | h | h | h | h | h | h | h | h | h | h <;> subst h <;> decide +kernel
theorem ok_is_sign (T : Tx mg) (A : At K mg "is_sign" s_is_sign P_is_sign) : FnD P w K mg base "is_sign" 1 (spR K (R_is (fun c : Nat => .str ⟨#[c]⟩) sgn)) := by
  refine A.r sc_is_sign dc_is_sign (fun ds d h => by obtain ⟨_, rfl, _⟩ := h; rfl) fun X B H ds d C hR => ?_
  obtain ⟨c, rfl, ⟨h1, h2, h3⟩, rfl⟩ := hR
  show Go X _ _ [.d (.str ⟨#[c]⟩)] _
  refine go_cons (gs_ret (Do.of (ev_and (ev_chain co_leS (fun _ => co_leS) ev_str (ev_nm C 0 rfl) ev_str) fun _ => ev_one (ev_cmp co_neI (ev_ord C 0 (ev_nm C 0 rfl) rfl T.ord).r ev_int.r)) ?_))
  show D.bl _ = D.bl true
  congr 1
  have e1 : decide (([c] : List Nat) < [32]) = false := decide_eq_false (by intro h; cases h with | rel h => omega | cons h => cases h)
  have e2 : decide (([126] : List Nat) < [c]) = false := decide_eq_false (by intro h; cases h with | rel h => omega | cons h => cases h)
  have e3 : decide (((c : Nat) : Int) = 37) = false := decide_eq_false (by omega)
  show (((!decide (([c] : List Nat) < [32])) && (!decide (([126] : List Nat) < [c]))) && (!decide (((c : Nat) : Int) = 37))) = true
  rw [e1, e2, e3]
  rfl
theorem ok_is_line (T : Tx mg) (A : At K mg "is_line" s_is_line P_is_line) (F : FnD P w K mg base "is_sign" 1 (spR K (R_is (fun c : Nat => .str ⟨#[c]⟩) sgn))) : FnD P w K mg base "is_line" 2 (spR K (R_is D.str LineOk)) := by
  refine A.r sc_is_line dc_is_line (fun ds d h => by obtain ⟨_, rfl, _⟩ := h; rfl) fun X B H ds d C hR => ?_
  obtain ⟨x, rfl, hx, rfl⟩ := hR
  have hl := hx.len
  show Go X _ _ [.d (.str x), .un] _
  refine go_cons (gs_ret (Do.of (ev_and (ev_isi C 0 1 (T := "str") (ev_nm C 0 rfl).r rfl T.isinstance T.str rfl) fun _ => ev_one (ev_allC C 2 1 (bk_by (own := ow_is_line_0) (vb := bv_is_line_0) (wb := bw_is_line_0) (G := bg_is_line_0) (by decide +kernel)) (by exact ⟨trivial, trivial⟩) (by trivial) (fun c => .str ⟨#[c]⟩) (fun c => true) (codes x) (di_strE (ev_nm C 0 rfl)) (by rw [codes_len]; omega) (fun c hc Y CY => ev_call CY 0 F (ea_cons (ev_nm CY 1 rfl) ea_nil) ⟨c, rfl, hx.all c hc, rfl⟩) T.all)) ?_))
  show D.bl _ = D.bl true
  congr 1
  simp
theorem ok_is_argument (T : Tx mg) (A : At K mg "is_argument" s_is_argument P_is_argument) (F : FnD P w K mg base "is_line" 2 (spR K (R_is D.str LineOk))) : FnD P w K mg base "is_argument" 3 (spR K (R_is D.str ArgOk)) := by
  refine A.r sc_is_argument dc_is_argument (fun ds d h => by obtain ⟨_, rfl, _⟩ := h; rfl) fun X B H ds d C hR => ?_
  obtain ⟨x, rfl, hx, rfl⟩ := hR
  have hl := hx.line.len
  have hp := hx.pos
  show Go X _ _ [.d (.str x), .un] _
  obtain ⟨c0, r0, e0⟩ : ∃ c r, codes x = c :: r := by
    cases h : codes x with
    | nil => rw [← codes_len, h] at hp; cases hp
    | cons c r => exact ⟨c, r, rfl⟩
  have n0 : c0 ≠ 32 := by have := hx.first; rw [e0] at this; simpa using this
  obtain ⟨c1, e1⟩ : ∃ c, (codes x).getLast? = some c := by rw [e0]; exact ⟨_, List.getLast?_eq_getLast (by simp)⟩
  have n1 : c1 ≠ 32 := by have := hx.last; rw [e1] at this; simpa using this
  have i0 : atI x.cps.toList 0 = some c0 := by show atI (codes x) ((0 : Nat) : Int) = _; rw [e0]; exact atI_nat rfl
  have i1 : atI x.cps.toList (-1) = some c1 := by show atI (codes x) (-1) = _; rw [at_last (by rw [e0]; simp)]; exact e1
  refine go_cons (gs_ifE (ew_or (et_not (et_val (ev_call C 0 F (ea_cons (ev_nm C 0 rfl) ea_nil) ⟨x, rfl, hx.line, rfl⟩))) fun _ => ew_or (et_cmp co_eqS (ev_nm C 0 rfl).r ev_str.r) fun _ => ew_or (et_cmp co_eqS (ev_ixS (ev_nm C 0 rfl) ev_int (by omega) i0).r ev_str.r) fun _ => ew_or1 (et_cmp co_eqS (ev_ixS (ev_nm C 0 rfl) (ev_neg ev_int) (by omega) i1).r ev_str.r)).t (fun h => ?_) (fun _ => ?_))
  · exfalso
    have f1 : decide (x = "") = false := decide_eq_false (by rintro rfl; cases hp)
    have f2 : ∀ c : Nat, c ≠ 32 → decide ((⟨#[c]⟩ : Str) = " ") = false := fun c hc => decide_eq_false fun z => hc (by have := congrArg codes z; rw [show codes " " = [32] from by decide +kernel] at this; exact (List.cons.inj this).1)
    rw [f1, f2 _ n0, f2 _ n1] at h
    cases h
  · refine go_nil (go_cons (gs_ret (Do.of (ev_allC C 1 1 (bk_by (own := ow_is_argument_0) (vb := bv_is_argument_0) (wb := bw_is_argument_0) (G := bg_is_argument_0) (by decide +kernel)) (by exact ⟨trivial, trivial⟩) (by trivial) (fun c => .str ⟨#[c]⟩) (fun c => !decide (c ∈ codes ",()")) (codes x) (di_strE (ev_nm C 0 rfl)) (by rw [codes_len]; omega) (fun c hc Y CY => ev_cmp co_notinS (ev_nm CY 1 rfl).r ev_str.r) T.all) ?_)))
    show D.bl _ = D.bl true
    congr 1
    refine List.all_eq_true.mpr fun c hc => ?_
    obtain ⟨g1, g2, g3⟩ := hx.no c hc
    have : c ∉ codes ",()" := by
      show c ∉ [44, 40, 41]
      simp [g1, g2, g3]
    simp [this]
theorem ok_is_code_line (T : Tx mg) (A : At K mg "is_code_line" s_is_code_line P_is_code_line) (F1 : FnD P w K mg base "is_line" 2 (spR K (R_is D.str LineOk))) (F2 : FnD P w K mg base "is_number" 1 (spR K (R_is (fun n : Nat => .int (n : Int)) fun _ => True)))
    (F3 : FnD P w K mg base "is_word" 1 (spR K (R_is D.str WordOk))) (F4 : FnD P w K mg base "is_argument" 3 (spR K (R_is D.str ArgOk))) : FnD P w K mg base "is_code_line" 4 (spR K (R_is Ln.d Ln.Ok)) := by
  refine A.r sc_is_code_line dc_is_code_line (fun ds d h => by obtain ⟨_, rfl, _⟩ := h; rfl) fun X B H ds d C hR => ?_
  obtain ⟨x, rfl, hx, rfl⟩ := hR
  obtain ⟨t1, ht1⟩ := T.mindent
  obtain ⟨t2, ht2⟩ := T.margs
  cases x with
  | plain z =>
    show Go X _ _ [.d (.tup [.str "plain", .str z]), .un, .un] _
    refine go_cons (gs_ifE (ew_or (et_not (et_val (ev_isi C 0 1 (T := "tuple") (ev_nm C 0 rfl).r rfl T.isinstance T.tuple rfl))) fun _ => ew_or (et_cmp co_eqI (ev_len C 2 (ev_nm C 0 rfl).r (.tup _) T.len).r ev_int.r) fun _ => ew_or1 (et_not (et_val (ev_isi C 0 3 (T := "str") (ev_ix C (ev_nm C 0 rfl).r ev_int rfl rfl).r rfl T.isinstance T.str rfl)))).t (fun h => ?_) (fun _ => go_nil ?_))
    · cases h
    refine go_cons (gs_ifE (et_cmp co_eqS (ev_ix C (ev_nm C 0 rfl).r ev_int rfl rfl).r ev_str.r) (fun _ => ?_) (fun h => ?_))
    · refine go_cons (gs_ret (Do.of (ev_and (ev_cmp co_eqI (ev_len C 2 (ev_nm C 0 rfl).r (.tup _) T.len).r ev_int.r) fun _ => ev_one (ev_call C 4 F1 (ea_cons (ev_ix C (ev_nm C 0 rfl).r ev_int rfl rfl) ea_nil) ⟨z, rfl, hx, rfl⟩)) ?_))
      rfl
    · cases h
  | use n y as =>
    obtain ⟨h1, h2, h3, h4⟩ := hx
    show Go X _ _ [.d (.tup [.str "use", .int (n : Nat), .str y, .tup (as.map D.str)]), .un, .un] _
    refine go_cons (gs_ifE (ew_or (et_not (et_val (ev_isi C 0 1 (T := "tuple") (ev_nm C 0 rfl).r rfl T.isinstance T.tuple rfl))) fun _ => ew_or (et_cmp co_eqI (ev_len C 2 (ev_nm C 0 rfl).r (.tup _) T.len).r ev_int.r) fun _ => ew_or1 (et_not (et_val (ev_isi C 0 3 (T := "str") (ev_ix C (ev_nm C 0 rfl).r ev_int rfl rfl).r rfl T.isinstance T.str rfl)))).t (fun h => ?_) (fun _ => go_nil ?_))
    · cases h
    refine go_cons (gs_ifE (et_cmp co_eqS (ev_ix C (ev_nm C 0 rfl).r ev_int rfl rfl).r ev_str.r) (fun h => ?_) (fun _ => go_nil ?_))
    · cases h
    refine go_cons (gs_ifE (ew_or (et_cmp co_neS (ev_ix C (ev_nm C 0 rfl).r ev_int rfl rfl).r ev_str.r) fun _ => ew_or (et_cmp co_neI (ev_len C 2 (ev_nm C 0 rfl).r (.tup _) T.len).r ev_int.r) fun _ => ew_or (et_not (et_val (ev_call C 5 F2 (ea_cons (ev_ix C (ev_nm C 0 rfl).r ev_int rfl rfl) ea_nil) ⟨n, rfl, trivial, rfl⟩))) fun _ => ew_or1 (et_cmp co_gt (ev_ix C (ev_nm C 0 rfl).r ev_int rfl rfl).r (ev_gint C 6 ht1).r)).t (fun h => ?_) (fun _ => go_nil ?_))
    · exfalso
      have f1 : decide ((20 : Int) < (n : Int)) = false := decide_eq_false (by omega)
      rw [f1] at h
      cases h
    refine go_cons (gs_set C 1 (Do.of (ev_ix C (ev_nm C 0 rfl).r ev_int rfl rfl) ?_))
    refine go_cons (gs_ifE (ew_or (et_not (et_val (ev_call C 7 F3 (ea_cons (ev_ix C (ev_nm C 0 rfl).r ev_int rfl rfl) ea_nil) ⟨y, rfl, h2, rfl⟩))) fun _ => ew_or (et_not (et_val (ev_isi C 0 1 (T := "tuple") (ev_nm C 1 rfl).r rfl T.isinstance T.tuple rfl))) fun _ => ew_or1 (et_cmp co_gt (ev_len C 2 (ev_nm C 1 rfl).r (.tup _) T.len).r (ev_gint C 8 ht2).r)).t (fun h => ?_) (fun _ => go_nil ?_))
    · exfalso
      have f1 : decide ((3 : Int) < ((as.map D.str).length : Int)) = false := decide_eq_false (by rw [strs_len]; omega)
      rw [f1] at h
      cases h
    refine go_cons (gs_ret (Do.of (ev_allC C 9 2 (bk_by (own := ow_is_code_line_0) (vb := bv_is_code_line_0) (wb := bw_is_code_line_0) (G := bg_is_code_line_0) (by decide +kernel)) (by exact ⟨trivial, trivial⟩) (by trivial) D.str (fun _ => true) as (di_tupE C (ev_nm C 1 rfl)) (by omega) (fun a ha Y CY => ev_call CY 0 F4 (ea_cons (ev_nm CY 2 rfl) ea_nil) ⟨a, rfl, h4 a ha, rfl⟩) T.all) ?_))
    show D.bl _ = D.bl true
    congr 1
    simp
theorem Hd.plain (h : Hd) : h.d.plain = true := by
  have : ∀ ps : List Str, plains (ps.map D.str) = true := fun ps => by induction ps with
    | nil => rfl
    | cons p r ih => show (true && plains _) = true; rw [ih]; rfl
  show (true && (plains (h.params.map D.str) && (true && true))) = true
  rw [this]; rfl
theorem ok_is_head (T : Tx mg) (A : At K mg "is_head" s_is_head P_is_head) (F3 : FnD P w K mg base "is_word" 1 (spR K (R_is D.str WordOk))) : FnD P w K mg base "is_head" 2 (spR K (R_is Hd.d Hd.Ok)) := by
  refine A.r sc_is_head dc_is_head (fun ds d h => by obtain ⟨_, rfl, _⟩ := h; rfl) fun X B H ds d C hR => ?_
  obtain ⟨x, rfl, hx, rfl⟩ := hR
  obtain ⟨t1, ht1⟩ := T.mparams
  have few := hx.few
  show Go X _ _ [.d (.tup [.str x.name, .tup (x.params.map D.str), .bl x.file]), .un, .un] _
  have hlen : LenD (D.tup (x.params.map D.str)) (x.params.map D.str).length := .tup _
  refine go_cons (gs_ifE (ew_or (et_not (et_val (ev_isi C 0 1 (T := "tuple") (ev_nm C 0 rfl).r rfl T.isinstance T.tuple rfl))) fun _ => ew_or (et_cmp co_neI (ev_len C 2 (ev_nm C 0 rfl).r (.tup _) T.len).r ev_int.r) fun _ => ew_or1 (et_not (et_val (ev_call C 3 F3 (ea_cons (ev_ix C (ev_nm C 0 rfl).r ev_int rfl rfl) ea_nil) ⟨x.name, rfl, hx.name, rfl⟩)))).t (fun h => ?_) (fun _ => go_nil ?_))
  · cases h
  refine go_cons (gs_set C 1 (Do.of (ev_ix C (ev_nm C 0 rfl).r ev_int rfl rfl) ?_))
  refine go_cons (gs_ifE (ew_or (et_not (et_val (ev_isi C 0 1 (T := "tuple") (ev_nm C 1 rfl).r rfl T.isinstance T.tuple rfl))) fun _ => ew_or (et_cmp co_gt (ev_len C 2 (ev_nm C 1 rfl).r hlen T.len).r (ev_gint C 4 ht1).r) fun _ => ew_or1 (et_not (et_val (ev_allC C 5 2 (bk_by (own := ow_is_head_0) (vb := bv_is_head_0) (wb := bw_is_head_0) (G := bg_is_head_0) (by decide +kernel)) (by exact ⟨trivial, trivial⟩) (by trivial) D.str (fun _ => true) x.params (di_tupE C (ev_nm C 1 rfl)) (by omega) (fun a ha Y CY => ev_call CY 0 F3 (ea_cons (ev_nm CY 2 rfl) ea_nil) ⟨a, rfl, hx.all a ha, rfl⟩) T.all)))).t (fun h => ?_) (fun _ => go_nil ?_))
  · exfalso
    have f1 : decide ((3 : Int) < ((x.params.map D.str).length : Int)) = false := decide_eq_false (by rw [strs_len]; omega)
    rw [f1] at h
    have f2 : (x.params.all fun _ => true) = true := by simp
    rw [f2] at h
    cases h
  refine go_cons (gs_ifE (ew_or (et_cmp co_neI (ev_lenSet C 2 6 (ev_nm C 1 rfl) hx.nd (by omega) T.len T.set).r (ev_len C 2 (ev_nm C 1 rfl).r hlen T.len).r) fun _ => ew_or1 (et_not (et_val (ev_isi C 0 7 (T := "bool") (ev_ix C (ev_nm C 0 rfl).r ev_int rfl rfl).r rfl T.isinstance T.bool rfl)))).t (fun h => ?_) (fun _ => go_nil ?_))
  · exfalso
    rw [strs_len] at h
    simp at h
  refine go_cons (gs_ret (Do.of (ev_or (ev_not (ev_ix C (ev_nm C 0 rfl).r ev_int rfl rfl)) fun _ => ev_one (ev_cmp co_eqI (ev_len C 2 (ev_nm C 1 rfl).r hlen T.len).r ev_int.r)) ?_))
  show D.bl _ = D.bl true
  congr 1
  cases hf : x.file with
  | false => rfl
  | true => rw [hx.file hf]; rfl
end
end Kn
/-! P3: webs: sections, heads, code, uses. -/
namespace Kn
open PySem PySem.Spec PyProof.Rows L2
/-! ### mirrors -/
def hput (hs : List (Str × Hd)) (s : Se) : List (Str × Hd) := match s.head with
  | none => hs
  | some h => if h.name ∈ hs.map (·.1) then hs else hs ++ [(h.name, h)]
def heads (w : List Se) : List (Str × Hd) := w.foldl hput []
def hdK (hs : List (Str × Hd)) : List (Key × D) := hs.map fun p => (.inr p.1, p.2.d)
def hfind (hs : List (Str × Hd)) (x : Str) : Option Hd := (hs.find? fun p => decide (p.1 = x)).map (·.2)
theorem lu_hdK (hs : List (Str × Hd)) (x : Str) : luK (hdK hs) (.inr x) = (hfind hs x).map Hd.d := by
  induction hs with
  | nil => rfl
  | cons p r ih =>
    show luK ((Sum.inr p.1, p.2.d) :: hdK r) _ = _
    rw [luK_cons, ih]
    unfold hfind
    by_cases h : p.1 = x
    · rw [if_pos (by rw [h])]; simp [List.find?_cons, h]
    · rw [if_neg (by intro z; exact h (Sum.inr.inj z))]; simp [List.find?_cons, h]
theorem hfind_none {hs : List (Str × Hd)} {x : Str} : hfind hs x = none ↔ x ∉ hs.map (·.1) := by
  unfold hfind
  rw [Option.map_eq_none_iff, List.find?_eq_none]
  constructor
  · intro h z
    obtain ⟨p, hp, e⟩ := List.mem_map.mp z
    have := h p hp
    simp [e] at this
  · intro h p hp
    simp only [decide_eq_true_eq]
    intro e
    exact h (List.mem_map.mpr ⟨p, hp, e⟩)
theorem hfind_some {hs : List (Str × Hd)} {x : Str} (h : x ∈ hs.map (·.1)) : ∃ g, hfind hs x = some g := by
  cases e : hfind hs x with
  | none => exact absurd h (hfind_none.mp e)
  | some g => exact ⟨g, rfl⟩
theorem putD_new {hs : List (Str × Hd)} {x : Str} {h : Hd} (n : x ∉ hs.map (·.1)) : putD (hdK hs) (.inr x) h.d = hdK (hs ++ [(x, h)]) := by
  have e : ((hdK hs).any fun kv => decide (kv.1 = .inr x)) = false := by
    rw [List.any_eq_false]
    rintro kv hkv
    obtain ⟨p, hp, rfl⟩ := List.mem_map.mp hkv
    simp only [decide_eq_true_eq]
    intro z
    exact n (List.mem_map.mpr ⟨p, hp, Sum.inr.inj z⟩)
  unfold putD
  rw [if_neg (by rw [e]; decide)]
  unfold hdK
  rw [List.map_append]
  rfl
theorem hput_len (hs : List (Str × Hd)) (s : Se) : (hput hs s).length ≤ hs.length + 1 := by
  unfold hput
  split
  · omega
  · split
    · omega
    · simp
section
variable {P : Program} {w : World} {K : PySem.W.Frag} {mg : Str → Option Value} {base : Heap}
/-- s, or none at all -/
def seD : Option Se → D
  | none => .non
  | some s => s.d
def R_is_section : List D → D → Prop := fun ds d => ∃ s : Option Se, ds = [seD s] ∧ (∀ x, s = some x → x.Ok) ∧ d = .bl s.isSome
theorem ok_is_section (T : Tx mg) (A : At K mg "is_section" s_is_section P_is_section) (F1 : FnD P w K mg base "is_line" 2 (spR K (R_is D.str LineOk))) (F2 : FnD P w K mg base "is_code_line" 4 (spR K (R_is Ln.d Ln.Ok))) (F3 : FnD P w K mg base "is_head" 2 (spR K (R_is Hd.d Hd.Ok))) :
    FnD P w K mg base "is_section" 5 (spR K R_is_section) := by
  refine A.r sc_is_section dc_is_section (fun ds d h => by obtain ⟨_, rfl, _⟩ := h; rfl) fun X B H ds d C hR => ?_
  obtain ⟨s, rfl, hs, rfl⟩ := hR
  cases s with
  | none =>
    show Go X _ _ [.d .non, .un, .un, .un, .un] _
    refine go_cons (gs_ifE (ew_ort (et_not (et_val (ev_isi C 0 1 (T := "tuple") (ev_nm C 0 rfl).r rfl T.isinstance T.tuple rfl)))).t (fun _ => ?_) (fun h => ?_))
    · exact go_cons (gs_ret (Do.of ev_bl rfl))
    · cases h
  | some s =>
    have ok := hs s rfl
    have few := ok.few
    have short := ok.short
    show Go X _ _ [.d (.tup [.tup (s.prose.map D.str), hdD s.head, .tup (s.code.map Ln.d)]), .un, .un, .un, .un] _
    refine go_cons (gs_ifE (ew_or (et_not (et_val (ev_isi C 0 1 (T := "tuple") (ev_nm C 0 rfl).r rfl T.isinstance T.tuple rfl))) fun _ => ew_or1 (et_cmp co_neI (ev_len C 2 (ev_nm C 0 rfl).r (.tup _) T.len).r ev_int.r)).t (fun h => ?_) (fun _ => go_nil ?_))
    · cases h
    refine go_cons (gs_asg [1, 2, 3] (Do.of (ev_nm C 0 rfl) (bd_tup C (bs_cons (bd_nm C 1 (bs_cons (bd_nm C 2 (bs_cons (bd_nm C 3 (bs_nil ?_))))))))))
    show Go X _ _ [.d (.tup [.tup (s.prose.map D.str), hdD s.head, .tup (s.code.map Ln.d)]), .d (.tup (s.prose.map D.str)), .d (hdD s.head), .d (.tup (s.code.map Ln.d)), .un] _
    refine go_cons (gs_ifE (ew_or (et_not (et_val (ev_isi C 0 1 (T := "tuple") (ev_nm C 1 rfl).r rfl T.isinstance T.tuple rfl))) fun _ => ew_or (et_not (et_val (ev_isi C 0 1 (T := "tuple") (ev_nm C 3 rfl).r rfl T.isinstance T.tuple rfl))) fun _ => ew_or1 (et_not (et_val (ev_allC C 3 4 (bk_by (own := ow_is_section_0) (vb := bv_is_section_0) (wb := bw_is_section_0) (G := bg_is_section_0) (by decide +kernel)) (by exact ⟨trivial, trivial⟩) (by trivial) D.str (fun _ => true) s.prose (di_tupE C (ev_nm C 1 rfl)) (by omega) (fun a ha Y CY => ev_call CY 0 F1 (ea_cons (ev_nm CY 4 rfl) ea_nil) ⟨a, rfl, ok.prose a ha, rfl⟩) T.all)))).t (fun h => ?_) (fun _ => go_nil ?_))
    · exfalso
      have f2 : (s.prose.all fun _ => true) = true := by simp
      rw [f2] at h
      cases h
    cases hh : s.head with
    | none =>
      rw [ok.none hh]
      refine go_cons (gs_ifE (et_cmp co_is (ev_nm C 2 rfl).r ev_non.r) (fun _ => ?_) (fun h => by cases h))
      exact go_cons (gs_ret (Do.of (ev_cmp co_eqI (ev_len C 2 (ev_nm C 3 rfl).r (.tup _) T.len).r ev_int.r) rfl))
    | some h =>
      refine go_cons (gs_ifE (et_cmp co_is (ev_nm C 2 rfl).r ev_non.r) (fun h => by cases h) (fun _ => go_nil ?_))
      refine go_cons (gs_ret (Do.of (ev_and (ev_call C 4 F3 (ea_cons (ev_nm C 2 rfl) ea_nil) ⟨h, rfl, ok.head h hh, rfl⟩) fun _ => ev_one (ev_allC C 3 4 (bk_by (own := ow_is_section_1) (vb := bv_is_section_1) (wb := bw_is_section_1) (G := bg_is_section_1) (by decide +kernel)) (by exact ⟨trivial, trivial⟩) (by trivial) Ln.d (fun _ => true) s.code (di_tupE C (ev_nm C 3 rfl)) (by omega) (fun a ha Y CY => ev_call CY 0 F2 (ea_cons (ev_nm CY 4 rfl) ea_nil) ⟨a, rfl, ok.code a ha, rfl⟩) T.all)) ?_))
      show D.bl _ = D.bl true
      congr 1
      simp
def R_heads_of : List D → O → Prop := fun ds o => ∃ w, ds = [webD w] ∧ w.length ≤ 100 ∧ o = .dK (hdK (heads w))
theorem ok_heads_of (T : Tx mg) (A : At K mg "heads_of" s_heads_of P_heads_of) : FnD P w K mg base "heads_of" 1 (spL K R_heads_of) := by
  refine A.l sc_heads_of dc_heads_of (fun ds d h => by obtain ⟨_, rfl, _⟩ := h; rfl) fun X B H ds o C hR => ?_
  obtain ⟨v, rfl, hv, rfl⟩ := hR
  show Go X _ _ [.d (webD v), .un, .un, .un] _
  refine go_cons (gs_new C 1 (DoF.of ef_dic0 ?_))
  refine go_cons (gs_for C [2, 3] (di_tup C (Do.of (ev_nm C 0 rfl) ⟨_, rfl, ?_⟩)))
  refine ⟨fun r Δ => ∃ (ss : List Se) (hs : List (Str × Hd)) (a b : Slot), r = ss.map Se.d ∧ Δ = [.d (webD v), .own (.dK (hdK hs)), a, b] ∧ hs.length + ss.length ≤ 100 ∧ ss.foldl hput hs = heads v, ⟨v, [], _, _, rfl, rfl, by simpa using hv, rfl⟩, fun y r Δ2 hJ => ?_, fun Δ2 hJ => ?_⟩
  · obtain ⟨ss, hs, sa, sb, hr, rfl, hl, hq⟩ := hJ
    cases ss with
    | nil => cases hr
    | cons s ss =>
      injection hr with h1 h2
      subst h1 h2
      refine bd_tup C (bs_cons (bd_nm C 2 (bs_cons (bd_nm C 3 (bs_cons (bd_nm C 2 (bs_nil ?_)))))))
      rw [List.length_cons] at hl
      rw [List.foldl_cons] at hq
      have hl2 := hput_len hs s
      unfold hput at hq hl2
      cases hh : s.head with
      | none =>
        rw [hh] at hq
        refine go_cons (gs_ifE (ew_andf (et_cmp co_isnot (ev_nm C 3 rfl).r ev_non.r)).t (fun h => by cases h) (fun _ => ?_))
        exact go_nil (go_nil ⟨ss, hs, _, _, rfl, rfl, by omega, hq⟩)
      | some h =>
        rw [hh] at hq
        refine go_cons (gs_ifE (ew_and (et_cmp co_isnot (ev_nm C 3 rfl).r ev_non.r) fun _ => ew_and1 (et_cmp (co_notind C lu_str) (ev_ix C (ev_nm C 3 rfl).r ev_int rfl rfl).r (er_own C 1 rfl rfl))).t (fun hb => ?_) (fun hb => ?_))
        · have hn : h.name ∉ hs.map (·.1) := by
            rw [lu_hdK] at hb
            apply hfind_none.mp
            cases z : hfind hs h.name with
            | none => rfl
            | some g => rw [z] at hb; cases hb
          simp only [if_neg hn] at hq
          refine go_cons (gs_dputS C 1 rfl (ev_nm C 3 rfl) (ev_ix C (ev_nm C 3 rfl).r ev_int rfl rfl) (by unfold hdK; rw [List.length_map]; omega) ?_)
          refine go_nil (go_nil ⟨ss, hs ++ [(h.name, h)], .d (.tup (s.code.map Ln.d)), .d h.d, rfl, ?_, by rw [List.length_append]; show hs.length + 1 + _ ≤ _; omega, hq⟩)
          rw [← putD_new hn]
          rfl
        · have hn : h.name ∈ hs.map (·.1) := by
            rw [lu_hdK] at hb
            refine Classical.byContradiction fun z => ?_
            rw [hfind_none.mpr z] at hb
            cases hb
          simp only [if_pos hn] at hq
          exact go_nil (go_nil ⟨ss, hs, _, _, rfl, rfl, by omega, hq⟩)
  · obtain ⟨ss, hs, sa, sb, hr, rfl, hl, hq⟩ := hJ
    cases ss with
    | cons s ss => cases hr
    | nil =>
      refine go_cons (gs_retO C 1 rfl rfl ?_)
      show _ = O.dK _
      rw [← hq]
      rfl
end
end Kn
/-! P4: whole webs, names, code, uses. -/
namespace Kn
open PySem PySem.Spec PyProof.Rows L2
/-! ### of heads -/
theorem fold_mem {p : Str × Hd} : ∀ {ss : List Se} {hs : List (Str × Hd)}, p ∈ ss.foldl hput hs → p ∈ hs ∨ ∃ t ∈ ss, t.head = some p.2 ∧ p.1 = p.2.name
  | [], _, h => .inl h
  | s :: ss, hs, h => by
    rw [List.foldl_cons] at h
    rcases fold_mem h with q | ⟨t, ht, q⟩
    · unfold hput at q
      split at q
      · exact .inl q
      · rename_i g hg
        split at q
        · exact .inl q
        · rcases List.mem_append.mp q with q | q
          · exact .inl q
          · rw [List.mem_singleton] at q
            subst q
            exact .inr ⟨s, List.mem_cons_self, hg, rfl⟩
    · exact .inr ⟨t, List.mem_cons_of_mem _ ht, q⟩
theorem fold_keep {x : Str} : ∀ {ss : List Se} {hs : List (Str × Hd)}, x ∈ hs.map (·.1) → x ∈ (ss.foldl hput hs).map (·.1)
  | [], _, h => h
  | s :: ss, hs, h => by
    rw [List.foldl_cons]
    refine fold_keep ?_
    unfold hput
    split
    · exact h
    · split
      · exact h
      · rw [List.map_append]; exact List.mem_append_left _ h
theorem fold_has {s : Se} {g : Hd} : ∀ {ss : List Se} {hs : List (Str × Hd)}, s ∈ ss → s.head = some g → g.name ∈ (ss.foldl hput hs).map (·.1)
  | [], _, h, _ => by cases h
  | t :: ss, hs, h, e => by
    rw [List.foldl_cons]
    rcases List.mem_cons.mp h with q | q
    · subst q
      refine fold_keep ?_
      unfold hput
      rw [e]
      show g.name ∈ (if _ then _ else _ : List (Str × Hd)).map _
      split
      · assumption
      · rw [List.map_append]; simp
    · exact fold_has q e
theorem fold_nd : ∀ {ss : List Se} {hs : List (Str × Hd)}, (hs.map (·.1)).Nodup → ((ss.foldl hput hs).map (·.1)).Nodup
  | [], _, h => h
  | s :: ss, hs, h => by
    rw [List.foldl_cons]
    refine fold_nd ?_
    unfold hput
    split
    · exact h
    · split
      · exact h
      · rename_i n
        rw [List.map_append]
        refine List.nodup_append.mpr ⟨h, by simp, ?_⟩
        intro a ha b hb e
        simp at hb
        subst hb
        subst e
        exact n ha
theorem heads_mem {v : List Se} {p : Str × Hd} (h : p ∈ heads v) : ∃ t ∈ v, t.head = some p.2 ∧ p.1 = p.2.name := (fold_mem h).resolve_left (by simp)
theorem heads_has {v : List Se} {s : Se} {g : Hd} (h : s ∈ v) (e : s.head = some g) : g.name ∈ (heads v).map (·.1) := fold_has h e
theorem hfind_mem {hs : List (Str × Hd)} {x : Str} {g : Hd} (h : hfind hs x = some g) : (x, g) ∈ hs := by
  unfold hfind at h
  obtain ⟨p, hp, e⟩ := Option.map_eq_some_iff.mp h
  have h1 := List.mem_of_find?_eq_some hp
  have h2 := List.find?_some hp
  simp only [decide_eq_true_eq] at h2
  subst h2
  subst e
  exact h1
theorem hfind_head {v : List Se} {s : Se} {g : Hd} (ok : WebOk v) (h : s ∈ v) (e : s.head = some g) : hfind (heads v) g.name = some g := by
  obtain ⟨q, hq⟩ := hfind_some (heads_has h e)
  obtain ⟨t, ht, e2, e3⟩ := heads_mem (hfind_mem hq)
  have := ok.one s h t ht g q e e2 e3
  rw [this] at hq ⊢
  exact hq
def names (v : List Se) : List Str := (heads v).map (·.1)
theorem names_nd (v : List Se) : (names v).Nodup := fold_nd (by simp)
theorem names_mem {v : List Se} {x : Str} (h : x ∈ names v) : ∃ t ∈ v, ∃ g, t.head = some g ∧ g.name = x := by
  obtain ⟨p, hp, e⟩ := List.mem_map.mp h
  obtain ⟨t, ht, e1, e2⟩ := heads_mem hp
  exact ⟨t, ht, p.2, e1, e2.symm.trans e⟩
theorem heads_len (v : List Se) : (heads v).length ≤ v.length := by
  have : ∀ (ss : List Se) (hs : List (Str × Hd)), (ss.foldl hput hs).length ≤ hs.length + ss.length := fun ss => by
    induction ss with
    | nil => intro hs; simp
    | cons s ss ih =>
      intro hs
      rw [List.foldl_cons, List.length_cons]
      have := ih (hput hs s)
      have := hput_len hs s
      omega
  have h := this v []
  rw [List.length_nil, Nat.zero_add] at h
  exact h
theorem names_len (v : List Se) : (names v).length ≤ v.length := by unfold names; rw [List.length_map]; exact heads_len v
/-! ### code -/
def lineD (e : Nat × Nat × Ln) : D := .tup [.int (e.1 : Nat), .int (e.2.1 : Nat), e.2.2.d]
def numb (i : Nat) : Nat → List Ln → List (Nat × Nat × Ln)
  | _, [] => []
  | k, l :: r => (i, k, l) :: numb i (k + 1) r
def codeAt (x : Str) (i : Nat) (s : Se) : List (Nat × Nat × Ln) := match s.head with
  | none => []
  | some h => if h.name = x then numb i 0 s.code else []
def codeFrom (x : Str) : Nat → List Se → List (Nat × Nat × Ln)
  | _, [] => []
  | i, s :: r => codeAt x i s ++ codeFrom x (i + 1) r
def codeIn (v : List Se) (x : Str) : List (Nat × Nat × Ln) := codeFrom x 0 v
theorem numb_len (i : Nat) : ∀ (k : Nat) (ls : List Ln), (numb i k ls).length = ls.length
  | _, [] => rfl
  | k, _ :: r => congrArg (· + 1) (numb_len i (k + 1) r)
theorem codeAt_len (x : Str) (i : Nat) {s : Se} (h : s.code.length ≤ 8) : (codeAt x i s).length ≤ 8 := by
  unfold codeAt
  split
  · simp
  · split
    · rw [numb_len]; exact h
    · simp
theorem codeFrom_len (x : Str) : ∀ (i : Nat) (ss : List Se), (∀ s ∈ ss, s.code.length ≤ 8) → (codeFrom x i ss).length ≤ 8 * ss.length
  | _, [], _ => by simp [codeFrom]
  | i, s :: r, h => by
    have h1 := codeAt_len x i (h s List.mem_cons_self)
    have h2 := codeFrom_len x (i + 1) r fun t ht => h t (List.mem_cons_of_mem _ ht)
    rw [codeFrom, List.length_append, List.length_cons]
    omega
def useOf : Ln → Option Str
  | .plain _ => none
  | .use _ x _ => some x
def addUse (acc : List Str) (e : Nat × Nat × Ln) : List Str := match useOf e.2.2 with
  | none => acc
  | some x => if x ∈ acc then acc else acc ++ [x]
def usesIn (v : List Se) (x : Str) : List Str := (codeIn v x).foldl addUse []
theorem addUse_len (acc : List Str) (e : Nat × Nat × Ln) : (addUse acc e).length ≤ acc.length + 1 := by
  unfold addUse
  split
  · omega
  · split
    · omega
    · simp
section
variable {P : Program} {w : World} {K : PySem.W.Frag} {mg : Str → Option Value} {base : Heap}
/-- what is asked whether it is a web -/
inductive Vl where
  | web (v : List Se) | non | lst (xs : List D) | bad (v : List Se)
def Vl.d : Vl → D
  | .web v => webD v
  | .non => .non
  | .lst xs => .lst xs
  | .bad v => .tup (v.map Se.d ++ [.non])
def Vl.Ok : Vl → Prop
  | .web v => WebOk v
  | .bad v => WebOk v
  | _ => True
def Vl.good : Vl → Bool
  | .web _ => true
  | _ => false
def R_is_web : List D → D → Prop := fun ds d => ∃ x : Vl, ds = [x.d] ∧ x.Ok ∧ d = .bl x.good
theorem word_strOk {x : Str} (h : WordOk x) : PyData.strOk x = true := by
  unfold PyData.strOk
  rw [Array.all_eq_true]
  intro i hi
  have := (h.all x.cps[i] (by unfold codes; exact Array.mem_toList_iff.mpr (Array.getElem_mem hi))).2
  simp only [decide_eq_true_eq]
  omega
theorem shaped_hd {h : Hd} (ok : h.Ok) : SeqAt.shaped h.d.py = true := by
  have : ∀ ps : List Str, (∀ p ∈ ps, WordOk p) → PyData.canLayAll0 (pys (ps.map D.str)) = true ∧ PyData.depthAll (pys (ps.map D.str)) ≤ 0 := fun ps hp => by
    induction ps with
    | nil => simp [pys, PyData.canLayAll0, PyData.depthAll]
    | cons p r ih =>
      have h1 := word_strOk (hp p List.mem_cons_self)
      have h2 := ih fun q hq => hp q (List.mem_cons_of_mem _ hq)
      simp [pys, D.py, PyData.canLayAll0, PyData.canLay0, PyData.depthAll, PyData.depth, h1] at h2 ⊢
      exact h2
  obtain ⟨h1, h2⟩ := this h.params ok.all
  have h3 := word_strOk ok.name
  have h4 : PyData.depthAll (pys (h.params.map D.str)) = 0 := by omega
  unfold SeqAt.shaped
  simp [Hd.d, D.py, pys, PyData.canLay0, PyData.canLayAll0, PyData.depth, PyData.depthAll, h1, h3, h4]
theorem ok_is_web (T : Tx mg) (A : At K mg "is_web" s_is_web P_is_web) (F1 : FnD P w K mg base "is_section" 5 (spR K R_is_section)) (F2 : FnD P w K mg base "heads_of" 1 (spL K R_heads_of)) : FnD P w K mg base "is_web" 6 (spR K R_is_web) := by
  refine A.r sc_is_web dc_is_web (fun ds d h => by obtain ⟨_, rfl, _⟩ := h; rfl) fun X B H ds d C hR => ?_
  obtain ⟨x, rfl, hx, rfl⟩ := hR
  cases x with
  | non =>
    show Go X _ _ [.d .non, .un, .un, .un, .un] _
    exact go_cons (gs_ifE (ew_ort (et_not (et_val (ev_isi C 0 1 (T := "tuple") (ev_nm C 0 rfl).r rfl T.isinstance T.tuple rfl)))).t (fun _ => go_cons (gs_ret (Do.of ev_bl rfl))) (fun h => by cases h))
  | lst xs =>
    show Go X _ _ [.d (.lst xs), .un, .un, .un, .un] _
    exact go_cons (gs_ifE (ew_ort (et_not (et_val (ev_isi C 0 1 (T := "tuple") (ev_nm C 0 rfl).r rfl T.isinstance T.tuple rfl)))).t (fun _ => go_cons (gs_ret (Do.of ev_bl rfl))) (fun h => by cases h))
  | bad v =>
    have hv : WebOk v := hx
    have few := hv.few
    show Go X _ _ [.d (.tup (v.map Se.d ++ [.non])), .un, .un, .un, .un] _
    have e : v.map Se.d ++ [D.non] = (v.map some ++ [none]).map seD := by rw [List.map_append, List.map_map]; rfl
    refine go_cons (gs_ifE (ew_or (et_not (et_val (ev_isi C 0 1 (T := "tuple") (ev_nm C 0 rfl).r rfl T.isinstance T.tuple rfl))) fun _ => ew_or1 (et_not (et_val (ev_allC C 2 2 (bk_by (own := ow_is_web_0) (vb := bv_is_web_0) (wb := bw_is_web_0) (G := bg_is_web_0) (by decide +kernel)) (by exact ⟨trivial, trivial⟩) (by trivial) seD Option.isSome (v.map some ++ [none]) (e ▸ di_tupE C (ev_nm C 0 rfl)) (by simp; omega) (fun s hs Y CY => ev_call CY 0 F1 (ea_cons (ev_nm CY 2 rfl) ea_nil) ⟨s, rfl, fun z hz => ?_, rfl⟩) T.all)))).t (fun _ => go_cons (gs_ret (Do.of ev_bl rfl))) (fun h => ?_))
    · subst hz
      rcases List.mem_append.mp hs with q | q
      · obtain ⟨t, ht, et⟩ := List.mem_map.mp q
        cases et
        exact hv.se _ ht
      · simp at q
    · exfalso
      have : ((v.map some ++ [none]).all Option.isSome) = false := by rw [List.all_append]; simp
      rw [this] at h
      cases h
  | web v =>
    have hv : WebOk v := hx
    have few := hv.few
    show Go X _ _ [.d (webD v), .un, .un, .un, .un] _
    have e : v.map Se.d = (v.map some).map seD := by rw [List.map_map]; rfl
    refine go_cons (gs_ifE (ew_or (et_not (et_val (ev_isi C 0 1 (T := "tuple") (ev_nm C 0 rfl).r rfl T.isinstance T.tuple rfl))) fun _ => ew_or1 (et_not (et_val (ev_allC C 2 2 (bk_by (own := ow_is_web_0) (vb := bv_is_web_0) (wb := bw_is_web_0) (G := bg_is_web_0) (by decide +kernel)) (by exact ⟨trivial, trivial⟩) (by trivial) seD Option.isSome (v.map some) (e ▸ di_tupE C (ev_nm C 0 rfl)) (by simp; omega) (fun s hs Y CY => ev_call CY 0 F1 (ea_cons (ev_nm CY 2 rfl) ea_nil) ⟨s, rfl, fun z hz => ?_, rfl⟩) T.all)))).t (fun h => ?_) (fun _ => go_nil ?_))
    · subst hz
      obtain ⟨t, ht, et⟩ := List.mem_map.mp hs
      cases et
      exact hv.se _ ht
    · exfalso
      have : ((v.map some).all Option.isSome) = true := by rw [List.all_map]; simp
      rw [this] at h
      cases h
    refine go_cons (gs_set C 1 (Do.of (EvF.kn (ef_call C 3 F2 (ea_cons (ev_nm C 0 rfl) ea_nil) ⟨v, rfl, by omega, rfl⟩) rfl) ?_))
    refine go_cons (gs_ret (Do.of (ev_allG C 2 (bk_by (own := ow_is_web_1) (vb := bv_is_web_1) (wb := bw_is_web_1) (G := bg_is_web_1) (by decide +kernel)) (by exact ⟨trivial, trivial, trivial⟩) (by trivial) Se.d (fun s => [.d (webD v), .d (.dic (hdK (heads v))), .un, .d (.tup (s.code.map Ln.d)), .d (hdD s.head)]) (fun _ => true) v (di_tupE C (ev_nm C 0 rfl)) (by omega) (fun s hs Y CY => ⟨bd_tup CY (bs_cons (bd_nm CY 3 (bs_cons (bd_nm CY 4 (bs_cons (bd_nm CY 3 (bs_nil rfl))))))), ?_⟩) T.all) ?_))
    · cases hh : s.head with
      | none => exact ev_ort (ev_cmp co_is (ev_nm CY 4 rfl).r ev_non.r)
      | some h =>
        refine (ev_or (ev_cmp co_is (ev_nm CY 4 rfl).r ev_non.r) fun _ => ev_one (ev_cmp (co_deep CY (Hd.plain h) (shaped_hd ((hv.se s hs).head h hh))) (ev_dget CY (ev_nm CY 1 rfl).r (ev_ix CY (ev_nm CY 4 rfl).r ev_int rfl rfl) (.inr (.inl ⟨_, h.name, rfl, rfl, ?_⟩))).r (ev_nm CY 4 rfl).r)).is rfl
        rw [lu_hdK, hfind_head hv hs hh]
        rfl
    · show D.bl _ = D.bl true
      congr 1
      simp
end
end Kn
/-! P5: names, code, uses, files. -/
namespace Kn
open PySem PySem.Spec PyProof.Rows L2
def files (v : List Se) : List Str := ((heads v).filter fun p => p.2.file).map (·.1)
section
variable {P : Program} {w : World} {K : PySem.W.Frag} {mg : Str → Option Value} {base : Heap}
def R_need_web : List D → D → Prop := fun ds d => ∃ v, ds = [webD v] ∧ WebOk v ∧ d = webD v
theorem ok_need_web (T : Tx mg) (A : At K mg "need_web" s_need_web P_need_web) (F1 : FnD P w K mg base "is_web" 6 (spR K R_is_web)) : FnD P w K mg base "need_web" 7 (spR K R_need_web) := by
  refine A.r sc_need_web dc_need_web (fun ds d h => by obtain ⟨_, rfl, _⟩ := h; rfl) fun X B H ds d C hR => ?_
  obtain ⟨v, rfl, hv, rfl⟩ := hR
  show Go X _ _ [.d (webD v)] _
  refine go_cons (gs_ifE (et_not (et_val (ev_call C 0 F1 (ea_cons (ev_nm C 0 rfl) ea_nil) ⟨.web v, rfl, hv, rfl⟩))) (fun h => by cases h) (fun _ => go_nil ?_))
  exact go_cons (gs_ret (Do.of (ev_nm C 0 rfl) rfl))
def R_names_in : List D → D → Prop := fun ds d => ∃ v, ds = [webD v] ∧ v.length ≤ 100 ∧ d = .tup ((names v).map D.str)
theorem ok_names_in (T : Tx mg) (A : At K mg "names_in" s_names_in P_names_in) (F1 : FnD P w K mg base "heads_of" 1 (spL K R_heads_of)) : FnD P w K mg base "names_in" 2 (spR K R_names_in) := by
  refine A.r sc_names_in dc_names_in (fun ds d h => by obtain ⟨_, rfl, _⟩ := h; rfl) fun X B H ds d C hR => ?_
  obtain ⟨v, rfl, hv, rfl⟩ := hR
  show Go X _ _ [.d (webD v)] _
  refine go_cons (gs_ret (Do.of (ev_tupleK C 0 (ef_call C 1 F1 (ea_cons (ev_nm C 0 rfl) ea_nil) ⟨v, rfl, hv, rfl⟩) T.tuple) ?_))
  show D.tup _ = D.tup _
  congr 1
  unfold hdK names
  rw [List.map_map, List.map_map]
  rfl
def R_code_in : List D → D → Prop := fun ds d => ∃ v x, ds = [webD v, .str x] ∧ WebOk v ∧ d = .tup ((codeIn v x).map lineD)
theorem ok_code_in (T : Tx mg) (A : At K mg "code_in" s_code_in P_code_in) : FnD P w K mg base "code_in" 1 (spR K R_code_in) := by
  refine A.r sc_code_in dc_code_in (fun ds d h => by obtain ⟨_, _, rfl, _⟩ := h; rfl) fun X B H ds d C hR => ?_
  obtain ⟨v, x, rfl, hv, rfl⟩ := hR
  have few := hv.few
  show Go X _ _ [.d (webD v), .d (.str x), .un, .un, .un, .un, .un, .un, .un] _
  refine go_cons (gs_new C 2 (DoF.of (ef_lst ea_nil) ?_))
  refine go_cons (gs_for C [3, 4, 5, 6, 7, 8] (di_enumT C 0 (Do.of (ev_nm C 0 rfl) ⟨_, rfl, ?_⟩) T.enumerate))
  refine ⟨fun r Δ => ∃ (i : Nat) (ss : List Se) (acc : List (Nat × Nat × Ln)) (a b c d e f : Slot), r = enumF i (ss.map Se.d) ∧ Δ = [.d (webD v), .d (.str x), .own (.lst (acc.map lineD)), a, b, c, d, e, f] ∧ (∀ s ∈ ss, s.code.length ≤ 8) ∧ acc.length + 8 * ss.length ≤ 96 ∧ acc ++ codeFrom x i ss = codeIn v x,
    ⟨0, v, [], _, _, _, _, _, _, rfl, rfl, fun s hs => (hv.se s hs).short, by simp; omega, rfl⟩, fun y r Δ2 hJ => ?_, fun Δ2 hJ => ?_⟩
  · obtain ⟨i, ss, acc, sa, sb, scc, sd, se, sf, hr, rfl, hs, hl, hq⟩ := hJ
    cases ss with
    | nil => cases hr
    | cons s ss =>
      injection hr with h1 h2
      subst h1 h2
      have h8 := hs s List.mem_cons_self
      rw [List.length_cons] at hl
      refine bd_tup C (bs_cons (bd_nm C 3 (bs_cons (bd_tup C (bs_cons (bd_nm C 4 (bs_cons (bd_nm C 5 (bs_cons (bd_nm C 6 (bs_nil (bs_nil ?_))))))))))))
      show Go X _ _ [.d (webD v), .d (.str x), .own (.lst (acc.map lineD)), .d (.int (i : Nat)), .d (.tup (s.prose.map D.str)), .d (hdD s.head), .d (.tup (s.code.map Ln.d)), se, sf] _
      rw [codeFrom] at hq
      unfold codeAt at hq
      cases hh : s.head with
      | none =>
        rw [hh] at hq
        refine go_cons (gs_ifE (ew_andf (et_cmp co_isnot (ev_nm C 5 rfl).r ev_non.r)).t (fun h => by cases h) (fun _ => go_nil (go_nil ?_)))
        exact ⟨i + 1, ss, acc, _, _, _, _, _, _, rfl, rfl, fun t ht => hs t (List.mem_cons_of_mem _ ht), by omega, hq⟩
      | some h =>
        rw [hh] at hq
        refine go_cons (gs_ifE (ew_and (et_cmp co_isnot (ev_nm C 5 rfl).r ev_non.r) fun _ => ew_and1 (et_cmp co_eqS (ev_ix C (ev_nm C 5 rfl).r ev_int rfl rfl).r (ev_nm C 1 rfl).r)).t (fun hb => ?_) (fun hb => ?_))
        · have hx : h.name = x := of_decide_eq_true hb
          simp only [if_pos hx] at hq
          refine go_cons (gs_for C [7, 8] (di_enumT C 0 (Do.of (ev_nm C 6 rfl) ⟨_, rfl, ?_⟩) T.enumerate))
          refine ⟨fun r Δ => ∃ (k : Nat) (ls : List Ln) (acc2 : List (Nat × Nat × Ln)) (a b : Slot), r = enumF k (ls.map Ln.d) ∧ Δ = [.d (webD v), .d (.str x), .own (.lst (acc2.map lineD)), .d (.int (i : Nat)), .d (.tup (s.prose.map D.str)), .d h.d, .d (.tup (s.code.map Ln.d)), a, b] ∧ acc2.length + ls.length = acc.length + s.code.length ∧ acc2 ++ (numb i k ls ++ codeFrom x (i + 1) ss) = codeIn v x,
            ⟨0, s.code, acc, _, _, rfl, rfl, rfl, hq⟩, fun y r Δ2 hJ => ?_, fun Δ2 hJ => ?_⟩
          · obtain ⟨k, ls, acc2, sa2, sb2, hr, rfl, hl2, hq2⟩ := hJ
            cases ls with
            | nil => cases hr
            | cons l ls =>
              injection hr with h1 h2
              subst h1 h2
              rw [List.length_cons] at hl2
              refine bd_tup C (bs_cons (bd_nm C 7 (bs_cons (bd_nm C 8 (bs_nil ?_)))))
              refine go_cons (gs_append C 2 rfl (Do.of (ev_tup (ea_cons (ev_nm C 3 rfl) (ea_cons (ev_nm C 7 rfl) (ea_cons (ev_nm C 8 rfl) ea_nil)))) ⟨by rw [List.length_map]; omega, go_nil ?_⟩))
              refine ⟨k + 1, ls, acc2 ++ [(i, k, l)], .d (.int (k : Nat)), .d l.d, rfl, ?_, by rw [List.length_append]; show acc2.length + 1 + _ = _; omega, ?_⟩
              · rw [List.map_append]; rfl
              · rw [List.append_assoc]; exact hq2
          · obtain ⟨k, ls, acc2, sa2, sb2, hr, rfl, hl2, hq2⟩ := hJ
            cases ls with
            | cons l ls => cases hr
            | nil =>
              refine go_nil (go_nil ⟨i + 1, ss, acc2, _, _, _, _, _, _, rfl, rfl, fun t ht => hs t (List.mem_cons_of_mem _ ht), ?_, ?_⟩)
              · rw [List.length_nil] at hl2; omega
              · exact hq2
        · have hx : ¬ h.name = x := of_decide_eq_false hb
          simp only [if_neg hx] at hq
          exact go_nil (go_nil ⟨i + 1, ss, acc, _, _, _, _, _, _, rfl, rfl, fun t ht => hs t (List.mem_cons_of_mem _ ht), by omega, hq⟩)
  · obtain ⟨i, ss, acc, sa, sb, scc, sd, se, sf, hr, rfl, hs, hl, hq⟩ := hJ
    cases ss with
    | cons s ss => cases hr
    | nil =>
      refine go_cons (gs_ret (Do.of (ev_tuple C 1 (er_own C 2 rfl rfl) rfl T.tuple) ?_))
      rw [← hq, codeFrom, List.append_nil]
def R_uses_in : List D → D → Prop := fun ds d => ∃ v x, ds = [webD v, .str x] ∧ WebOk v ∧ d = .tup ((usesIn v x).map D.str)
theorem ok_uses_in (T : Tx mg) (A : At K mg "uses_in" s_uses_in P_uses_in) (F1 : FnD P w K mg base "code_in" 1 (spR K R_code_in)) : FnD P w K mg base "uses_in" 2 (spR K R_uses_in) := by
  refine A.r sc_uses_in dc_uses_in (fun ds d h => by obtain ⟨_, _, rfl, _⟩ := h; rfl) fun X B H ds d C hR => ?_
  obtain ⟨v, x, rfl, hv, rfl⟩ := hR
  have few := hv.few
  have cl := codeFrom_len x 0 v fun s hs => (hv.se s hs).short
  show Go X _ _ [.d (webD v), .d (.str x), .un, .un, .un] _
  refine go_cons (gs_new C 2 (DoF.of (ef_lst ea_nil) ?_))
  refine go_cons (gs_for C [3, 4] (di_tup C (Do.of (ev_call C 0 F1 (ea_cons (ev_nm C 0 rfl) (ea_cons (ev_nm C 1 rfl) ea_nil)) ⟨v, x, rfl, hv, rfl⟩) ⟨_, rfl, ?_⟩)))
  refine ⟨fun r Δ => ∃ (es : List (Nat × Nat × Ln)) (acc : List Str) (a b : Slot), r = es.map lineD ∧ Δ = [.d (webD v), .d (.str x), .own (.lst (acc.map D.str)), a, b] ∧ acc.length + es.length ≤ 96 ∧ es.foldl addUse acc = usesIn v x,
    ⟨codeIn v x, [], _, _, rfl, rfl, by show 0 + (codeFrom x 0 v).length ≤ _; omega, rfl⟩, fun y r Δ2 hJ => ?_, fun Δ2 hJ => ?_⟩
  · obtain ⟨es, acc, sa, sb, hr, rfl, hl, hq⟩ := hJ
    cases es with
    | nil => cases hr
    | cons e es =>
      injection hr with h1 h2
      subst h1 h2
      obtain ⟨i, k, l⟩ := e
      rw [List.length_cons] at hl
      rw [List.foldl_cons] at hq
      refine bd_tup C (bs_cons (bd_nm C 3 (bs_cons (bd_nm C 3 (bs_cons (bd_nm C 4 (bs_nil ?_)))))))
      cases l with
      | plain z =>
        refine go_cons (gs_ifE (ew_andf (et_cmp co_eqS (ev_ix C (ev_nm C 4 rfl).r ev_int rfl rfl).r ev_str.r)).t (fun h => by cases h) (fun _ => go_nil (go_nil ?_)))
        exact ⟨es, acc, _, _, rfl, rfl, by omega, hq⟩
      | use n z as =>
        have hq2 : es.foldl addUse (if z ∈ acc then acc else acc ++ [z]) = usesIn v x := hq
        refine go_cons (gs_ifE (ew_and (et_cmp co_eqS (ev_ix C (ev_nm C 4 rfl).r ev_int rfl rfl).r ev_str.r) fun _ => ew_and1 (et_cmp (co_notin C (.inl rfl)) (ev_ix C (ev_nm C 4 rfl).r ev_int rfl rfl).r (er_own C 2 rfl rfl))).t (fun hb => ?_) (fun hb => ?_))
        · have hz : z ∉ acc := by
            have : (!decide (z ∈ acc)) = true := hb
            simpa using this
          rw [if_neg hz] at hq2
          refine go_cons (gs_append C 2 rfl (Do.of (ev_ix C (ev_nm C 4 rfl).r ev_int rfl rfl) ⟨by rw [List.length_map]; omega, go_nil (go_nil ?_)⟩))
          refine ⟨es, acc ++ [z], .d (.int (k : Nat)), .d (Ln.use n z as).d, rfl, ?_, by rw [List.length_append]; show acc.length + 1 + _ ≤ _; omega, hq2⟩
          rw [List.map_append]; rfl
        · have hz : z ∈ acc := by
            have : (!decide (z ∈ acc)) = false := hb
            simpa using this
          rw [if_pos hz] at hq2
          exact go_nil (go_nil ⟨es, acc, _, _, rfl, rfl, by omega, hq2⟩)
  · obtain ⟨es, acc, sa, sb, hr, rfl, hl, hq⟩ := hJ
    cases es with
    | cons s ss => cases hr
    | nil =>
      refine go_cons (gs_ret (Do.of (ev_tuple C 1 (er_own C 2 rfl rfl) rfl T.tuple) ?_))
      rw [← hq]
      rfl
def R_file_names : List D → D → Prop := fun ds d => ∃ v, ds = [webD v] ∧ WebOk v ∧ d = .tup ((files v).map D.str)
theorem ok_file_names (T : Tx mg) (A : At K mg "file_names" s_file_names P_file_names) (F1 : FnD P w K mg base "heads_of" 1 (spL K R_heads_of)) (F2 : FnD P w K mg base "need_web" 7 (spR K R_need_web)) : FnD P w K mg base "file_names" 8 (spR K R_file_names) := by
  refine A.r sc_file_names dc_file_names (fun ds d h => by obtain ⟨_, rfl, _⟩ := h; rfl) fun X B H ds d C hR => ?_
  obtain ⟨v, rfl, hv, rfl⟩ := hR
  have few := hv.few
  have hlen := heads_len v
  show Go X _ _ [.d (webD v), .un, .un] _
  refine go_cons (gs_new C 1 (DoF.of (ef_call C 0 F1 (ea_cons (ev_call C 1 F2 (ea_cons (ev_nm C 0 rfl) ea_nil) ⟨v, rfl, hv, rfl⟩) ea_nil) ⟨v, rfl, by omega, rfl⟩) ?_))
  show Go X _ _ [.d (webD v), .own (.dK (hdK (heads v))), .un] _
  refine go_cons (gs_ret (Do.of (ev_tuple C 2 (EvF.lr (ef_lcK C 1 (.one _) (bk_by (own := ow_file_names_0) (vb := bv_file_names_0) (wb := bw_file_names_0) (G := bg_file_names_0) (by decide +kernel)) (fun p : Str × Hd => (.inr p.1, p.2.d)) (by exact ⟨trivial, trivial⟩) (by trivial) (fun p => [.d (webD v), .d (.dic (hdK (heads v))), .d (.str p.1)]) (fun p => p.2.file) (fun p => p.1) rfl (by omega) fun p hp Y CY => ⟨bd_nm CY 2 rfl, ?_, fun _ => ev_nm CY 2 rfl⟩)) rfl T.tuple) rfl))
  have hf : hfind (heads v) p.1 = some p.2 := by
    obtain ⟨t, ht, g1, g2⟩ := heads_mem hp
    rw [g2]; exact hfind_head hv ht g1
  refine DoT.of (et_val (x := p.2.file) (ev_ix (d1 := p.2.d) CY (ev_dget CY (ev_nm CY 1 rfl).r (ev_nm CY 2 rfl) (.inr (.inl ⟨_, p.1, rfl, rfl, ?_⟩))).r ev_int rfl rfl)) rfl
  rw [lu_hdK, hf]
  rfl
end
end Kn
/-! K15: fields, methods, instances. -/
namespace Kn
open PySem PySem.Spec PyProof.Rows L2
structure MtD (P : Program) (w : World) (K : PySem.W.Frag) (mg : Str → Option Value) (base : Heap) (C0 : Addr) (m : Str) (j : Nat) (sp : Sp) : Prop where
  ex : ∃ (f : Addr) (fd : FuncData) (ps : List Str), Meth K C0 m f ∧ Binds K fd ps [] ∧ FnOk P w K mg base CX0 j f fd ps sp
/-- a class's __init__: the new thing first, then data; its fields -/
def spI (K : PySem.W.Frag) (C0 : Addr) (pre : List D → Prop) (post : List D → List (Str × D) → Prop) : Sp := fun vs H Q _ => ∃ B x dx ws ds, vs = .ref x :: ws ∧ Ex B H ∧ B x = none ∧ H x = some (.ins C0 dx []) ∧ DnL K B ws ds ∧ pre ds ∧
  ∀ B' H' fs fds, post ds fds → Rn [x] B H B' H' → Ex B' H' → B' x = none → H' x = some (.ins C0 dx fs) → DnF K B' fs fds → Q .non H'
section
variable {X : Cx} {E : En} {N G : List Str} {vb wb : List Bool} {sc : Scope} {k : Nat} {Δ Δ' : List Slot} {d d1 d2 d3 : D} {a b c e o : Expr} {pos p apos : Pos} {j : Nat} {es : List Expr} {ds : List D} {C0 : Addr} {m f x : Str} {pl : Sem Bool}
theorem ev_fld {fs : List (Str × D)} (C : Cz E N vb wb G sc k X) (c : Cls E.K C0) (n : NoAttr E.K C0 f) (ha : Ev X E e Δ (.ins C0 fs)) (hl : fs.lookup f = some d) (hb : attributeBase e f X.env (eval e X.env) = eval e X.env := by rfl) : Ev X E (.Attribute e f pos) Δ d := fun σ B H S Q q =>
  WE.of (pe_fld (pe_W e) hb) (ha σ B H S _ fun v B1 H1 p1 r1 => by
    cases r1 with
    | @ins a _ dx vs _ h r =>
      have := DnF.lu f r
      rw [hl] at this
      cases hv : vs.lookup f with
      | none => rw [hv] at this; exact this.elim
      | some u =>
        rw [hv] at this
        exact ⟨a, C0, dx, vs, u, rfl, p1.sub _ _ h, by rw [C.hK]; exact c, by rw [C.hK]; exact n, hv, q u B1 H1 p1 this⟩)
theorem lu_none {K : PySem.W.Frag} {B : Hp} {vs : List (Str × V)} {fs : List (Str × D)} (r : DnF K B vs fs) (h : fs.lookup m = none) : vs.lookup m = none := by
  have := DnF.lu m r
  rw [h] at this
  cases hv : vs.lookup m with
  | none => rfl
  | some u => rw [hv] at this; exact this.elim
theorem do_methN {pre : List D → Prop} {post : List D → D → Prop} {P : D → Prop} (C : Cz E N vb wb G sc k X) (c : Cls E.K C0) (F : MtD E.P E.w E.K E.mg E.base C0 m j (spN E.K pre post))
    (ho : Do X E o Δ fun d0 => ∃ fs, d0 = .ins C0 fs ∧ fs.lookup m = none ∧ DoA X E (e :: es) Δ fun ds => pre (.ins C0 fs :: ds) ∧ ∀ d, post (.ins C0 fs :: ds) d → P d) (hj : j ≤ k := by decide)
    (hst : starEach (e :: es) X.env = (false, eval e X.env) :: starEach es X.env := by rfl) (hpl : (backTo pos (starEach es X.env)).any (·.1) = false := by rfl)
    (ht : eval (.Call (.Attribute o m apos) (e :: es) [] pos) X.env = (do
      let ov ← eval o X.env
      standAt apos.atName
      let (f, first) ← holding [ov] (getMethod ov m pl)
      callWith pos f first (backTo pos (starEach (e :: es) X.env)) (backToKw pos (keywordEach [] X.env))) := by rfl) : Do X E (.Call (.Attribute o m apos) (e :: es) [] pos) Δ P := fun σ B H S Q q => by
  obtain ⟨f, fd, ps, g1, g2, g3⟩ := F.ex
  rw [← C.hK] at g1 g2 
  rw [← C.hP, ← C.hw, ← C.hK, ← C.hm, ← C.hb] at g3
  refine WE.of (pe_meth (pe_W o) (by rw [C.hK]; exact c) g1 g3 (C.room.mono hj) g2 .nil pass0 (pa_W _) hst hpl ht) (ho σ B H S _ fun v B1 H1 d0 x1 S1 r1 ⟨fs, e0, hn, ha⟩ => ?_)
  subst e0
  cases r1 with
  | @ins a _ dx vs _ h r =>
    refine ⟨a, dx, vs, rfl, S1.sub _ _ h, lu_none r hn, ha σ B1 H1 S1 _ fun ws B2 H2 ds x2 S2 r2 ⟨hpre, hpost⟩ => ?_⟩
    rw [C.hK]
    exact ⟨B2, .ins C0 fs :: ds, S2.sub, by rw [List.append_nil]; exact .cons (.ins (x2.eb _ _ h) (r.mono x2.eb)) r2, hpre, fun v B3 H3 d hd p3 r3 => q v B3 H3 d ((x1.trans x2).trans (.of p3)) (S2.step p3) r3 (hpost d hd)⟩
theorem df_methM {pre : List D → Prop} {post : List D → O → Prop} {P : O → Prop} (C : Cz E N vb wb G sc k X) (c : Cls E.K C0) (F : MtD E.P E.w E.K E.mg E.base C0 m j (spM E.K pre post))
    (ho : Do X E o Δ fun d0 => ∃ fs, d0 = .ins C0 fs ∧ fs.lookup m = none ∧ DoA X E (e :: es) Δ fun ds => pre (.ins C0 fs :: ds) ∧ ∀ d, post (.ins C0 fs :: ds) d → P d) (hj : j ≤ k := by decide)
    (hst : starEach (e :: es) X.env = (false, eval e X.env) :: starEach es X.env := by rfl) (hpl : (backTo pos (starEach es X.env)).any (·.1) = false := by rfl)
    (ht : eval (.Call (.Attribute o m apos) (e :: es) [] pos) X.env = (do
      let ov ← eval o X.env
      standAt apos.atName
      let (f, first) ← holding [ov] (getMethod ov m pl)
      callWith pos f first (backTo pos (starEach (e :: es) X.env)) (backToKw pos (keywordEach [] X.env))) := by rfl) : DoF X E (.Call (.Attribute o m apos) (e :: es) [] pos) Δ P := fun σ B H S Q q => by
  obtain ⟨f, fd, ps, g1, g2, g3⟩ := F.ex
  rw [← C.hK] at g1 g2 
  rw [← C.hP, ← C.hw, ← C.hK, ← C.hm, ← C.hb] at g3
  refine WE.of (pe_meth (pe_W o) (by rw [C.hK]; exact c) g1 g3 (C.room.mono hj) g2 .nil pass0 (pa_W _) hst hpl ht) (ho σ B H S _ fun v B1 H1 d0 x1 S1 r1 ⟨fs, e0, hn, ha⟩ => ?_)
  subst e0
  cases r1 with
  | @ins a _ dx vs _ h r =>
    refine ⟨a, dx, vs, rfl, S1.sub _ _ h, lu_none r hn, ha σ B1 H1 S1 _ fun ws B2 H2 ds x2 S2 r2 ⟨hpre, hpost⟩ => ?_⟩
    rw [C.hK]
    refine ⟨B2, .ins C0 fs :: ds, S2.sub, by rw [List.append_nil]; exact .cons (.ins (x2.eb _ _ h) (r.mono x2.eb)) r2, hpre, fun l B3 H3 o ho p3 hl hB r3 => q l B3 H3 o ((x1.trans x2).trans (.of p3)) (S2.step p3) ?_ hB r3 (hpost o ho)⟩
    cases hh : H l with
    | none => rfl
    | some u => exact absurd hl ((x1.trans x2).th l (by rw [hh]; simp))
/-- C(..) -/
theorem do_make {pre : List D → Prop} {post : List D → List (Str × D) → Prop} {P : D → Prop} {fI : Addr} {fd : FuncData} {ps : List Str} (C : Cz E N vb wb G sc k X) (i : Nat) (M : Mk E.K C0 fI) (hm : E.mg x = some (.ref C0)) (hbi : Binds E.K fd ps []) (F : FnOk E.P E.w E.K E.mg E.base CX0 j fI fd ps (spI E.K C0 pre post))
    (ha : DoA X E (e :: es) Δ fun ds => pre ds ∧ ∀ fs, post ds fs → P (.ins C0 fs)) (hj : j + 1 ≤ k := by decide) (hG : G[i]? = some x := by rfl)
    (hst : starEach (e :: es) X.env = (false, eval e X.env) :: starEach es X.env := by rfl) (hpl : (backTo pos (starEach es X.env)).any (·.1) = false := by rfl) : Do X E (.Call (.Name x p) (e :: es) [] pos) Δ P := fun σ B H S Q q => by
  obtain ⟨h1, h2⟩ := C.gl i x hG
  rw [← C.hK] at M hbi
  rw [← C.hP, ← C.hw, ← C.hK, ← C.hm, ← C.hb] at F
  refine WE.of (pe_make M F (C.room.mono hj) h1 (by rw [C.hm]; exact hm) hbi .nil pass0 (pa_W _) h2 hst hpl) (ha σ B H S _ fun ws B1 H1 ds x1 S1 r1 ⟨hpre, hpost⟩ a dx na ndx ne => ?_)
  have na0 : H a = none := by
    cases hh : H a with
    | none => rfl
    | some u => exact absurd na (x1.th a (by rw [hh]; simp))
  have p1 : Pg B1 H1 B1 (upd H1 dx (.own a)) := Pg.apart S1.sub ndx
  have na1 : upd H1 dx (.own a) a = none := by rw [upd_ne (fun z => ne z.symm)]; exact na
  have p2 : Pg B1 H1 B1 (upd (upd H1 dx (.own a)) a (.ins C0 dx [])) := p1.trans (Pg.apart p1.sub na1)
  rw [C.hK]
  refine ⟨B1, a, dx, ws, ds, by rw [List.append_nil], p2.sub, S1.sub.free na, upd_same, r1, hpre, fun B2 H2 fs fds hf rn sub nB ha2 rf => ⟨rfl, ?_⟩⟩
  have ex : Ex B2 (upd B2 a (.ins C0 dx fs)) := Ex.new nB
  have p3 : Pg B1 H1 (upd B2 a (.ins C0 dx fs)) H2 := by
    refine ⟨⟨rn.eb.trans ex, fun b u _ hb => ?_, fun b hb => ?_, fun b hb nb => ?_⟩, upd_ex sub ha2⟩
    · have hne : b ≠ a := by rintro rfl; rw [na] at hb; cases hb
      exact rn.eh b u (by simpa using hne) (p2.eh b u hb)
    · exact rn.th b (p2.rn.th b hb)
    · have hne : b ≠ a := by rintro rfl; exact hb na
      rw [upd_ne hne]
      exact rn.fr b (p2.rn.th b hb) (p2.rn.fr b hb nb)
  exact q _ _ H2 (.ins C0 fds) (x1.trans (.of p3)) (S1.step p3) (.ins upd_same (rf.mono ex)) (hpost fds hf)
end
end Kn
/-! P6: webtext, starts. -/
namespace Kn
open PySem PySem.Spec PyProof.Rows L2
theorem join_len (z : Str) (xs : List Str) : (Txt.join z xs).length ≤ (xs.map (·.length)).sum + xs.length * z.length := by
  unfold Txt.join
  rw [StrLaws.glued_eq_join]
  exact StrLaws.join_length_le z xs
theorem sum_le {xs : List Str} {n : Nat} (h : ∀ x ∈ xs, x.length ≤ n) : (xs.map (·.length)).sum ≤ n * xs.length := by
  induction xs with
  | nil => simp
  | cons x r ih =>
    have h1 := h x List.mem_cons_self
    have h2 := ih fun y hy => h y (List.mem_cons_of_mem _ hy)
    rw [List.map_cons, List.sum_cons, List.length_cons, Nat.mul_succ]
    omega
def hText (h : Hd) : Str := (if h.file then ("*" : Str) else ("=" : Str)) ++ h.name ++ "(" ++ Txt.join "," h.params ++ ")"
def cText : Ln → Str
  | .plain s => "|" ++ s
  | .use n x as => ">" ++ repS 32 n ++ x ++ "(" ++ Txt.join "," as ++ ")"
theorem one_len {x : Str} (h : x = "*" ∨ x = "=") : x.length = 1 := by rcases h with rfl | rfl <;> rfl
theorem rep_len (c n : Nat) : (repS c n).length = n := by show (List.replicate n c).toArray.size = n; simp
theorem par_sum {h : Hd} (ok : h.Ok) : (h.params.map (·.length)).sum + h.params.length * 1 ≤ 40 := by
  have h1 := sum_le fun p hp => (ok.all p hp).le
  have := ok.few
  omega
theorem arg_sum {as : List Str} (h1 : as.length ≤ 3) (h2 : ∀ a ∈ as, ArgOk a) : (as.map (·.length)).sum + as.length * 1 ≤ 130 := by
  have h3 := sum_le fun p hp => (h2 p hp).line.len
  omega
theorem hText_len {h : Hd} (ok : h.Ok) : (hText h).length ≤ 100 := by
  have h1 := join_len "," h.params
  have h2 := par_sum ok
  have h3 := ok.name.le
  have h4 : (if h.file then ("*" : Str) else "=").length = 1 := one_len (by cases h.file <;> simp)
  unfold hText
  rw [len_app, len_app, len_app, len_app, h4]
  show 1 + h.name.length + 1 + _ + 1 ≤ _
  have h5 : ((",": Str)).length = 1 := rfl
  rw [h5] at h1
  omega
theorem cText_len {l : Ln} (ok : l.Ok) : (cText l).length ≤ 200 := by
  cases l with
  | plain s =>
    have := (show LineOk s from ok).len
    show ("|" ++ s : Str).length ≤ _
    rw [len_app]
    show 1 + _ ≤ _
    omega
  | use n x as =>
    obtain ⟨h1, h2, h3, h4⟩ := ok
    have g1 := join_len "," as
    have g2 := arg_sum h3 h4
    have g3 := h2.le
    show (">" ++ repS 32 n ++ x ++ "(" ++ Txt.join "," as ++ ")" : Str).length ≤ _
    rw [len_app, len_app, len_app, len_app, len_app, rep_len]
    show 1 + n + x.length + 1 + _ + 1 ≤ _
    have h5 : ((",": Str)).length = 1 := rfl
    rw [h5] at g1
    omega
/-! ### rows -/
abbrev Row := Nat × Str × Nat × Str
def rowD (r : Row) : D := .tup [.int (r.1 : Nat), .str r.2.1, .int (r.2.2.1 : Nat), .str r.2.2.2]
def num {α : Type} : Nat → List α → List (Nat × α)
  | _, [] => []
  | n, x :: r => (n, x) :: num (n + 1) r
theorem num_len {α : Type} : ∀ (n : Nat) (xs : List α), (num n xs).length = xs.length
  | _, [] => rfl
  | n, _ :: r => congrArg (· + 1) (num_len (n + 1) r)
theorem enumF_num {α : Type} (e : α → D) : ∀ (n : Nat) (xs : List α), enumF n (xs.map e) = (num n xs).map fun q => .tup [.int (q.1 : Nat), e q.2]
  | _, [] => rfl
  | n, x :: r => congrArg (D.tup [.int (n : Nat), e x] :: ·) (enumF_num e (n + 1) r)
theorem num_mem {α : Type} {q : Nat × α} : ∀ {n : Nat} {xs : List α}, q ∈ num n xs → q.2 ∈ xs
  | n, x :: r, h => by
    rcases List.mem_cons.mp h with e | e
    · subst e; exact List.mem_cons_self
    · exact List.mem_cons_of_mem _ (num_mem e)
def headRow (i : Nat) : Option Hd → List Row
  | none => []
  | some h => [(i, ("head" : Str), 0, hText h)]
def rowsS (i : Nat) (s : Se) : List Row := (i, "section", 0, "@") :: ((num 0 s.prose).map (fun q : Nat × Str => (i, ("prose" : Str), q.1, ("." : Str) ++ q.2)) ++ headRow i s.head ++ (num 0 s.code).map fun q => (i, ("code" : Str), q.1, cText q.2))
def rowsFrom : Nat → List Se → List Row
  | _, [] => []
  | i, s :: r => rowsS i s ++ rowsFrom (i + 1) r
theorem rowsS_len (i : Nat) {s : Se} (ok : s.Ok) : (rowsS i s).length ≤ 18 := by
  have h1 := ok.few
  have h2 := ok.short
  unfold rowsS
  rw [List.length_cons, List.length_append, List.length_append, List.length_map, List.length_map, num_len, num_len]
  unfold headRow
  split
  · simp; omega
  · simp; omega
section
variable {P : Program} {w : World} {K : PySem.W.Frag} {mg : Str → Option Value} {base : Heap}
def R_head_text : List D → D → Prop := fun ds d => ∃ h : Hd, ds = [h.d] ∧ h.Ok ∧ d = .str (hText h)
theorem ok_head_text (T : Tx mg) (A : At K mg "head_text" s_head_text P_head_text) : FnD P w K mg base "head_text" 1 (spR K R_head_text) := by
  refine A.r sc_head_text dc_head_text (fun ds d h => by obtain ⟨_, rfl, _⟩ := h; rfl) fun X B H ds d C hR => ?_
  obtain ⟨h, rfl, ok, rfl⟩ := hR
  have g1 := join_len "," h.params
  have g2 := par_sum ok
  have g3 := ok.name.le
  have h5 : ((",": Str)).length = 1 := rfl
  rw [h5] at g1
  have h4 : (if h.file then ("*" : Str) else "=").length = 1 := one_len (by cases h.file <;> simp)
  show Go X _ _ [.d (.tup [.str h.name, .tup (h.params.map D.str), .bl h.file]), .un, .un, .un] _
  refine go_cons (gs_asg [1, 2, 3] (Do.of (ev_nm C 0 rfl) (bd_tup C (bs_cons (bd_nm C 1 (bs_cons (bd_nm C 2 (bs_cons (bd_nm C 3 (bs_nil ?_))))))))))
  refine go_cons (gs_ret (Do.of (ev_cats (ev_cats (ev_cats (ev_cats (ev_ifx (d := .str (if h.file then "*" else "=")) (et_val (ev_nm C 3 rfl)) (fun e => ev_str.is (by rw [e]; rfl)) (fun e => ev_str.is (by rw [e]; rfl))) (ev_nm C 1 rfl) (by rw [h4]; omega)) ev_str (by rw [len_app, h4]; show 1 + h.name.length + 1 ≤ _; omega)) (ev_join C ev_str (ev_nm C 2 rfl).r (.inr rfl) (by rw [h5]; omega)) (by rw [len_app, len_app, h4]; show 1 + h.name.length + 1 + _ ≤ _; omega)) ev_str (by rw [len_app, len_app, len_app, h4]; show 1 + h.name.length + 1 + _ + 1 ≤ _; omega)) ?_))
  rfl
def R_code_text : List D → D → Prop := fun ds d => ∃ l : Ln, ds = [l.d] ∧ l.Ok ∧ d = .str (cText l)
theorem ok_code_text (T : Tx mg) (A : At K mg "code_text" s_code_text P_code_text) : FnD P w K mg base "code_text" 1 (spR K R_code_text) := by
  refine A.r sc_code_text dc_code_text (fun ds d h => by obtain ⟨_, rfl, _⟩ := h; rfl) fun X B H ds d C hR => ?_
  obtain ⟨l, rfl, ok, rfl⟩ := hR
  cases l with
  | plain s =>
    have := (show LineOk s from ok).len
    show Go X _ _ [.d (.tup [.str "plain", .str s])] _
    refine go_cons (gs_ifE (et_cmp co_eqS (ev_ix C (ev_nm C 0 rfl).r ev_int rfl rfl).r ev_str.r) (fun _ => ?_) (fun h => ?_))
    · exact go_cons (gs_ret (Do.of (ev_cats ev_str (ev_ix C (ev_nm C 0 rfl).r ev_int rfl rfl) (by show 1 + _ ≤ _; omega)) rfl))
    · cases h
  | use n x as =>
    obtain ⟨h1, h2, h3, h4⟩ := ok
    have g1 := join_len "," as
    have g2 := arg_sum h3 h4
    have g3 := h2.le
    have h5 : ((",": Str)).length = 1 := rfl
    rw [h5] at g1
    show Go X _ _ [.d (.tup [.str "use", .int (n : Nat), .str x, .tup (as.map D.str)])] _
    refine go_cons (gs_ifE (et_cmp co_eqS (ev_ix C (ev_nm C 0 rfl).r ev_int rfl rfl).r ev_str.r) (fun h => ?_) (fun _ => go_nil ?_))
    · cases h
    refine go_cons (gs_ret (Do.of (ev_cats (ev_cats (ev_cats (ev_cats (ev_cats ev_str (ev_rep ev_str (ev_ix C (ev_nm C 0 rfl).r ev_int rfl rfl) (by omega)) (by rw [rep_len]; show 1 + n ≤ _; omega)) (ev_ix C (ev_nm C 0 rfl).r ev_int rfl rfl) (by rw [len_app, rep_len]; show 1 + n + _ ≤ _; omega)) ev_str (by rw [len_app, len_app, rep_len]; show 1 + n + _ + 1 ≤ _; omega)) (ev_join C ev_str (ev_ix C (ev_nm C 0 rfl).r ev_int rfl rfl).r (.inr rfl) (by rw [h5]; omega)) (by rw [len_app, len_app, len_app, rep_len]; show 1 + n + _ + 1 + _ ≤ _; omega)) ev_str (by rw [len_app, len_app, len_app, len_app, rep_len]; show 1 + n + _ + 1 + _ + 1 ≤ _; omega)) ?_))
    rfl
def R_rows_of : List D → O → Prop := fun ds o => ∃ v, ds = [webD v] ∧ WebOk v ∧ o = .lst ((rowsFrom 0 v).map rowD)
theorem ok_rows_of (T : Tx mg) (A : At K mg "rows_of" s_rows_of P_rows_of) (F1 : FnD P w K mg base "head_text" 1 (spR K R_head_text)) (F2 : FnD P w K mg base "code_text" 1 (spR K R_code_text)) : FnD P w K mg base "rows_of" 2 (spL K R_rows_of) := by
  refine A.l sc_rows_of dc_rows_of (fun ds d h => by obtain ⟨_, rfl, _⟩ := h; rfl) fun X B H ds o C hR => ?_
  obtain ⟨v, rfl, hv, rfl⟩ := hR
  have few := hv.few
  show Go X _ _ [.d (webD v), .un, .un, .un, .un, .un, .un, .un] _
  refine go_cons (gs_new C 1 (DoF.of (ef_lst ea_nil) ?_))
  refine go_cons (gs_for C [2, 3, 4, 5] (di_enumT C 0 (Do.of (ev_nm C 0 rfl) ⟨_, rfl, ?_⟩) T.enumerate))
  refine ⟨fun r Δ => ∃ (i : Nat) (ss : List Se) (acc : List Row) (a b c d : Slot), r = enumF i (ss.map Se.d) ∧ Δ = [.d (webD v), .own (.lst (acc.map rowD)), a, b, c, d, .un, .un] ∧ (∀ s ∈ ss, s.Ok) ∧ acc.length + 18 * ss.length ≤ 216 ∧ acc ++ rowsFrom i ss = rowsFrom 0 v,
    ⟨0, v, [], _, _, _, _, rfl, rfl, hv.se, by simp; omega, rfl⟩, fun y r Δ2 hJ => ?_, fun Δ2 hJ => ?_⟩
  · obtain ⟨i, ss, acc, sa, sb, sc', sd, hr, rfl, hs, hl, hq⟩ := hJ
    cases ss with
    | nil => cases hr
    | cons s ss =>
      injection hr with h1 h2
      subst h1 h2
      have ok := hs s List.mem_cons_self
      have f1 := ok.few
      have f2 := ok.short
      have f3 := rowsS_len i ok
      rw [List.length_cons] at hl
      refine bd_tup C (bs_cons (bd_nm C 2 (bs_cons (bd_tup C (bs_cons (bd_nm C 3 (bs_cons (bd_nm C 4 (bs_cons (bd_nm C 5 (bs_nil (bs_nil ?_))))))))))))
      show Go X _ _ [.d (webD v), .own (.lst (acc.map rowD)), .d (.int (i : Nat)), .d (.tup (s.prose.map D.str)), .d (hdD s.head), .d (.tup (s.code.map Ln.d)), .un, .un] _
      refine go_cons (gs_append C 1 rfl (Do.of (ev_tup (ea_cons (ev_nm C 2 rfl) (ea_cons ev_str (ea_cons ev_int (ea_cons ev_str ea_nil))))) ⟨by rw [List.length_map]; omega, ?_⟩))
      have e1 : ∀ (as : List Row) (r : Row), as.map rowD ++ [rowD r] = (as ++ [r]).map rowD := fun as r => by rw [List.map_append]; rfl
      have e1' : acc.map rowD ++ [D.tup [.int (i : Nat), .str "section", .int 0, .str "@"]] = (acc ++ [(i, ("section" : Str), 0, ("@" : Str))]).map rowD := e1 acc (i, ("section" : Str), 0, ("@" : Str))
      rw [e1']
      refine go_cons (gs_extend C 1 rfl (Do.of (EvF.ld (ef_lcG C .no (bk_by (own := ow_rows_of_0) (vb := bv_rows_of_0) (wb := bw_rows_of_0) (G := bg_rows_of_0) (by decide +kernel)) (by exact ⟨trivial, trivial, trivial⟩) (by trivial) (fun q : Nat × Str => .tup [.int (q.1 : Nat), .str q.2]) (fun q => [.d (webD v), .own (.lst ((acc ++ [(i, ("section" : Str), 0, ("@" : Str))]).map rowD)), .d (.int (i : Nat)), .d (.tup (s.prose.map D.str)), .d (hdD s.head), .d (.tup (s.code.map Ln.d)), .d (.int (q.1 : Nat)), .d (.str q.2)]) (fun _ => true) (fun q : Nat × Str => rowD (i, ("prose" : Str), q.1, ("." : Str) ++ q.2)) (num 0 s.prose) (di_enumT C 0 (Do.of (ev_nm C 3 rfl) ⟨_, rfl, enumF_num D.str 0 s.prose⟩) T.enumerate) (by rw [num_len]; omega) (fun q hq2 Y CY => ⟨bd_tup CY (bs_cons (bd_nm CY 6 (bs_cons (bd_nm CY 7 (bs_nil rfl))))), rfl, fun _ => ?_⟩))) ⟨_, rfl, ?_, ?_⟩))
      · have hz := (ok.prose q.2 (num_mem hq2)).len
        exact ev_tup (ea_cons (ev_nm CY 2 rfl) (ea_cons ev_str (ea_cons (ev_nm CY 6 rfl) (ea_cons (ev_cats ev_str (ev_nm CY 7 rfl) (by show 1 + _ ≤ _; omega)) ea_nil))))
      · have := List.length_filter_le (fun _ : Nat × Str => true) (num 0 s.prose)
        rw [num_len] at this
        rw [List.length_map, List.length_map, List.length_append]
        show acc.length + 1 + _ ≤ _
        omega
      have e2 : (acc ++ [(i, ("section" : Str), 0, ("@" : Str))]).map rowD ++ ((num 0 s.prose).filter fun _ => true).map (fun q : Nat × Str => rowD (i, ("prose" : Str), q.1, ("." : Str) ++ q.2)) = (acc ++ [(i, ("section" : Str), 0, ("@" : Str))] ++ (num 0 s.prose).map fun q : Nat × Str => (i, ("prose" : Str), q.1, ("." : Str) ++ q.2)).map rowD := by
        rw [List.filter_eq_self.mpr (fun _ _ => rfl), List.map_append, List.map_append, List.map_append, List.map_map]; rfl
      rw [e2]
      refine go_cons (gs_via (fun Δ' => Δ' = [.d (webD v), .own (.lst ((acc ++ [(i, ("section" : Str), 0, ("@" : Str))] ++ (num 0 s.prose).map (fun q : Nat × Str => (i, ("prose" : Str), q.1, ("." : Str) ++ q.2)) ++ headRow i s.head).map rowD)), .d (.int (i : Nat)), .d (.tup (s.prose.map D.str)), .d (hdD s.head), .d (.tup (s.code.map Ln.d)), .un, .un]) ?_ ?_)
      · cases hh : s.head with
        | none =>
          refine gs_ifE (et_cmp co_isnot (ev_nm C 4 rfl).r ev_non.r) (fun h => by cases h) (fun _ => go_nil ?_)
          show _ = _
          unfold headRow
          rw [List.append_nil]
          rfl
        | some h =>
          refine gs_ifE (et_cmp co_isnot (ev_nm C 4 rfl).r ev_non.r) (fun _ => ?_) (fun h => by cases h)
          refine go_cons (gs_append C 1 rfl (Do.of (ev_tup (ea_cons (ev_nm C 2 rfl) (ea_cons ev_str (ea_cons ev_int (ea_cons (ev_call C 1 F1 (ea_cons (ev_nm C 4 rfl) ea_nil) ⟨h, rfl, ok.head h hh, rfl⟩) ea_nil))))) ⟨?_, go_nil ?_⟩))
          · rw [List.length_map, List.length_append, List.length_append, List.length_map, num_len]
            show acc.length + 1 + _ < _
            omega
          · show _ = _
            unfold headRow
            have := e1 (acc ++ [(i, ("section" : Str), 0, ("@" : Str))] ++ (num 0 s.prose).map (fun q : Nat × Str => (i, ("prose" : Str), q.1, ("." : Str) ++ q.2))) (i, ("head" : Str), 0, hText h)
            rw [← this]
            rfl
      rintro _ rfl
      generalize hacc : (acc ++ [(i, ("section" : Str), 0, ("@" : Str))] ++ (num 0 s.prose).map (fun q : Nat × Str => (i, ("prose" : Str), q.1, ("." : Str) ++ q.2)) ++ headRow i s.head) = acc2
      have l2 : acc2.length + s.code.length = acc.length + (rowsS i s).length := by
        rw [← hacc]
        unfold rowsS
        simp only [List.length_append, List.length_cons, List.length_nil, List.length_map, num_len]
        omega
      have q2 : acc2 ++ ((num 0 s.code).map (fun q : Nat × Ln => (i, ("code" : Str), q.1, cText q.2)) ++ rowsFrom (i + 1) ss) = rowsFrom 0 v := by
        rw [← hq, ← hacc, rowsFrom]
        unfold rowsS
        simp
      refine go_cons (gs_extend C 1 rfl (Do.of (EvF.ld (ef_lcG C .no (bk_by (own := ow_rows_of_1) (vb := bv_rows_of_1) (wb := bw_rows_of_1) (G := bg_rows_of_1) (by decide +kernel)) (by exact ⟨trivial, trivial, trivial⟩) (by trivial) (fun q : Nat × Ln => .tup [.int (q.1 : Nat), q.2.d]) (fun q => [.d (webD v), .own (.lst (acc2.map rowD)), .d (.int (i : Nat)), .d (.tup (s.prose.map D.str)), .d (hdD s.head), .d (.tup (s.code.map Ln.d)), .d (.int (q.1 : Nat)), .d q.2.d]) (fun _ => true) (fun q : Nat × Ln => rowD (i, ("code" : Str), q.1, cText q.2)) (num 0 s.code) (di_enumT C 0 (Do.of (ev_nm C 5 rfl) ⟨_, rfl, enumF_num Ln.d 0 s.code⟩) T.enumerate) (by rw [num_len]; omega) (fun q hq2 Y CY => ⟨bd_tup CY (bs_cons (bd_nm CY 6 (bs_cons (bd_nm CY 7 (bs_nil rfl))))), rfl, fun _ => ?_⟩))) ⟨_, rfl, ?_, go_nil ?_⟩))
      · exact ev_tup (ea_cons (ev_nm CY 2 rfl) (ea_cons ev_str (ea_cons (ev_nm CY 6 rfl) (ea_cons (ev_call CY 0 F2 (ea_cons (ev_nm CY 7 rfl) ea_nil) ⟨q.2, rfl, ok.code q.2 (num_mem hq2), rfl⟩) ea_nil))))
      · have := List.length_filter_le (fun _ : Nat × Ln => true) (num 0 s.code)
        rw [num_len] at this
        rw [List.length_map, List.length_map]
        omega
      · refine ⟨i + 1, ss, acc2 ++ (num 0 s.code).map (fun q : Nat × Ln => (i, ("code" : Str), q.1, cText q.2)), .d (.int (i : Nat)), .d (.tup (s.prose.map D.str)), .d (hdD s.head), .d (.tup (s.code.map Ln.d)), rfl, ?_, fun t ht => hs t (List.mem_cons_of_mem _ ht), ?_, by rw [List.append_assoc]; exact q2⟩
        · rw [List.filter_eq_self.mpr (fun _ _ => rfl), List.map_append, List.map_map]; rfl
        · rw [List.length_append, List.length_map, num_len]; omega
  · obtain ⟨i, ss, acc, sa, sb, sc', sd, hr, rfl, hs, hl, hq⟩ := hJ
    cases ss with
    | cons s ss => cases hr
    | nil =>
      refine go_cons (gs_retO C 1 rfl rfl ?_)
      show _ = O.lst _
      rw [← hq, rowsFrom, List.append_nil]
end
/-! ### places -/
/-- each line of code has its place -/
def Placed (v : List Se) (kds : List (List Key × D)) : Prop := ∀ (i : Nat) (s : Se) (k : Nat) (l : Ln), v[i]? = some s → s.code[k]? = some l → ∃ n : Int, luK kds [.inl (i : Int), .inr "code", .inl (k : Int)] = some (.int n)
def keyR (r : Row) : List Key := [.inl (r.1 : Int), .inr r.2.1, .inl (r.2.2.1 : Int)]
theorem num_at {α : Type} : ∀ {n k : Nat} {xs : List α} {x : α}, xs[k]? = some x → (n + k, x) ∈ num n xs
  | n, 0, y :: r, x, h => by
    have e : y = x := by simpa using h
    subst e; exact List.mem_cons_self
  | n, k + 1, y :: r, x, h => by
    have := num_at (n := n + 1) (k := k) (xs := r) (x := x) (by simpa using h)
    have e : n + 1 + k = n + (k + 1) := by omega
    rw [e] at this
    exact List.mem_cons_of_mem _ this
theorem rows_code {i k : Nat} {s : Se} {l : Ln} : ∀ {n : Nat} {ss : List Se}, ss[i]? = some s → s.code[k]? = some l → ((n + i, ("code" : Str), k, cText l) : Row) ∈ rowsFrom n ss
  | n, [], h, _ => by simp at h
  | n, t :: ss, h, hc => by
    rw [rowsFrom]
    cases i with
    | zero =>
      have e : t = s := by simpa using h
      subst e
      refine List.mem_append_left _ ?_
      unfold rowsS
      refine List.mem_cons_of_mem _ (List.mem_append_right _ (List.mem_map.mpr ⟨(k, l), ?_, rfl⟩))
      have := num_at (n := 0) hc
      rwa [Nat.zero_add] at this
    | succ i =>
      have := rows_code (n := n + 1) (ss := ss) (i := i) (by simpa using h) hc
      have e : n + 1 + i = n + (i + 1) := by omega
      rw [e] at this
      exact List.mem_append_right _ this
theorem luK_map {κ : Type} [DecidableEq κ] (k j : κ) (d : D) : ∀ kds : List (κ × D), luK (kds.map fun kv => if kv.1 = k then (kv.1, d) else kv) j = if j = k then (luK kds j).map (fun _ => d) else luK kds j
  | [] => by simp [luK_nil]
  | (z, e) :: r => by
    rw [List.map_cons]
    have ih := luK_map k j d r
    by_cases h1 : z = k
    · subst h1
      show luK ((if z = z then (z, d) else (z, e)) :: _) j = _
      rw [if_pos rfl, luK_cons, luK_cons, ih]
      by_cases h2 : z = j
      · subst h2; simp
      · have h3 : ¬ j = z := fun q => h2 q.symm
        simp [h2, h3]
    · show luK ((if z = k then (z, d) else (z, e)) :: _) j = _
      rw [if_neg h1, luK_cons, luK_cons, ih]
      by_cases h2 : z = j
      · subst h2; simp [h1]
      · simp [h2]
theorem luK_snoc {κ : Type} [DecidableEq κ] (k j : κ) (d : D) : ∀ kds : List (κ × D), luK (kds ++ [(k, d)]) j = match luK kds j with
    | some x => some x
    | none => if k = j then some d else none
  | [] => by rw [List.nil_append, luK_cons, luK_nil]
  | (z, e) :: r => by
    rw [List.cons_append, luK_cons, luK_cons, luK_snoc k j d r]
    by_cases h2 : z = j
    · simp [h2]
    · simp [h2]
theorem luK_any {κ : Type} [DecidableEq κ] (k : κ) : ∀ kds : List (κ × D), (kds.any fun kv => decide (kv.1 = k)) = (luK kds k).isSome
  | [] => rfl
  | (z, e) :: r => by
    rw [List.any_cons, luK_cons, luK_any k r]
    by_cases h2 : z = k
    · simp [h2]
    · simp [h2]
theorem luK_put {κ : Type} [DecidableEq κ] (kds : List (κ × D)) (k j : κ) (d : D) : luK (putD kds k d) j = if j = k then some d else luK kds j := by
  unfold putD
  rw [luK_any]
  cases h : luK kds k with
  | some x =>
    rw [if_pos (by rfl), luK_map]
    by_cases e : j = k
    · subst e; simp [h]
    · simp [e]
  | none =>
    rw [if_neg (by simp), luK_snoc]
    by_cases e : j = k
    · subst e; simp [h]
    · have e2 : ¬ k = j := fun q => e q.symm
      cases luK kds j <;> simp [e, e2]
theorem putD_len {κ : Type} [DecidableEq κ] (kds : List (κ × D)) (k : κ) (d : D) : (putD kds k d).length ≤ kds.length + 1 := by
  unfold putD
  split
  · simp
  · simp
theorem rowsFrom_len : ∀ (i : Nat) (ss : List Se), (∀ s ∈ ss, s.Ok) → (rowsFrom i ss).length ≤ 18 * ss.length
  | _, [], _ => by simp [rowsFrom]
  | i, s :: r, h => by
    have h1 := rowsS_len i (h s List.mem_cons_self)
    have h2 := rowsFrom_len (i + 1) r fun t ht => h t (List.mem_cons_of_mem _ ht)
    rw [rowsFrom, List.length_append, List.length_cons]
    omega
theorem rows_text : ∀ {i : Nat} {ss : List Se} {r : Row}, (∀ s ∈ ss, s.Ok) → r ∈ rowsFrom i ss → r.2.2.2.length ≤ 200
  | _, [], r, _, h => by cases h
  | i, s :: ss, r, ok, h => by
    rw [rowsFrom] at h
    rcases List.mem_append.mp h with q | q
    · have ok1 := ok s List.mem_cons_self
      unfold rowsS at q
      rcases List.mem_cons.mp q with q | q
      · subst q; exact Nat.le_of_ble_eq_true rfl
      rcases List.mem_append.mp q with q | q
      rcases List.mem_append.mp q with q | q
      · obtain ⟨z, hz, rfl⟩ := List.mem_map.mp q
        have := (ok1.prose z.2 (num_mem hz)).len
        show ("." ++ z.2 : Str).length ≤ _
        rw [len_app]
        show 1 + _ ≤ _
        omega
      · unfold headRow at q
        split at q
        · cases q
        · rename_i h2 hh
          rw [List.mem_singleton] at q
          subst q
          have := hText_len (ok1.head h2 hh)
          show (hText h2).length ≤ _
          omega
      · obtain ⟨z, hz, rfl⟩ := List.mem_map.mp q
        exact cText_len (ok1.code z.2 (num_mem hz))
    · exact rows_text (fun t ht => ok t (List.mem_cons_of_mem _ ht)) q
section
variable {P : Program} {w : World} {K : PySem.W.Frag} {mg : Str → Option Value} {base : Heap}
def pre_web : List D → Prop := fun ds => ∃ v, ds = [webD v] ∧ WebOk v
def post_starts : List D → O → Prop := fun ds o => ∀ v, ds = [webD v] → WebOk v → ∃ kds, o = .dT kds ∧ Placed v kds
theorem webD_inj {v u : List Se} (h : webD v = webD u) : v = u := by
  have str : ∀ {a b : List Str}, a.map D.str = b.map D.str → a = b := fun {a b} h => by
    exact (List.map_inj_right (fun x y e => D.str.inj e)).mp h
  have hd : ∀ {a b : Hd}, a.d = b.d → a = b := fun {a b} h => by
    obtain ⟨n, p, f⟩ := a
    obtain ⟨n2, p2, f2⟩ := b
    unfold Hd.d at h
    injection h with h
    injection h with h1 h
    injection h with h2 h
    injection h with h3 h
    injection h1 with h1
    injection h2 with h2
    injection h3 with h3
    have := str h2
    simp only at h1 h3
    subst h1 h3 this
    rfl
  have ln : ∀ {a b : Ln}, a.d = b.d → a = b := fun {a b} h => by
    cases a <;> cases b <;> unfold Ln.d at h <;> injection h with h <;> injection h with h1 h
    · injection h with h2 h; injection h2 with h2; subst h2; rfl
    · injection h1 with h1; exact absurd h1 (by decide +kernel)
    · injection h1 with h1; exact absurd h1 (by decide +kernel)
    · injection h with h2 h; injection h with h3 h; injection h with h4 h
      injection h2 with h2; injection h3 with h3; injection h4 with h4
      have := str h4
      have h5 : (_ : Nat) = _ := Int.ofNat.inj h2
      subst h5 h3 this; rfl
  have se : ∀ {a b : Se}, a.d = b.d → a = b := fun {a b} h => by
    obtain ⟨p, hh, c⟩ := a
    obtain ⟨p2, h2, c2⟩ := b
    unfold Se.d at h
    injection h with h
    injection h with h1 h
    injection h with h3 h
    injection h with h4 h
    injection h1 with h1
    injection h4 with h4
    have e1 := str h1
    have e4 : c = c2 := (List.map_inj_right (fun x y e => ln e)).mp h4
    have e3 : hh = h2 := by
      cases hh <;> cases h2
      · rfl
      · cases h3
      · cases h3
      · rw [hd h3]
    subst e1 e3 e4
    rfl
  unfold webD at h
  injection h with h
  exact (List.map_inj_right (fun x y e => se e)).mp h
theorem ok_starts (T : Tx mg) (A : At K mg "starts" s_starts P_starts) (F1 : FnD P w K mg base "rows_of" 2 (spL K R_rows_of)) : FnD P w K mg base "starts" 3 (spM K pre_web post_starts) := by
  refine A.m sc_starts dc_starts (fun ds h => by obtain ⟨_, rfl, _⟩ := h; rfl) fun X B H ds C hR => ?_
  obtain ⟨v, rfl, hv⟩ := hR
  have few := hv.few
  have rl := rowsFrom_len 0 v hv.se
  show Go X _ _ [.d (webD v), .un, .un, .un, .un, .un, .un] _
  refine go_cons (gs_new C 1 (DoF.of ef_dit0 ?_))
  refine go_cons (gs_set C 2 (Do.of ev_int ?_))
  refine go_cons (gs_for C [3, 4, 5, 6] (di_list C (Do.of (EvF.ld (ef_call C 0 F1 (ea_cons (ev_nm C 0 rfl) ea_nil) ⟨v, rfl, hv, rfl⟩)) ⟨_, rfl, ?_⟩)))
  refine ⟨fun r Δ => ∃ (done left : List Row) (kds : List (List Key × D)) (at_ : Int) (a b c d : Slot), r = left.map rowD ∧ Δ = [.d (webD v), .own (.dT kds), .d (.int at_), a, b, c, d] ∧ done ++ left = rowsFrom 0 v ∧ kds.length ≤ done.length ∧ ∀ q ∈ done, ∃ n : Int, luK kds (keyR q) = some (.int n),
    ⟨[], rowsFrom 0 v, [], 0, _, _, _, _, rfl, rfl, rfl, Nat.le_refl _, by simp⟩, fun y r Δ2 hJ => ?_, fun Δ2 hJ => ?_⟩
  · obtain ⟨done, left, kds, at_, sa, sb, sc', sd, hr, rfl, he, hl, hp⟩ := hJ
    cases left with
    | nil => cases hr
    | cons q left =>
      injection hr with h1 h2
      subst h1 h2
      have ht : q.2.2.2.length ≤ 200 := rows_text (i := 0) hv.se (by rw [← he]; simp)
      have hdl : done.length + (left.length + 1) = (rowsFrom 0 v).length := by rw [← he]; simp
      refine bd_tup C (bs_cons (bd_nm C 3 (bs_cons (bd_nm C 4 (bs_cons (bd_nm C 5 (bs_cons (bd_nm C 6 (bs_nil ?_)))))))))
      refine go_cons (gs_dputT C 1 (keyR q) rfl (ev_nm C 2 rfl) (ev_tup (ea_cons (ev_nm C 3 rfl) (ea_cons (ev_nm C 4 rfl) (ea_cons (ev_nm C 5 rfl) ea_nil)))) (by omega) ?_)
      refine go_cons (gs_set C 2 (Do.of (ev_add (ev_add (ev_nm C 2 rfl) (ev_len C 1 (ev_nm C 6 rfl).r (.str _ (by omega)) T.len)) ev_int) (go_nil ?_)))
      refine ⟨done ++ [q], left, putD kds (keyR q) (.int at_), at_ + q.2.2.2.length + 1, .d (.int (q.1 : Nat)), .d (.str q.2.1), .d (.int (q.2.2.1 : Nat)), .d (.str q.2.2.2), rfl, rfl, by rw [← he]; simp, ?_, fun z hz => ?_⟩
      · have := putD_len kds (keyR q) (.int at_)
        rw [List.length_append]
        show _ ≤ done.length + 1
        omega
      · rw [luK_put]
        by_cases e : keyR z = keyR q
        · rw [if_pos e]; exact ⟨at_, rfl⟩
        · rw [if_neg e]
          rcases List.mem_append.mp hz with hz | hz
          · exact hp z hz
          · rw [List.mem_singleton] at hz; subst hz; exact absurd rfl e
  · obtain ⟨done, left, kds, at_, sa, sb, sc', sd, hr, rfl, he, hl, hp⟩ := hJ
    cases left with
    | cons q left => cases hr
    | nil =>
      refine go_cons (gs_retO C 1 rfl rfl ?_)
      intro u hu _
      have := webD_inj (List.cons.inj hu).1
      subst this
      refine ⟨kds, rfl, fun i s k l h1 h2 => ?_⟩
      rw [List.append_nil] at he
      have := rows_code (n := 0) h1 h2
      rw [← he, Nat.zero_add] at this
      exact hp _ this
end
end Kn
/-! L2: words. -/
namespace Kn
open PySem PySem.Spec PyProof.Rows L2
section
variable {X : Cx} {E : En} {N G : List Str} {vb wb : List Bool} {sc : Scope} {k : Nat} {Δ Δ' : List Slot} {a : Expr} {pos p py : Pos} {y : Str} {lp cp : Addr}
/-- a draw -/
theorem do_take {P : D → Prop} (C : Cz E N vb wb G sc k X) (i n : Nat) (F : FnD E.P E.w E.K E.mg E.base "_law_take" 2 (spP E.K pre_take post_take)) (hpool : Δ[n]? = some (.own (.pool lp (.some cp)))) (ha : Do X E a Δ fun d => ∃ m : Int, d = .int m ∧ 0 < m ∧ m ≤ 1000000 ∧ ∀ j : Nat, (j : Int) < m → P (.int (j : Nat)))
    (hv : vb[n]? = some true := by rfl) (hN : N[n]? = some y := by rfl) (hj : 2 ≤ k := by decide) (hG : G[i]? = some ("_law_take" : Str) := by rfl) (he : starEach (.Name y py :: [a]) X.env = (false, eval (.Name y py) X.env) :: starEach [a] X.env := by rfl) (he2 : starEach [a] X.env = (false, eval a X.env) :: starEach [] X.env := by rfl) (hpl : (backTo pos (starEach [a] X.env)).any (·.1) = false := by rfl) :
    Do X E (.Call (.Name "_law_take" p) [.Name y py, a] [] pos) Δ P :=
  do_call C i n F hpool (da_cons (ha.mono fun d ⟨m, e, h1, h2, hP⟩ => da_nil ⟨⟨m, by rw [e], h1, h2⟩, fun d hd => by
    obtain ⟨j, rfl, hj⟩ := hd m (by rw [e])
    exact hP j hj⟩) he2) hv hN hj hG he hpl
end
theorem ef_less {X : Cx} {E : En} {Δ : List Slot} {e : Expr} {o : O} (i : Nat) (h : EvF X E e (Δ.set i .un) o) : EvF X E e Δ o := fun σ B H S Q q => h σ B H S.less Q q
theorem ev_less {X : Cx} {E : En} {Δ : List Slot} {e : Expr} {d : D} (i : Nat) (h : Ev X E e (Δ.set i .un) d) : Ev X E e Δ d := fun σ B H S Q q => h σ B H S.less Q q
theorem upto_nat : ∀ {lo n : Nat} {x : D}, x ∈ upto (lo : Int) n → ∃ m : Nat, x = .int (m : Nat) ∧ m < lo + n
  | _, 0, _, h => by cases h
  | lo, n + 1, x, h => by
    have h : x ∈ D.int (lo : Int) :: upto ((lo : Int) + 1) n := h
    rcases List.mem_cons.mp h with q | q
    · exact ⟨lo, q, by omega⟩
    · have e : ((lo : Int) + 1) = ((lo + 1 : Nat) : Int) := by omega
      rw [e] at q
      obtain ⟨m, h1, h2⟩ := upto_nat q
      exact ⟨m, h1, by omega⟩
def oneS (c : Nat) : Str := ⟨#[c]⟩
theorem signs_of {α : Type} {Q : Nat → Prop} {xs : List α} {zs : List D} (h : Paired (fun _ d => ∃ ch, d = .str ⟨#[ch]⟩ ∧ Q ch) xs zs) : ∃ cs : List Nat, zs = (cs.map oneS).map D.str ∧ cs.length = xs.length ∧ ∀ c ∈ cs, Q c := by
  induction h with
  | nil => exact ⟨[], rfl, rfl, by simp⟩
  | cons f r ih =>
    obtain ⟨ch, rfl, hq⟩ := f
    obtain ⟨cs, h1, h2, h3⟩ := ih
    refine ⟨ch :: cs, by rw [h1]; rfl, by rw [List.length_cons, List.length_cons, h2], fun c hc => ?_⟩
    rcases List.mem_cons.mp hc with q | q
    · subst q; exact hq
    · exact h3 c q
theorem ones_sum (c : List Nat) : ((c.map oneS).map (·.length)).sum = c.length := by
  induction c with
  | nil => rfl
  | cons x r ih => rw [List.map_cons, List.map_cons, List.sum_cons, ih, List.length_cons]; show 1 + _ = _; omega
theorem ones_join (cs : List Nat) : codes (Txt.join "" (cs.map oneS)) = cs := by
  have : ∀ xs : List Str, codes (Txt.join "" xs) = xs.flatMap codes := fun xs => by
    unfold Txt.join
    rw [StrLaws.glued_eq_join]
    induction xs with
    | nil => rfl
    | cons x r ih =>
      cases r with
      | nil => show codes x = codes x ++ []; rw [List.append_nil]
      | cons y r =>
        show codes (x ++ "" ++ Str.join "" (y :: r)) = codes x ++ (y :: r).flatMap codes
        rw [codes_app, codes_app, ih]
        have : codes ("" : Str) = [] := rfl
        rw [this, List.append_nil]
  rw [this]
  induction cs with
  | nil => rfl
  | cons z zs ih => rw [List.map_cons, List.flatMap_cons, ih]; rfl
def lows : List Nat := codes "abcdefghijklmnopqrstuvwxyz"
theorem low_at {i : Nat} (h : i < 26) : ∃ c, lows[i]? = some c ∧ 97 ≤ c ∧ c ≤ 122 := by
  have e : lows = (List.range 26).map (· + 97) := by decide +kernel
  rw [e]
  refine ⟨i + 97, ?_, by omega, by omega⟩
  rw [List.getElem?_map, List.getElem?_range h]; rfl
theorem word_join {cs : List Nat} (h1 : 1 ≤ cs.length) (h2 : cs.length ≤ 8) (h : ∀ c ∈ cs, 97 ≤ c ∧ c ≤ 122) : WordOk (Txt.join "" (cs.map oneS)) := by
  have e := ones_join cs
  have el : (Txt.join "" (cs.map oneS)).length = cs.length := by rw [← codes_len, e]
  exact ⟨by rw [el]; exact h1, by rw [el]; exact h2, fun c hc => h c (by rw [← e]; exact hc)⟩
def rest16 : List Str := (List.range 8).map (fun k => repS 113 (k + 1)) ++ (List.range 8).map fun k => repS 119 (k + 1)
theorem rest_ok : ∀ x ∈ rest16, WordOk x := by
  intro x hx
  have one : ∀ c k, 97 ≤ c → c ≤ 122 → k < 8 → WordOk (repS c (k + 1)) := fun c k h1 h2 hk => by
    refine ⟨by rw [rep_len]; omega, by rw [rep_len]; omega, fun z hz => ?_⟩
    have : z ∈ List.replicate (k + 1) c := by unfold codes repS at hz; simpa using hz
    have := List.eq_of_mem_replicate this
    omega
  rcases List.mem_append.mp hx with q | q
  · obtain ⟨k, hk, rfl⟩ := List.mem_map.mp q
    exact one 113 k (by decide) (by decide) (List.mem_range.mp hk)
  · obtain ⟨k, hk, rfl⟩ := List.mem_map.mp q
    exact one 119 k (by decide) (by decide) (List.mem_range.mp hk)
theorem rest_nd : rest16.Nodup := by decide +kernel
theorem rest_free {ts : List Str} (h : ts.length < 16) : ∃ x r, rest16.filter (fun x => !decide (x ∈ ts)) = x :: r ∧ x ∉ ts ∧ WordOk x := by
  cases e : rest16.filter (fun x => !decide (x ∈ ts)) with
  | nil =>
    exfalso
    have sub : ∀ x ∈ rest16, x ∈ ts := fun x hx => by
      refine Classical.byContradiction fun z => ?_
      have : x ∈ rest16.filter (fun x => !decide (x ∈ ts)) := List.mem_filter.mpr ⟨hx, by simp [z]⟩
      rw [e] at this
      cases this
    have nl : ∀ {xs ys : List Str}, xs.Nodup → (∀ x ∈ xs, x ∈ ys) → xs.length ≤ ys.length := fun {xs} => by
      induction xs with
      | nil => intros; exact Nat.zero_le _
      | cons x xs ih =>
        intro ys nd h
        rw [List.nodup_cons] at nd
        have hx := h x List.mem_cons_self
        have := ih (ys := ys.erase x) nd.2 fun y hy => by
          have hne : y ≠ x := fun e => nd.1 (e ▸ hy)
          exact (List.mem_erase_of_ne hne).mpr (h y (List.mem_cons_of_mem _ hy))
        rw [List.length_erase_of_mem hx] at this
        have hp : 0 < ys.length := List.length_pos_of_mem hx
        rw [List.length_cons]
        omega
    have := nl rest_nd sub
    have e16 : rest16.length = 16 := by decide +kernel
    omega
  | cons x r =>
    have hm : x ∈ rest16.filter (fun x => !decide (x ∈ ts)) := by rw [e]; simp
    obtain ⟨h1, h2⟩ := List.mem_filter.mp hm
    exact ⟨x, r, rfl, by simpa using h2, rest_ok x h1⟩
section
variable {P : Program} {w : World} {K : PySem.W.Frag} {mg : Str → Option Value} {base : Heap}
def pre_word : List D → Prop := fun ds => ∃ ts : List Str, ds = [.lst (ts.map D.str)] ∧ ts.length < 16
def post_word : List D → D → Prop := fun ds d => ∃ x, d = .str x ∧ WordOk x ∧ ∀ ts : List Str, ds = [.lst (ts.map D.str)] → x ∉ ts
def mkQ (c : Nat) : D → D
  | .int i => .str (repS c (i + 1).toNat)
  | d => d
theorem upto_rep (c : Nat) : ∀ (lo n : Nat), (upto (lo : Int) n).map (mkQ c) = (((List.range n).map fun k => repS c (lo + k + 1))).map D.str
  | lo, 0 => rfl
  | lo, n + 1 => by
    have ih := upto_rep c (lo + 1) n
    show mkQ c (.int (lo : Int)) :: (upto ((lo : Int) + 1) n).map (mkQ c) = _
    have e : ((lo : Int) + 1) = ((lo + 1 : Nat) : Int) := by omega
    rw [e, ih, List.range_succ_eq_map, List.map_cons, List.map_cons, List.map_map]
    congr 1
    rw [List.map_map, List.map_map]
    refine List.map_congr_left fun k _ => ?_
    show D.str (repS c (lo + 1 + k + 1)) = D.str (repS c (lo + (k + 1) + 1))
    congr 2
    omega
theorem ok_word (T : Tx mg) (A : At K mg "_law_word" s_l_word P_l_word) (F : FnD P w K mg base "_law_take" 2 (spP K pre_take post_take)) : FnD P w K mg base "_law_word" 3 (spP K pre_word post_word) := by
  refine A.p sc_l_word dc_l_word (fun ds h => by obtain ⟨_, rfl, _⟩ := h; rfl) fun X B H l c ds C hR => ?_
  obtain ⟨ts, rfl, hts⟩ := hR
  have fin : ∀ x, WordOk x → x ∉ ts → post_word [.lst (ts.map D.str)] (.str x) := fun x h1 h2 => ⟨x, rfl, h1, fun ts' e => by
    injection e with e
    injection e with e
    have : ts = ts' := (List.map_inj_right (fun x y e => D.str.inj e)).mp e
    rw [← this]; exact h2⟩
  show Go X _ _ [.own (.pool l (.some c)), .d (.lst (ts.map D.str)), .un, .un, .un, .un, .un, .un] _
  refine go_cons (gs_set C 2 (Do.of ev_str ?_))
  refine go_cons (gs_set C 3 (do_ix C (do_lst (da_cons (Do.of ev_int (da_cons (Do.of ev_int (da_cons (Do.of ev_int (da_cons (do_add (Do.of ev_int (do_take C 0 0 F rfl (Do.of ev_int ⟨8, rfl, by decide, by decide, fun j hj => ⟨1, j, rfl, rfl, da_nil ⟨Nat.le_of_ble_eq_true rfl, do_take C 0 0 F rfl (Do.of ev_int ⟨4, rfl, by decide, by decide, fun i hi => ?_⟩)⟩⟩⟩))))))))))))))
  have hsz : ∃ n : Nat, 1 ≤ n ∧ n ≤ 8 ∧ ∃ d, ([D.int 1, D.int 1, D.int 2, D.int (1 + (j : Nat))] : List D)[i]? = some d ∧ d = .int (n : Nat) := by
    match i, hi with
    | 0, _ => exact ⟨1, by decide, by decide, _, rfl, rfl⟩
    | 1, _ => exact ⟨1, by decide, by decide, _, rfl, rfl⟩
    | 2, _ => exact ⟨2, by decide, by decide, _, rfl, rfl⟩
    | 3, _ => exact ⟨1 + j, by omega, by omega, _, rfl, by congr 1⟩
    | n + 4, h => omega
  obtain ⟨n, hn1, hn2, d, hd, rfl⟩ := hsz
  refine ⟨_, _, .int (n : Nat), rfl, rfl, atI_nat hd, ?_⟩
  show Go X _ _ [.own (.pool l (.some c)), .d (.lst (ts.map D.str)), .d (.str "abcdefghijklmnopqrstuvwxyz"), .d (.int (n : Nat)), .un, .un, .un, .un] _
  refine go_cons (gs_set C 4 (do_join C ev_str (df_lcG C .no (bk_by (own := ow_l_word_0) (vb := bv_l_word_0) (wb := bw_l_word_0) (G := bg_l_word_0) (by decide +kernel)) (by exact ⟨trivial, trivial⟩) (fun z : D => z) (fun z => [.own (.pool l (.some c)), .d (.lst (ts.map D.str)), .d (.str "abcdefghijklmnopqrstuvwxyz"), .d (.int (n : Nat)), .un, .un, .d z, .un]) (fun _ => true) (fun _ d => ∃ ch, d = .str ⟨#[ch]⟩ ∧ 97 ≤ ch ∧ ch ≤ 122) (di_range C 1 (Do.of (ev_nm C 3 rfl) ⟨n, rfl, by omega, upto 0 n, by simp, by rw [upto_len]; omega, fun z hz Y CY => ⟨bd_nm CY 6 rfl, rfl, fun _ => ?_⟩, fun zs hzs => ?_⟩) T.range))))
  · refine do_ixS (Do.of (ev_nm CY 2 rfl) (do_take CY 0 0 F rfl (do_ix CY (do_lst (da_cons (Do.of ev_int (da_cons (Do.of ev_int (da_nil ⟨Nat.le_of_ble_eq_true rfl, do_take CY 0 0 F rfl (Do.of ev_int ⟨2, rfl, by decide, by decide, fun i2 hi2 => ?_⟩)⟩)))))))))
    have : ∃ m : Int, ([D.int 3, D.int 26] : List D)[i2]? = some (.int m) ∧ 0 < m ∧ m ≤ 26 := by
      match i2, hi2 with
      | 0, _ => exact ⟨3, rfl, by decide, by decide⟩
      | 1, _ => exact ⟨26, rfl, by decide, by decide⟩
      | n + 2, h => omega
    obtain ⟨m, hm, hm1, hm2⟩ := this
    refine ⟨_, _, .int m, rfl, rfl, atI_nat hm, m, rfl, hm1, by omega, fun i3 hi3 => ?_⟩
    obtain ⟨ch, hch, g1, g2⟩ := low_at (i := i3) (by omega)
    exact ⟨_, _, ch, rfl, rfl, Nat.le_of_ble_eq_true rfl, atI_nat hch, ch, rfl, g1, g2⟩
  · rw [List.filter_eq_self.mpr (fun _ _ => rfl)] at hzs
    obtain ⟨cs, rfl, h2, h3⟩ := signs_of hzs
    rw [upto_len] at h2
    refine ⟨cs.map oneS, rfl, by rw [ones_sum]; show _ + _ * 0 ≤ _; omega, ?_⟩
    have hw := word_join (cs := cs) (by omega) (by omega) h3
    generalize Txt.join "" (cs.map oneS) = x at hw
    show Go X _ _ [.own (.pool l (.some c)), .d (.lst (ts.map D.str)), .d (.str "abcdefghijklmnopqrstuvwxyz"), .d (.int (n : Nat)), .d (.str x), .un, .un, .un] _
    refine go_cons (gs_ifE (et_cmp (co_in C (.inl rfl)) (ev_nm C 4 rfl).r (ev_nm C 1 rfl).r) (fun _ => ?_) (fun hb => go_nil ?_))
    · have e1 : ∀ (cc : Nat), ((upto 0 8).filter fun _ : D => true).map (mkQ cc) = ((List.range 8).map fun k => repS cc (k + 1)).map D.str := fun cc => by
        rw [List.filter_eq_self.mpr (fun _ _ => rfl)]
        have := upto_rep cc 0 8
        rw [show ((0 : Nat) : Int) = 0 from rfl] at this
        rw [this]
        simp only [Nat.zero_add]
      have e2 : rest16.map D.str = ((List.range 8).map fun k => repS 113 (k + 1)).map D.str ++ ((List.range 8).map fun k => repS 119 (k + 1)).map D.str := List.map_append ..
      refine go_cons (gs_set C 5 (Do.of (d := .lst (rest16.map D.str)) (EvF.ld (ef_less 0 (e2 ▸ ef_cat (EvF.lr (e1 113 ▸ ef_lcG C .no (bk_by (own := ow_l_word_1) (vb := bv_l_word_1) (wb := bw_l_word_1) (G := bg_l_word_1) (by decide +kernel)) (by exact ⟨trivial, trivial⟩) (by trivial) (fun z : D => z) (fun z => [.un, .d (.lst (ts.map D.str)), .d (.str "abcdefghijklmnopqrstuvwxyz"), .d (.int (n : Nat)), .d (.str x), .un, .d z, .un]) (fun _ => true) (mkQ 113) (upto 0 8) (di_range C 1 (Do.of ev_int ⟨8, rfl, by decide, by simp⟩) T.range) (by rw [upto_len]; decide) (fun z hz Y CY => ⟨bd_nm CY 6 rfl, rfl, fun _ => ?_⟩))) (EvF.lr (e1 119 ▸ ef_lcG C .no (bk_by (own := ow_l_word_2) (vb := bv_l_word_2) (wb := bw_l_word_2) (G := bg_l_word_2) (by decide +kernel)) (by exact ⟨trivial, trivial⟩) (by trivial) (fun z : D => z) (fun z => [.un, .d (.lst (ts.map D.str)), .d (.str "abcdefghijklmnopqrstuvwxyz"), .d (.int (n : Nat)), .d (.str x), .un, .d z, .un]) (fun _ => true) (mkQ 119) (upto 0 8) (di_range C 1 (Do.of ev_int ⟨8, rfl, by decide, by simp⟩) T.range) (by rw [upto_len]; decide) (fun z hz Y CY => ⟨bd_nm CY 6 rfl, rfl, fun _ => ?_⟩))) (by simp)))) ?_))
      · obtain ⟨m, rfl, hm⟩ := upto_nat (lo := 0) hz
        have e3 : mkQ 113 (.int (m : Nat)) = .str (repS 113 (m + 1)) := by show D.str (repS 113 ((m : Int) + 1).toNat) = _; congr 2
        rw [e3]
        exact ev_rep ev_str ((ev_add (ev_nm CY 6 rfl) ev_int).is (by congr 1)) (by omega)
      · obtain ⟨m, rfl, hm⟩ := upto_nat (lo := 0) hz
        have e3 : mkQ 119 (.int (m : Nat)) = .str (repS 119 (m + 1)) := by show D.str (repS 119 ((m : Int) + 1).toNat) = _; congr 2
        rw [e3]
        exact ev_rep ev_str ((ev_add (ev_nm CY 6 rfl) ev_int).is (by congr 1)) (by omega)
      obtain ⟨y, r, hy, hn, hok⟩ := rest_free hts
      refine go_cons (gs_set C 4 (Do.of (d := .str y) (ev_ix C (EvF.lr (ef_less 0 (ef_lcG C (.one _) (bk_by (own := ow_l_word_3) (vb := bv_l_word_3) (wb := bw_l_word_3) (G := bg_l_word_3) (by decide +kernel)) (by exact ⟨trivial, trivial⟩) (by trivial) D.str (fun z => [.un, .d (.lst (ts.map D.str)), .d (.str "abcdefghijklmnopqrstuvwxyz"), .d (.int (n : Nat)), .d (.str x), .d (.lst (rest16.map D.str)), .un, .d (.str z)]) (fun z => !decide (z ∈ ts)) D.str rest16 (di_lstE C (ev_nm C 5 rfl)) (by decide +kernel) (fun z hz Y CY => ⟨bd_nm CY 7 rfl, DoT.of (et_cmp (co_notin CY (.inl rfl)) (ev_nm CY 7 rfl).r (ev_nm CY 1 rfl).r) rfl, fun _ => ev_nm CY 7 rfl⟩)))) ev_int rfl (by rw [hy]; exact atI_nat rfl)) (go_nil ?_)))
      exact go_cons (gs_ret (Do.of (ev_nm C 4 rfl) ⟨fin y hok hn, rfl⟩))
    · have hn : x ∉ ts := by simpa using hb
      exact go_cons (gs_ret (Do.of (ev_nm C 4 rfl) ⟨fin x hw hn, rfl⟩))
end
end Kn
/-! L3: lines. -/
namespace Kn
open PySem PySem.Spec PyProof.Rows L2
/-- a text of signs, no longer than n -/
def SgnS (n : Nat) (x : Str) : Prop := x.length ≤ n ∧ ∀ c ∈ codes x, sgn c
theorem SgnS.app {n m k : Nat} {x y : Str} (h1 : SgnS n x) (h2 : SgnS m y) (hk : n + m ≤ k) : SgnS k (x ++ y) := by
  refine ⟨by rw [len_app]; have := h1.1; have := h2.1; omega, fun c hc => ?_⟩
  rw [codes_app] at hc
  rcases List.mem_append.mp hc with q | q
  · exact h1.2 c q
  · exact h2.2 c q
theorem SgnS.mono {n m : Nat} {x : Str} (h : SgnS n x) (k : n ≤ m) : SgnS m x := ⟨Nat.le_trans h.1 k, h.2⟩
def sgB (n : Nat) (x : Str) : Bool := decide (x.length ≤ n) && (codes x).all fun c => decide (32 ≤ c) && decide (c ≤ 126) && decide (c ≠ 37)
theorem sgB_ok {n : Nat} {x : Str} (h : sgB n x = true) : SgnS n x := by
  unfold sgB at h
  rw [Bool.and_eq_true] at h
  refine ⟨of_decide_eq_true h.1, fun c hc => ?_⟩
  have := List.all_eq_true.mp h.2 c hc
  simp only [Bool.and_eq_true, decide_eq_true_eq] at this
  exact ⟨this.1.1, this.1.2, this.2⟩
theorem word_sgn {x : Str} (h : WordOk x) : SgnS 8 x := ⟨h.le, fun c hc => by have := h.all c hc; exact ⟨by omega, by omega, by omega⟩⟩
def signsS : Str := " !\"#$&'()*+,-./0123456789:;<=>?@ABCDEFGHIJKLMNOPQRSTUVWXYZ[\\]^_`" ++ "abcdefghijklmnopqrstuvwxyz{|}~"
theorem signs_ok : signsS.length = 94 ∧ sgB 94 signsS = true := by decide +kernel
theorem sign_at {i : Nat} (h : i < 94) : ∃ c, (codes signsS)[i]? = some c ∧ sgn c := by
  have hl : i < (codes signsS).length := by rw [codes_len, signs_ok.1]; exact h
  exact ⟨_, List.getElem?_eq_getElem hl, (sgB_ok signs_ok.2).2 _ (List.getElem_mem hl)⟩
theorem join_sgn {cs : List Nat} {n : Nat} (h1 : cs.length ≤ n) (h : ∀ c ∈ cs, sgn c) : SgnS n (Txt.join "" (cs.map oneS)) := by
  have e := ones_join cs
  exact ⟨by rw [← codes_len, e]; exact h1, fun c hc => h c (by rw [← e]; exact hc)⟩
/-- one of some texts -/
theorem pick {ss : List Str} {n j : Nat} (h : ss.all (sgB n) = true) (hj : j < ss.length) : ∃ x, atI (ss.map D.str) (j : Int) = some (.str x) ∧ SgnS n x := by
  refine ⟨ss[j], atI_nat (by rw [List.getElem?_map, List.getElem?_eq_getElem hj]; rfl), sgB_ok (List.all_eq_true.mp h _ (List.getElem_mem hj))⟩
theorem cut_take (x : Str) (n : Nat) : codes (cutS x none (some (n : Int))) = (codes x).take n := by
  unfold cutS codes
  rw [HT.sIx_none, HT.sIx_nat]
  simp only [List.drop_zero, Nat.sub_zero]
  have : x.cps.toList.take (min n x.length) = x.cps.toList.take n := by
    by_cases h : n ≤ x.length
    · rw [Nat.min_eq_left h]
    · rw [Nat.min_eq_right (by omega), List.take_of_length_le (by show (codes x).length ≤ _; rw [codes_len]; omega), List.take_of_length_le (by show (codes x).length ≤ _; rw [codes_len]; omega)]
  exact this
theorem cut_line {x : Str} {n : Nat} (h : SgnS n x) : LineOk (cutS x none (some 40)) := by
  have e := cut_take x 40
  have e : codes (cutS x none (some 40)) = (codes x).take 40 := e
  refine ⟨by rw [← codes_len, e, List.length_take]; omega, fun c hc => h.2 c ?_⟩
  rw [e] at hc
  exact List.mem_of_mem_take hc
section
variable {P : Program} {w : World} {K : PySem.W.Frag} {mg : Str → Option Value} {base : Heap}
theorem ok_signs (A : At K mg "_law_signs" s_l_signs P_l_signs) : FnD P w K mg base "_law_signs" 1 (spR K fun ds d => ds = [] ∧ d = .str signsS) := by
  refine A.r sc_l_signs dc_l_signs (fun ds d h => by obtain ⟨rfl, _⟩ := h; rfl) fun X B H ds d C hR => ?_
  obtain ⟨rfl, rfl⟩ := hR
  show Go X _ _ [.un] _
  refine go_cons (gs_set C 0 (Do.of ev_str ?_))
  exact go_cons (gs_ret (Do.of (ev_cats (ev_nm C 0 rfl) ev_str (by decide +kernel)) rfl))
def ten : List Str := ["{", "}", "{}", "{x}", "{X}", "{a b}", "{{", "}}", " ", "    "]
theorem ten_ok : ten.all (sgB 20) = true := by decide +kernel
def pre_line : List D → Prop := fun ds => ∃ ps : List Str, ds = [.tup (ps.map D.str)] ∧ (∀ p ∈ ps, WordOk p) ∧ ps.length ≤ 3
theorem ok_line {sg : Str} (s1 : sg.length = 94) (s2 : ∀ i : Nat, i < 94 → ∃ c, (codes sg)[i]? = some c ∧ sgn c) (T : Tx mg) (A : At K mg "_law_line" s_l_line P_l_line) (F : FnD P w K mg base "_law_take" 2 (spP K pre_take post_take)) (F2 : FnD P w K mg base "_law_signs" 1 (spR K fun ds d => ds = [] ∧ d = .str sg)) : FnD P w K mg base "_law_line" 3 (spP K pre_line fun _ d => ∃ x, d = .str x ∧ LineOk x) := by
  refine A.p sc_l_line dc_l_line (fun ds h => by obtain ⟨_, rfl, _⟩ := h; rfl) fun X B H l c ds C hR => ?_
  obtain ⟨ps, rfl, hps, hpl⟩ := hR
  show Go X _ _ [.own (.pool l (.some c)), .d (.tup (ps.map D.str)), .un, .un, .un, .un, .un, .un, .un, .un] _
  refine go_cons (gs_set C 2 (Do.of (ev_call0 C 0 F2 ⟨rfl, rfl⟩) ?_))
  refine go_cons (gs_set C 3 (Do.of ev_str ?_))
  refine go_cons (gs_for C [4] (di_range C 1 (do_take C 2 0 F rfl (Do.of ev_int ⟨6, rfl, by decide, by decide, fun n hn => ⟨n, rfl, by omega, ?_⟩⟩)) T.range))
  refine ⟨fun r Δ => ∃ (x : Str) (a4 a5 a6 a7 a8 : Slot), r.length ≤ 6 ∧ Δ = [.own (.pool l (.some c)), .d (.tup (ps.map D.str)), .d (.str sg), .d (.str x), a4, a5, a6, a7, a8, .un] ∧ SgnS (20 * (6 - r.length)) x, ⟨"", _, _, _, _, _, by rw [upto_len]; omega, rfl, ⟨Nat.zero_le _, fun c hc => by have e : codes ("" : Str) = [] := rfl; rw [e] at hc; cases hc⟩⟩, fun y r Δ2 hJ => ?_, fun Δ2 hJ => ?_⟩
  · obtain ⟨x, a4, a5, a6, a7, a8, hr, rfl, hx⟩ := hJ
    rw [List.length_cons] at hr hx
    refine bd_nm C 4 ?_
    refine go_less 5 (go_less 6 (go_less 7 (go_less 8 ?_)))
    show Go X _ _ [.own (.pool l (.some c)), .d (.tup (ps.map D.str)), .d (.str sg), .d (.str x), .d y, .un, .un, .un, .un, .un] _
    refine go_cons (gs_set C 5 (do_take C 2 0 F rfl (Do.of ev_int ⟨6, rfl, by decide, by decide, fun way hway => ?_⟩)))
    refine go_cons (gs_set C 6 (do_join C ev_str (df_lcG C .no (bk_by (own := ow_l_line_0) (vb := bv_l_line_0) (wb := bw_l_line_0) (G := bg_l_line_0) (by decide +kernel)) (by exact ⟨trivial, trivial⟩) (fun z : D => z) (fun z => [.own (.pool l (.some c)), .d (.tup (ps.map D.str)), .d (.str sg), .d (.str x), .d y, .d (.int (way : Nat)), .un, .un, .un, .d z]) (fun _ => true) (fun _ d => ∃ ch, d = .str ⟨#[ch]⟩ ∧ sgn ch) (di_range C 1 (do_take C 2 0 F rfl (Do.of ev_int ⟨7, rfl, by decide, by decide, fun n hn => ⟨n, rfl, by omega, upto 0 n, by simp, by rw [upto_len]; omega, fun z hz Y CY => ⟨bd_nm CY 9 rfl, rfl, fun _ => do_ixS (Do.of (ev_nm CY 2 rfl) (do_take CY 0 0 F rfl (Do.of ev_int ⟨94, rfl, by decide, by decide, fun i hi => ?_⟩)))⟩, fun zs hzs => ?_⟩⟩)) T.range))))
    · obtain ⟨ch, hch, hs⟩ := s2 i (by omega)
      exact ⟨_, _, ch, rfl, rfl, by rw [s1]; omega, atI_nat hch, ch, rfl, hs⟩
    rw [List.filter_eq_self.mpr (fun _ _ => rfl)] at hzs
    obtain ⟨cs, rfl, h2, h3⟩ := signs_of hzs
    rw [upto_len] at h2
    refine ⟨cs.map oneS, rfl, by rw [ones_sum]; show _ + _ * 0 ≤ _; omega, ?_⟩
    have hp0 := join_sgn (n := 20) (cs := cs) (by omega) h3
    generalize Txt.join "" (cs.map oneS) = x0 at hp0
    show Go X _ _ [.own (.pool l (.some c)), .d (.tup (ps.map D.str)), .d (.str sg), .d (.str x), .d y, .d (.int (way : Nat)), .d (.str x0), .un, .un, .un] _
    have lit : ∀ (z : Str), sgB 1 z = true → SgnS 1 z := fun z h => sgB_ok h
    have b1 : SgnS 1 "{" := sgB_ok (by decide +kernel)
    have b2 : SgnS 1 "}" := sgB_ok (by decide +kernel)
    have b3 : SgnS 2 " }" := sgB_ok (by decide +kernel)
    have b4 : SgnS 2 "{ " := sgB_ok (by decide +kernel)
    have b5 : SgnS 1 "(" := sgB_ok (by decide +kernel)
    have b6 : SgnS 1 ")" := sgB_ok (by decide +kernel)
    have par : ∀ j : Nat, (j : Int) < (ps.length : Int) → ∃ q, atI (ps.map D.str) (j : Int) = some (.str q) ∧ SgnS 8 q := fun j hj => by
      have hlt : j < ps.length := by omega
      exact ⟨ps[j], atI_nat (by rw [List.getElem?_map, List.getElem?_eq_getElem hlt]; rfl), word_sgn (hps _ (List.getElem_mem hlt))⟩
    have hlen : LenD (D.tup (ps.map D.str)) (ps.map D.str).length := .tup _
    refine go_cons (gs_via (fun Δ' => ∃ (z : Str) (a7 a8 : Slot), Δ' = [.own (.pool l (.some c)), .d (.tup (ps.map D.str)), .d (.str sg), .d (.str x), .d y, .d (.int (way : Nat)), .d (.str z), a7, a8, .un] ∧ SgnS 20 z) (gs_ifE (ew_and (et_cmp co_lt (ev_nm C 5 rfl).r ev_int.r) fun _ => ew_and1 (et_cmp co_gt (ev_len C 3 (ev_nm C 1 rfl).r hlen T.len).r ev_int.r)).t (fun hb => ?_) (fun hb => ?_)) ?_)
    · have hpos : 0 < ps.length := by
        have := of_decide_eq_true (Bool.and_eq_true_iff.mp hb).2
        rw [List.length_map] at this
        omega
      refine go_cons (gs_set C 6 (do_cats (do_cats (Do.of ev_str (do_ix C (Do.of (ev_nm C 1 rfl) (do_take C 2 0 F rfl (Do.of (ev_len C 3 (ev_nm C 1 rfl).r hlen T.len) ⟨_, rfl, by rw [List.length_map]; omega, by rw [List.length_map]; omega, fun j hj => ?_⟩))))))))
      rw [List.length_map] at hj
      obtain ⟨q, hq, hs⟩ := par j hj
      have h8 := hs.1
      refine ⟨_, _, .str q, rfl, rfl, hq, _, q, rfl, rfl, by show 1 + _ ≤ _; omega, Do.of ev_str ⟨_, _, rfl, rfl, by rw [len_app]; show 1 + q.length + 1 ≤ _; omega, go_nil ⟨_, _, _, rfl, ?_⟩⟩⟩
      exact ((b1.app hs (k := 9) (by omega)).app b2 (k := 10) (by omega)).mono (by omega)
    · refine go_cons (gs_ifE (et_cmp co_eqI (ev_nm C 5 rfl).r ev_int.r) (fun _ => ?_) (fun _ => ?_))
      · refine go_cons ?_
        refine gs_set C 6 ?_
        refine do_ix C ?_
        refine Do.of (d := .lst (ten.map D.str)) (EvF.ld (ef_lst ?_ (by decide))) ?_
        rotate_left
        refine do_take C 2 0 F rfl ?_
        refine Do.of ev_int ⟨10, rfl, by decide, by decide, fun j hj => ?_⟩
        rotate_left
        · show EvA _ _ _ _ [.str "{", .str "}", .str "{}", .str "{x}", .str "{X}", .str "{a b}", .str "{{", .str "}}", .str " ", .str "    "]
          refine ea_cons ev_str ?_
          refine ea_cons ev_str ?_
          refine ea_cons ev_str ?_
          refine ea_cons ev_str ?_
          refine ea_cons ev_str ?_
          refine ea_cons ev_str ?_
          refine ea_cons ev_str ?_
          refine ea_cons ev_str ?_
          refine ea_cons ev_str ?_
          exact ea_cons ev_str ea_nil
        · obtain ⟨q, hq, hs⟩ := pick (j := j) ten_ok (by show j < 10; omega)
          exact ⟨_, _, .str q, rfl, rfl, hq, go_nil (go_nil ⟨q, _, _, rfl, hs⟩)⟩
      · refine go_cons (gs_ifE (ew_and (et_cmp co_eqI (ev_nm C 5 rfl).r ev_int.r) fun _ => ew_and1 (et_cmp co_gt (ev_len C 3 (ev_nm C 1 rfl).r hlen T.len).r ev_int.r)).t (fun hb => ?_) (fun hb => go_nil ?_))
        · have hpos : 0 < ps.length := by
            have := of_decide_eq_true (Bool.and_eq_true_iff.mp hb).2
            rw [List.length_map] at this
            omega
          refine go_cons (gs_set C 7 (do_ix C (Do.of (ev_nm C 1 rfl) (do_take C 2 0 F rfl (Do.of (ev_len C 3 (ev_nm C 1 rfl).r hlen T.len) ⟨_, rfl, by rw [List.length_map]; omega, by rw [List.length_map]; omega, fun j hj => ?_⟩)))))
          rw [List.length_map] at hj
          obtain ⟨q, hq, hs⟩ := par j hj
          have h8 := hs.1
          refine ⟨_, _, .str q, rfl, rfl, hq, ?_⟩
          refine go_cons (gs_set C 8 (Do.of (d := .lst [.str ("{" ++ q), .str (q ++ "}"), .str ("{" ++ q ++ " }"), .str ("{ " ++ q ++ "}"), .str ("(" ++ q ++ ")")]) (EvF.ld (ef_lst ?_ (Nat.le_of_ble_eq_true rfl))) ?_))
          · refine ea_cons (ev_cats ev_str (ev_nm C 7 rfl) (by show 1 + _ ≤ _; omega)) ?_
            refine ea_cons (ev_cats (ev_nm C 7 rfl) ev_str (by show _ + 1 ≤ _; omega)) ?_
            refine ea_cons (ev_cats (ev_cats ev_str (ev_nm C 7 rfl) (by show 1 + _ ≤ _; omega)) ev_str (by rw [len_app]; show 1 + _ + 2 ≤ _; omega)) ?_
            refine ea_cons (ev_cats (ev_cats ev_str (ev_nm C 7 rfl) (by show 2 + _ ≤ _; omega)) ev_str (by rw [len_app]; show 2 + _ + 1 ≤ _; omega)) ?_
            exact ea_cons (ev_cats (ev_cats ev_str (ev_nm C 7 rfl) (by show 1 + _ ≤ _; omega)) ev_str (by rw [len_app]; show 1 + _ + 1 ≤ _; omega)) ea_nil
          refine go_cons (gs_set C 6 (do_ix C (Do.of (ev_nm C 8 rfl) (do_take C 2 0 F rfl (Do.of ev_int ⟨5, rfl, by decide, by decide, fun i hi => ?_⟩)))))
          have pk : ∃ z, atI ([D.str ("{" ++ q), .str (q ++ "}"), .str ("{" ++ q ++ " }"), .str ("{ " ++ q ++ "}"), .str ("(" ++ q ++ ")")]) (i : Int) = some (.str z) ∧ SgnS 20 z := by
            match i, hi with
            | 0, _ => exact ⟨_, atI_nat rfl, b1.app hs (by omega)⟩
            | 1, _ => exact ⟨_, atI_nat rfl, hs.app b2 (by omega)⟩
            | 2, _ => exact ⟨_, atI_nat rfl, (b1.app hs (k := 9) (by omega)).app b3 (by omega)⟩
            | 3, _ => exact ⟨_, atI_nat rfl, (b4.app hs (k := 10) (by omega)).app b2 (by omega)⟩
            | 4, _ => exact ⟨_, atI_nat rfl, (b5.app hs (k := 9) (by omega)).app b6 (by omega)⟩
            | n + 5, h => omega
          obtain ⟨z, hz, hzs⟩ := pk
          exact ⟨_, _, .str z, rfl, rfl, hz, go_nil (go_nil (go_nil ⟨z, _, _, rfl, hzs⟩))⟩
        · exact go_nil (go_nil ⟨x0, _, _, rfl, hp0⟩)
    · rintro _ ⟨z, b7, b8, rfl, hz⟩
      have hxl := hx.1
      have hzl := hz.1
      refine go_cons (gs_set C 3 (Do.of (ev_cats (ev_nm C 3 rfl) (ev_nm C 6 rfl) (by omega)) (go_nil ?_)))
      exact ⟨x ++ z, _, _, _, _, _, by omega, rfl, hx.app hz (by omega)⟩
  · obtain ⟨x, a4, a5, a6, a7, a8, hr, rfl, hx⟩ := hJ
    have hxl := hx.1
    exact go_cons (gs_ret (Do.of (ev_slS (l := none) (u := some 40) (ev_nm C 3 rfl) trivial ev_int (by omega)) ⟨⟨_, rfl, cut_line hx⟩, rfl⟩))
end
end Kn
/-! L4m: a stripped text. -/
namespace Kn
open PySem PySem.Spec PyProof.Rows L2
open PySem.Builtin PySem.Builtin.Str
def asg (c : Nat) : Prop := sgn c ∧ c ≠ 44 ∧ c ≠ 40 ∧ c ≠ 41
/-- a text of signs that an argument may hold -/
def ArgS (n : Nat) (x : Str) : Prop := x.length ≤ n ∧ ∀ c ∈ codes x, asg c
theorem ArgS.app {n m k : Nat} {x y : Str} (h1 : ArgS n x) (h2 : ArgS m y) (hk : n + m ≤ k) : ArgS k (x ++ y) := by
  refine ⟨by rw [len_app]; have := h1.1; have := h2.1; omega, fun c hc => ?_⟩
  rw [codes_app] at hc
  exact (List.mem_append.mp hc).elim (h1.2 c) (h2.2 c)
theorem ArgS.mono {n m : Nat} {x : Str} (h : ArgS n x) (k : n ≤ m) : ArgS m x := ⟨Nat.le_trans h.1 k, h.2⟩
theorem sub_codes (x : Str) (lo hi : Nat) : codes (strSub x lo hi) = ((codes x).drop lo).take (hi - lo) := by
  unfold codes strSub
  simp
theorem code_at (x : Str) {i : Nat} (h : i < x.length) : (codes x)[i]? = some (x.cps.getD i 0) := by
  have h2 : i < x.cps.size := h
  unfold codes
  rw [Array.getElem?_toList, Array.getElem?_eq_getElem h2]
  congr 1
  simp [Array.getD, h2]
theorem strip_arg {x : Str} {n : Nat} (h : ArgS n x) (hn : n ≤ 40) (hne : Txt.stripChars x " " ≠ "") : ArgOk (Txt.stripChars x " ") := by
  have e : Txt.stripChars x " " = strSub x (stripLo (" " : Str).cps.contains true x) (stripHi (" " : Str).cps.contains true x (stripLo (" " : Str).cps.contains true x)) := stripBy_eq _ true true x
  obtain ⟨l1, _, l3⟩ := lo_facts (" " : Str).cps.contains x
  obtain ⟨g1, g2, _, g4⟩ := hi_facts (" " : Str).cps.contains x _ l1
  generalize stripLo (" " : Str).cps.contains true x = lo at *
  generalize stripHi (" " : Str).cps.contains true x lo = hi at *
  have ec : codes (Txt.stripChars x " ") = ((codes x).drop lo).take (hi - lo) := by rw [e, sub_codes]
  have hlt : lo < hi := by
    refine Classical.byContradiction fun z => hne ?_
    have : hi - lo = 0 := by omega
    rw [this, List.take_zero] at ec
    generalize Txt.stripChars x " " = y at ec
    obtain ⟨⟨l⟩⟩ := y
    have : l = [] := ec
    subst this; rfl
  have len : (Txt.stripChars x " ").length = hi - lo := by
    rw [← codes_len, ec, List.length_take, List.length_drop, codes_len]
    omega
  have sp : ∀ c : Nat, (" " : Str).cps.contains c = false → c ≠ 32 := fun c hc e => by subst e; exact absurd (hc.symm.trans (by decide +kernel : (" " : Str).cps.contains 32 = true)) Bool.false_ne_true
  have mem : ∀ c ∈ codes (Txt.stripChars x " "), asg c := fun c hc => by
    rw [ec] at hc
    exact h.2 c (List.mem_of_mem_drop (List.mem_of_mem_take hc))
  refine ⟨⟨by rw [len]; have := h.1; omega, fun c hc => (mem c hc).1⟩, by rw [len]; omega, ?_, ?_, fun c hc => (mem c hc).2⟩
  · intro hh
    rw [ec, List.head?_eq_getElem?, List.getElem?_take_of_lt (by omega), List.getElem?_drop, code_at x (by omega)] at hh
    rcases l3 with z | z
    · omega
    · exact sp _ z (Option.some.inj hh)
  · intro hh
    rw [List.getLast?_eq_getElem?, codes_len, len, ec, List.getElem?_take_of_lt (by omega), List.getElem?_drop, code_at x (by omega)] at hh
    rcases g4 with z | z
    · omega
    · rw [show lo + (hi - lo - 1) = hi - 1 by omega] at hh
      exact sp _ z (Option.some.inj hh)
theorem brace_arg : ArgOk "{" := ⟨⟨by decide, fun c hc => by have : c ∈ [123] := hc; rw [List.mem_singleton.mp this]; exact ⟨by decide, by decide, by decide⟩⟩, by decide, by decide, by decide, fun c hc => by have : c ∈ [123] := hc; rw [List.mem_singleton.mp this]; decide⟩
def asB (n : Nat) (x : Str) : Bool := decide (x.length ≤ n) && (codes x).all fun c => decide (32 ≤ c) && decide (c ≤ 126) && decide (c ≠ 37) && decide (c ≠ 44) && decide (c ≠ 40) && decide (c ≠ 41)
theorem asB_ok {n : Nat} {x : Str} (h : asB n x = true) : ArgS n x := by
  unfold asB at h
  rw [Bool.and_eq_true] at h
  refine ⟨of_decide_eq_true h.1, fun c hc => ?_⟩
  have := List.all_eq_true.mp h.2 c hc
  simp only [Bool.and_eq_true, decide_eq_true_eq] at this
  obtain ⟨⟨⟨⟨⟨a, b⟩, c⟩, d⟩, e⟩, f⟩ := this
  exact ⟨⟨a, b, c⟩, d, e, f⟩
theorem word_as {x : Str} (h : WordOk x) : ArgS 8 x := ⟨h.le, fun c hc => by have := h.all c hc; exact ⟨⟨by omega, by omega, by omega⟩, by omega, by omega, by omega⟩⟩
theorem join_as {cs : List Nat} {n : Nat} (h1 : cs.length ≤ n) (h : ∀ c ∈ cs, asg c) : ArgS n (Txt.join "" (cs.map oneS)) := by
  have e := ones_join cs
  exact ⟨by rw [← codes_len, e]; exact h1, fun c hc => h c (by rw [← e]; exact hc)⟩
theorem cut_as {x : Str} {n : Nat} (h : ArgS n x) : ArgS 40 (cutS x none (some 40)) := by
  have e : codes (cutS x none (some 40)) = (codes x).take 40 := cut_take x 40
  refine ⟨by rw [← codes_len, e, List.length_take]; omega, fun c hc => h.2 c ?_⟩
  rw [e] at hc
  exact List.mem_of_mem_take hc
def argS : Str := "abcxyz019 .;:'{}+-=<>|*"
theorem argS_ok : argS.length = 23 ∧ asB 23 argS = true := by decide +kernel
theorem args_at {i : Nat} (h : i < 23) : ∃ c, (codes argS)[i]? = some c ∧ asg c := by
  have hl : i < (codes argS).length := by rw [codes_len, argS_ok.1]; exact h
  exact ⟨_, List.getElem?_eq_getElem hl, (asB_ok argS_ok.2).2 _ (List.getElem_mem hl)⟩
end Kn
/-! L4: arguments. -/
namespace Kn
open PySem PySem.Spec PyProof.Rows L2
section
variable {P : Program} {w : World} {K : PySem.W.Frag} {mg : Str → Option Value} {base : Heap}
theorem ok_argument {sg : Str} (s0 : sg = argS) (s1 : sg.length = 23) (s2 : ∀ i : Nat, i < 23 → ∃ c, (codes sg)[i]? = some c ∧ asg c) (T : Tx mg) (A : At K mg "_law_argument" s_l_argument P_l_argument) (F : FnD P w K mg base "_law_take" 2 (spP K pre_take post_take)) : FnD P w K mg base "_law_argument" 3 (spP K pre_line fun _ d => ∃ x, d = .str x ∧ ArgOk x) := by
  refine A.p sc_l_argument dc_l_argument (fun ds h => by obtain ⟨_, rfl, _⟩ := h; rfl) fun X B H l c ds C hR => ?_
  obtain ⟨ps, rfl, hps, hpl⟩ := hR
  show Go X _ _ [.own (.pool l (.some c)), .d (.tup (ps.map D.str)), .un, .un, .un, .un, .un] _
  refine go_cons (gs_set C 2 (Do.of (d := .str sg) (s0 ▸ ev_str) ?_))
  refine go_cons (gs_set C 3 (Do.of ev_str ?_))
  refine go_cons (gs_for C [4] (di_range C 0 (do_add (Do.of ev_int (do_take C 1 0 F rfl (Do.of ev_int ⟨3, rfl, by decide, by decide, fun n hn => ⟨1, n, rfl, rfl, 1 + n, congrArg D.int (by omega), by omega, ?_⟩⟩)))) T.range))
  refine ⟨fun r Δ => ∃ (x : Str) (a4 a5 : Slot), r.length ≤ 3 ∧ Δ = [.own (.pool l (.some c)), .d (.tup (ps.map D.str)), .d (.str sg), .d (.str x), a4, a5, .un] ∧ ArgS (10 * (3 - r.length)) x, ⟨"", _, _, by rw [upto_len]; omega, rfl, ⟨Nat.zero_le _, fun c hc => by have e : codes ("" : Str) = [] := rfl; rw [e] at hc; cases hc⟩⟩, fun y r Δ2 hJ => ?_, fun Δ2 hJ => ?_⟩
  · obtain ⟨x, a4, a5, hr, rfl, hx⟩ := hJ
    rw [List.length_cons] at hr hx
    refine bd_nm C 4 ?_
    refine go_less 5 ?_
    have slen : LenD (D.str sg) sg.length := .str _ (by rw [s1]; decide)
    show Go X _ _ [.own (.pool l (.some c)), .d (.tup (ps.map D.str)), .d (.str sg), .d (.str x), .d y, .un, .un] _
    refine go_cons (gs_set C 5 (do_join C ev_str (df_lcG C .no (bk_by (own := ow_l_argument_0) (vb := bv_l_argument_0) (wb := bw_l_argument_0) (G := bg_l_argument_0) (by decide +kernel)) (by exact ⟨trivial, trivial⟩) (fun z : D => z) (fun z => [.own (.pool l (.some c)), .d (.tup (ps.map D.str)), .d (.str sg), .d (.str x), .d y, .un, .d z]) (fun _ => true) (fun _ d => ∃ ch, d = .str ⟨#[ch]⟩ ∧ asg ch) (di_range C 0 (do_take C 1 0 F rfl (Do.of ev_int ⟨5, rfl, by decide, by decide, fun n hn => ⟨n, rfl, by omega, upto 0 n, by simp, by rw [upto_len]; omega, fun z hz Y CY => ⟨bd_nm CY 6 rfl, rfl, fun _ => do_ixS (Do.of (ev_nm CY 2 rfl) (do_take CY 0 0 F rfl (Do.of (ev_len CY 1 (ev_nm CY 2 rfl).r slen T.len) ⟨_, rfl, by rw [s1]; decide, by rw [s1]; decide, fun i hi => ?_⟩)))⟩, fun zs hzs => ?_⟩⟩)) T.range))))
    · rw [s1] at hi
      obtain ⟨ch, hch, hs⟩ := s2 i (by omega)
      exact ⟨_, _, ch, rfl, rfl, by rw [s1]; omega, atI_nat hch, ch, rfl, hs⟩
    rw [List.filter_eq_self.mpr (fun _ _ => rfl)] at hzs
    obtain ⟨cs, rfl, h2, h3⟩ := signs_of hzs
    rw [upto_len] at h2
    refine ⟨cs.map oneS, rfl, by rw [ones_sum]; show _ + _ * 0 ≤ _; omega, ?_⟩
    have hp0 := join_as (n := 10) (cs := cs) (by omega) h3
    generalize Txt.join "" (cs.map oneS) = x0 at hp0
    show Go X _ _ [.own (.pool l (.some c)), .d (.tup (ps.map D.str)), .d (.str sg), .d (.str x), .d y, .d (.str x0), .un] _
    have b1 : ArgS 1 "{" := asB_ok (by decide +kernel)
    have b2 : ArgS 1 "}" := asB_ok (by decide +kernel)
    have hlen : LenD (D.tup (ps.map D.str)) (ps.map D.str).length := .tup _
    refine go_cons (gs_via (fun Δ' => ∃ (z : Str), Δ' = [.own (.pool l (.some c)), .d (.tup (ps.map D.str)), .d (.str sg), .d (.str x), .d y, .d (.str z), .un] ∧ ArgS 10 z) (gs_if (DoW.t ?_)) ?_)
    · refine dw_and (DoT.of (et_cmp co_gt (ev_len C 2 (ev_nm C 1 rfl).r hlen T.len).r ev_int.r) ⟨fun hb => ?_, fun _ => ⟨fun h => absurd h Bool.false_ne_true, fun _ => go_nil ⟨x0, rfl, hp0⟩⟩⟩)
      have hpos : 0 < ps.length := by
        have := of_decide_eq_true hb
        rw [List.length_map] at this
        omega
      refine dw_and1 (dt_eqI (do_take C 1 0 F rfl (Do.of ev_int ⟨2, rfl, by decide, by decide, fun j hj => Do.of ev_int ⟨_, _, rfl, rfl, fun _ => ?_, fun _ => go_nil ⟨x0, rfl, hp0⟩⟩⟩)))
      refine go_cons (gs_set C 5 (do_cats (do_cats (Do.of ev_str (do_ix C (Do.of (ev_nm C 1 rfl) (do_take C 1 0 F rfl (Do.of (ev_len C 2 (ev_nm C 1 rfl).r hlen T.len) ⟨_, rfl, by rw [List.length_map]; omega, by rw [List.length_map]; omega, fun j hj => ?_⟩))))))))
      rw [List.length_map] at hj
      have hlt : j < ps.length := by omega
      have hs := word_as (hps _ (List.getElem_mem hlt))
      have h8 := hs.1
      refine ⟨_, _, .str ps[j], rfl, rfl, atI_nat (by rw [List.getElem?_map, List.getElem?_eq_getElem hlt]; rfl), _, ps[j], rfl, rfl, by show 1 + _ ≤ _; omega, Do.of ev_str ⟨_, _, rfl, rfl, by rw [len_app]; show 1 + (ps[j]).length + 1 ≤ _; omega, go_nil ⟨_, rfl, ?_⟩⟩⟩
      exact (b1.app hs (k := 9) (by omega)).app b2 (k := 10) (by omega)
    · rintro _ ⟨z, rfl, hz⟩
      have hxl := hx.1
      have hzl := hz.1
      refine go_cons (gs_set C 3 (Do.of (ev_cats (ev_nm C 3 rfl) (ev_nm C 5 rfl) (by omega)) (go_nil ?_)))
      exact ⟨x ++ z, _, _, by omega, rfl, hx.app hz (by omega)⟩
  · obtain ⟨x, a4, a5, hr, rfl, hx⟩ := hJ
    have hxl := hx.1
    have hx4 := cut_as hx
    refine go_cons (gs_set C 3 (Do.of (ev_strip (ev_slS (l := none) (u := some 40) (ev_nm C 3 rfl) trivial ev_int (by omega)) ev_str (by have := hx4.1; omega)) ?_))
    have ok : Txt.stripChars (cutS x none (some 40)) " " ≠ "" → ArgOk (Txt.stripChars (cutS x none (some 40)) " ") := strip_arg hx4 (by decide)
    generalize Txt.stripChars (cutS x none (some 40)) " " = t at ok
    show Go X _ _ [.own (.pool l (.some c)), .d (.tup (ps.map D.str)), .d (.str sg), .d (.str t), a4, a5, .un] _
    refine go_cons (gs_ifE (et_cmp co_eqS (ev_nm C 3 rfl).r ev_str.r) (fun _ => ?_) (fun hb => go_nil ?_))
    · exact go_cons (gs_ret (Do.of ev_str ⟨⟨_, rfl, brace_arg⟩, rfl⟩))
    · exact go_cons (gs_ret (Do.of (ev_nm C 3 rfl) ⟨⟨_, rfl, ok (of_decide_eq_false hb)⟩, rfl⟩))
end
end Kn
/-! L5: plans. -/
namespace Kn
open PySem PySem.Spec PyProof.Rows L2
section
variable {X : Cx} {E : En} {N G : List Str} {vb wb : List Bool} {sc : Scope} {k : Nat} {Δ Δ' : List Slot} {a : Expr} {pos p py : Pos} {y : Str} {lp cp : Addr}
/-- a word drawn -/
theorem do_word {P : D → Prop} (C : Cz E N vb wb G sc k X) (i n : Nat) (F : FnD E.P E.w E.K E.mg E.base "_law_word" 3 (spP E.K pre_word post_word)) (hpool : Δ[n]? = some (.own (.pool lp (.some cp)))) (ha : Do X E a Δ fun d => ∃ ts : List Str, d = .lst (ts.map D.str) ∧ ts.length < 16 ∧ ∀ x, WordOk x → x ∉ ts → P (.str x))
    (hv : vb[n]? = some true := by rfl) (hN : N[n]? = some y := by rfl) (hj : 3 ≤ k := by decide) (hG : G[i]? = some ("_law_word" : Str) := by rfl) (he : starEach (.Name y py :: [a]) X.env = (false, eval (.Name y py) X.env) :: starEach [a] X.env := by rfl) (he2 : starEach [a] X.env = (false, eval a X.env) :: starEach [] X.env := by rfl) (hpl : (backTo pos (starEach [a] X.env)).any (·.1) = false := by rfl) :
    Do X E (.Call (.Name "_law_word" p) [.Name y py, a] [] pos) Δ P :=
  do_call C i n F hpool (da_cons (ha.mono fun d ⟨ts, e, h1, hP⟩ => da_nil ⟨⟨ts, by rw [e], h1⟩, fun d hd => by
    obtain ⟨x, rfl, hx, hn⟩ := hd
    exact hP x hx (hn ts (by rw [e]))⟩) he2) hv hN hj hG he hpl
end
structure PlanOk (pl : List Hd) : Prop where
  ok : ∀ h ∈ pl, h.Ok
  nd : (pl.map Hd.name).Nodup
  few : pl.length ≤ 5
def planD (pl : List Hd) : D := .lst (pl.map Hd.d)
theorem snoc_nd {α : Type} {xs : List α} {x : α} (h : xs.Nodup) (hn : x ∉ xs) : (xs ++ [x]).Nodup := by
  rw [List.nodup_append]
  refine ⟨h, by simp, fun a ha b hb => ?_⟩
  rw [List.mem_singleton.mp hb]
  exact fun e => hn (e ▸ ha)
theorem up_int : ∀ {lo : Int} {n : Nat} {x : D}, x ∈ upto lo n → ∃ m : Int, x = .int m
  | _, 0, _, h => by cases h
  | lo, n + 1, x, h => by
    have h : x ∈ D.int lo :: upto (lo + 1) n := h
    rcases List.mem_cons.mp h with q | q
    · exact ⟨lo, q⟩
    · exact up_int q
section
variable {P : Program} {w : World} {K : PySem.W.Frag} {mg : Str → Option Value} {base : Heap}
theorem ok_plan (T : Tx mg) (A : At K mg "_law_plan" s_l_plan P_l_plan) (F : FnD P w K mg base "_law_take" 2 (spP K pre_take post_take)) (F2 : FnD P w K mg base "_law_word" 3 (spP K pre_word post_word)) : FnD P w K mg base "_law_plan" 4 (spP K (fun ds => ds = []) fun _ d => ∃ pl, d = planD pl ∧ PlanOk pl) := by
  refine A.p sc_l_plan dc_l_plan (fun ds h => by subst h; rfl) fun X B H l c ds C hR => ?_
  subst hR
  show Go X _ _ [.own (.pool l (.some c)), .un, .un, .un, .un, .un, .un, .un] _
  refine go_cons ?_
  refine gs_new C 1 (DoF.of (ef_lst ea_nil) ?_)
  refine go_cons ?_
  refine gs_for C [2] (di_range C 0 (do_ix C (Do.of (d := .lst [.int 1, .int 2, .int 3, .int 4, .int 5]) (EvF.ld (ef_lst ?_ (by decide))) (do_take C 1 0 F rfl (Do.of ev_int ⟨5, rfl, by decide, by decide, fun i hi => ?_⟩)))) T.range)
  · refine ea_cons ev_int ?_
    refine ea_cons ev_int ?_
    refine ea_cons ev_int ?_
    refine ea_cons ev_int ?_
    exact ea_cons ev_int ea_nil
  have sz : ∃ n : Nat, atI ([D.int 1, .int 2, .int 3, .int 4, .int 5]) (i : Int) = some (.int (n : Nat)) ∧ n ≤ 5 := by
    match i, hi with
    | 0, _ => exact ⟨1, atI_nat rfl, by decide⟩
    | 1, _ => exact ⟨2, atI_nat rfl, by decide⟩
    | 2, _ => exact ⟨3, atI_nat rfl, by decide⟩
    | 3, _ => exact ⟨4, atI_nat rfl, by decide⟩
    | 4, _ => exact ⟨5, atI_nat rfl, by decide⟩
    | n + 5, h => omega
  obtain ⟨n, hn, hn5⟩ := sz
  refine ⟨_, _, .int (n : Nat), rfl, rfl, hn, n, rfl, by omega, ?_⟩
  refine ⟨fun r Δ => ∃ (pl : List Hd) (a2 a3 a4 a5 a6 : Slot), r.length + pl.length ≤ 5 ∧ (∀ z ∈ r, ∃ m : Int, z = .int m) ∧ Δ = [.own (.pool l (.some c)), .own (.lst (pl.map Hd.d)), a2, a3, a4, a5, a6, .un] ∧ PlanOk pl, ⟨[], _, _, _, _, _, by rw [upto_len]; exact hn5, fun z hz => up_int hz, rfl, ⟨fun h hh => (by cases hh), List.nodup_nil, by decide⟩⟩, fun y r Δ2 hJ => ?_, fun Δ2 hJ => ?_⟩
  · obtain ⟨pl, a2, a3, a4, a5, a6, hr, hz, rfl, hp⟩ := hJ
    rw [List.length_cons] at hr
    obtain ⟨m, rfl⟩ := hz y List.mem_cons_self
    refine bd_nm C 2 ?_
    refine go_less 3 (go_less 4 (go_less 5 (go_less 6 ?_)))
    show Go X _ _ [.own (.pool l (.some c)), .own (.lst (pl.map Hd.d)), .d (.int m), .un, .un, .un, .un, .un] _
    refine go_cons ?_
    refine gs_set C 3 ?_
    have e0 : (pl.filter fun _ => true).map (fun h : Hd => D.str h.name) = (pl.map Hd.name).map D.str := by
      rw [List.filter_eq_self.mpr (fun _ _ => rfl), List.map_map]; rfl
    refine (do_lend 1 rfl (P := fun d => ∃ x, d = .str x ∧ WordOk x ∧ x ∉ pl.map Hd.name) (do_word C 2 0 F2 rfl (Do.of (d := .lst ((pl.map Hd.name).map D.str)) (EvF.ld (ef_less 0 (e0 ▸ ef_lcG C .no (bk_by (own := ow_l_plan_0) (vb := bv_l_plan_0) (wb := bw_l_plan_0) (G := bg_l_plan_0) (by decide +kernel)) (by exact ⟨trivial, trivial⟩) (by trivial) Hd.d (fun z => [.un, .d (.lst (pl.map Hd.d)), .d (.int m), .un, .un, .un, .un, .d z.d]) (fun _ => true) (fun h => D.str h.name) pl (di_lstE C (ev_nm C 1 rfl)) (by omega) (fun z hz Y CY => ⟨bd_nm CY 7 rfl, rfl, fun _ => ev_ix CY (ev_nm CY 7 rfl).r ev_int rfl rfl⟩)))) ⟨pl.map Hd.name, rfl, by rw [List.length_map]; omega, fun x h1 h2 => ⟨x, rfl, h1, h2⟩⟩)) fun d ⟨x, e, _⟩ => ⟨x, e⟩).mono fun d ⟨x, e, hx, hxn⟩ => ?_
    subst e
    show Go X _ _ [.own (.pool l (.some c)), .own (.lst (pl.map Hd.d)), .d (.int m), .d (.str x), .un, .un, .un, .un] _
    refine go_cons (gs_via (fun Δ' => ∃ b : Bool, Δ' = [.own (.pool l (.some c)), .own (.lst (pl.map Hd.d)), .d (.int m), .d (.str x), .d (.bl b), .un, .un, .un]) (gs_set C 4 (de_or (de_eqI (Do.of (ev_nm C 2 rfl) (Do.of ev_int ⟨_, _, rfl, rfl, _, rfl, fun _ => ⟨true, rfl⟩, fun _ => de_one (de_eqI (do_take C 1 0 F rfl (Do.of ev_int ⟨4, rfl, by decide, by decide, fun j hj => Do.of ev_int ⟨_, _, rfl, rfl, ⟨_, rfl⟩⟩⟩)))⟩))))) ?_)
    rintro _ ⟨b, rfl⟩
    refine go_cons ?_
    refine gs_new C 5 (DoF.of (ef_lst ea_nil) ?_)
    refine go_cons ?_
    refine gs_for C [6] (di_range C 0 (do_mul (do_ix C (Do.of (d := .lst [.int 0, .int 1, .int 1, .int 2, .int 3]) (EvF.ld (ef_lst ?_ (by decide))) (do_take C 1 0 F rfl (Do.of ev_int ⟨5, rfl, by decide, by decide, fun i hi => ?_⟩))))) T.range)
    · refine ea_cons ev_int ?_
      refine ea_cons ev_int ?_
      refine ea_cons ev_int ?_
      refine ea_cons ev_int ?_
      exact ea_cons ev_int ea_nil
    have sz : ∃ n : Nat, atI ([D.int 0, .int 1, .int 1, .int 2, .int 3]) (i : Int) = some (.int (n : Nat)) ∧ n ≤ 3 := by
      match i, hi with
      | 0, _ => exact ⟨0, atI_nat rfl, by decide⟩
      | 1, _ => exact ⟨1, atI_nat rfl, by decide⟩
      | 2, _ => exact ⟨1, atI_nat rfl, by decide⟩
      | 3, _ => exact ⟨2, atI_nat rfl, by decide⟩
      | 4, _ => exact ⟨3, atI_nat rfl, by decide⟩
      | n + 5, h => omega
    obtain ⟨n2, hn2, hn3⟩ := sz
    refine ⟨_, _, .int (n2 : Nat), rfl, rfl, hn2, ?_⟩
    refine do_intB C 3 (Do.of (ev_not (ev_nm C 4 rfl)) ⟨!b, rfl, n2, _, rfl, rfl, .inr ?_, n2 * (if !b then 1 else 0), ?_, ?_, ?_⟩) T.int
    · cases b
      · exact ⟨by decide, by decide⟩
      · exact ⟨by decide, by decide⟩
    · cases b
      · exact congrArg D.int (by show (n2 : Int) * 1 = ((n2 * 1 : Nat) : Int); omega)
      · exact congrArg D.int (by show (n2 : Int) * 0 = ((n2 * 0 : Nat) : Int); omega)
    · cases b
      · show n2 * 1 ≤ _; omega
      · show n2 * 0 ≤ _; omega
    have hk : n2 * (if !b then 1 else 0) ≤ 3 ∧ (b = true → n2 * (if !b then 1 else 0) = 0) := by
      cases b
      · exact ⟨by show n2 * 1 ≤ 3; omega, fun h => absurd h Bool.false_ne_true⟩
      · exact ⟨by show n2 * 0 ≤ 3; omega, fun _ => Nat.mul_zero _⟩
    generalize n2 * (if !b then 1 else 0) = n4 at hk
    obtain ⟨hk3, hk0⟩ := hk
    refine ⟨fun r Δ => ∃ (qs : List Str) (a6 : Slot), r.length + qs.length ≤ n4 ∧ Δ = [.own (.pool l (.some c)), .own (.lst (pl.map Hd.d)), .d (.int m), .d (.str x), .d (.bl b), .own (.lst (qs.map D.str)), a6, .un] ∧ (∀ q ∈ qs, WordOk q) ∧ qs.Nodup, ⟨[], _, by rw [upto_len]; exact Nat.le_refl _, rfl, fun q hq => (by cases hq), List.nodup_nil⟩, fun y r2 Δ3 hJ => ?_, fun Δ3 hJ => ?_⟩
    · obtain ⟨qs, a6, hr2, rfl, hw, hnd⟩ := hJ
      rw [List.length_cons] at hr2
      refine bd_nm C 6 ?_
      show Go X _ _ [.own (.pool l (.some c)), .own (.lst (pl.map Hd.d)), .d (.int m), .d (.str x), .d (.bl b), .own (.lst (qs.map D.str)), .d y, .un] _
      refine go_cons ?_
      refine gs_append C 5 rfl ?_
      refine (do_lend 5 rfl (P := fun d => ∃ x, d = .str x ∧ WordOk x ∧ x ∉ qs) (do_word C 2 0 F2 rfl (Do.of (ev_nm C 5 rfl) ⟨qs, rfl, by omega, fun x h1 h2 => ⟨x, rfl, h1, h2⟩⟩)) fun d ⟨x, e, _⟩ => ⟨x, e⟩).mono fun d ⟨z, e, hz1, hz2⟩ => ?_
      subst e
      refine ⟨by rw [List.length_map]; omega, go_nil ⟨qs ++ [z], _, by rw [List.length_append, List.length_singleton]; omega, by rw [List.map_append]; rfl, fun q hq => ?_, snoc_nd hnd hz2⟩⟩
      rcases List.mem_append.mp hq with h | h
      · exact hw q h
      · rw [List.mem_singleton.mp h]; exact hz1
    · obtain ⟨qs, a6, hr2, rfl, hw, hnd⟩ := hJ
      have hr2 : 0 + qs.length ≤ n4 := hr2
      refine go_cons ?_
      refine gs_append C 1 rfl ?_
      refine Do.of (d := Hd.d ⟨x, qs, b⟩) (ev_tup (ea_cons (ev_nm C 3 rfl) (ea_cons (ev_tuple C 4 (er_own C 5 rfl rfl) rfl T.tuple) (ea_cons (ev_nm C 4 rfl) ea_nil)))) ⟨by rw [List.length_map]; omega, go_nil ⟨pl ++ [⟨x, qs, b⟩], _, _, _, _, _, by rw [List.length_append, List.length_singleton]; omega, fun z h => hz z (List.mem_cons_of_mem _ h), by rw [List.map_append]; rfl, ?_⟩⟩
      refine ⟨fun h hh => ?_, ?_, by rw [List.length_append, List.length_singleton]; omega⟩
      · rcases List.mem_append.mp hh with h1 | h1
        · exact hp.ok h h1
        · rw [List.mem_singleton.mp h1]
          exact ⟨hx, by show qs.length ≤ 3; omega, hw, hnd, fun hb => List.eq_nil_of_length_eq_zero (by have := hk0 hb; show qs.length = 0; omega)⟩
      · rw [List.map_append]
        exact snoc_nd hp.nd hxn
  · obtain ⟨pl, a2, a3, a4, a5, a6, hr, hz, rfl, hp⟩ := hJ
    exact go_cons (gs_kn 1 rfl rfl (gs_ret (Do.of (ev_nm C 1 rfl) ⟨⟨pl, rfl, hp⟩, rfl⟩)))
end
end Kn
/-! L6: uses and code. -/
namespace Kn
open PySem PySem.Spec PyProof.Rows L2
abbrev ArgF (E : En) : Prop := FnD E.P E.w E.K E.mg E.base "_law_argument" 3 (spP E.K pre_line fun _ d => ∃ x, d = .str x ∧ ArgOk x)
abbrev LineF (E : En) : Prop := FnD E.P E.w E.K E.mg E.base "_law_line" 3 (spP E.K pre_line fun _ d => ∃ x, d = .str x ∧ LineOk x)
def pre_use : List D → Prop := fun ds => ∃ (h : Hd) (ps : List Str), ds = [h.d, .tup (ps.map D.str)] ∧ h.Ok ∧ (∀ p ∈ ps, WordOk p) ∧ ps.length ≤ 3
def post_use : List D → D → Prop := fun ds d => ∃ (h : Hd) (n : Nat) (as : List Str), ds.head? = some h.d ∧ d = Ln.d (.use n h.name as) ∧ n ≤ 20 ∧ as.length = h.params.length ∧ ∀ a ∈ as, ArgOk a
abbrev UseF (E : En) : Prop := FnD E.P E.w E.K E.mg E.base "_law_use" 4 (spP E.K pre_use post_use)
theorem strs_of {α : Type} {Q : Str → Prop} {xs : List α} {zs : List D} (h : Paired (fun _ d => ∃ x, d = .str x ∧ Q x) xs zs) : ∃ ss : List Str, zs = ss.map D.str ∧ ss.length = xs.length ∧ ∀ s ∈ ss, Q s := by
  induction h with
  | nil => exact ⟨[], rfl, rfl, by simp⟩
  | cons f r ih =>
    obtain ⟨x, rfl, hq⟩ := f
    obtain ⟨ss, h1, h2, h3⟩ := ih
    refine ⟨x :: ss, by rw [h1]; rfl, by rw [List.length_cons, List.length_cons, h2], fun c hc => ?_⟩
    rcases List.mem_cons.mp hc with q | q
    · subst q; exact hq
    · exact h3 c q
theorem cut_map {α : Type} (f : α → D) (xs : List α) (l u : Option Int) : ∃ ys : List α, cutD (xs.map f) l u = ys.map f ∧ (∀ y ∈ ys, y ∈ xs) ∧ ys.length ≤ xs.length := by
  unfold cutD
  refine ⟨(xs.drop (HT.sIx (xs.map f).length 0 l)).take (HT.sIx (xs.map f).length (xs.map f).length u - HT.sIx (xs.map f).length 0 l), by rw [List.map_take, List.map_drop], fun y hy => List.mem_of_mem_drop (List.mem_of_mem_take hy), ?_⟩
  rw [List.length_take, List.length_drop]
  omega
section
variable {X : Cx} {E : En} {N G : List Str} {vb wb : List Bool} {sc : Scope} {k : Nat} {Δ Δ' : List Slot} {a b : Expr} {pos p py : Pos} {y : Str} {lp cp : Addr}
theorem do_argument {P : D → Prop} (C : Cz E N vb wb G sc k X) (i n : Nat) (F : ArgF E) (hpool : Δ[n]? = some (.own (.pool lp (.some cp)))) {ps : List Str} (ha : Ev X E a Δ (.tup (ps.map D.str))) (hw : ∀ q ∈ ps, WordOk q) (hl : ps.length ≤ 3) (hP : ∀ x, ArgOk x → P (.str x))
    (hv : vb[n]? = some true := by rfl) (hN : N[n]? = some y := by rfl) (hj : 3 ≤ k := by decide) (hG : G[i]? = some ("_law_argument" : Str) := by rfl) (he : starEach (.Name y py :: [a]) X.env = (false, eval (.Name y py) X.env) :: starEach [a] X.env := by rfl) (he2 : starEach [a] X.env = (false, eval a X.env) :: starEach [] X.env := by rfl) (hpl : (backTo pos (starEach [a] X.env)).any (·.1) = false := by rfl) :
    Do X E (.Call (.Name "_law_argument" p) [.Name y py, a] [] pos) Δ P :=
  do_call C i n F hpool (da_cons (Do.of ha (da_nil ⟨⟨ps, rfl, hw, hl⟩, fun d hd => by obtain ⟨x, rfl, hx⟩ := hd; exact hP x hx⟩)) he2) hv hN hj hG he hpl
theorem do_line {P : D → Prop} (C : Cz E N vb wb G sc k X) (i n : Nat) (F : LineF E) (hpool : Δ[n]? = some (.own (.pool lp (.some cp)))) {ps : List Str} (ha : Ev X E a Δ (.tup (ps.map D.str))) (hw : ∀ q ∈ ps, WordOk q) (hl : ps.length ≤ 3) (hP : ∀ x, LineOk x → P (.str x))
    (hv : vb[n]? = some true := by rfl) (hN : N[n]? = some y := by rfl) (hj : 3 ≤ k := by decide) (hG : G[i]? = some ("_law_line" : Str) := by rfl) (he : starEach (.Name y py :: [a]) X.env = (false, eval (.Name y py) X.env) :: starEach [a] X.env := by rfl) (he2 : starEach [a] X.env = (false, eval a X.env) :: starEach [] X.env := by rfl) (hpl : (backTo pos (starEach [a] X.env)).any (·.1) = false := by rfl) :
    Do X E (.Call (.Name "_law_line" p) [.Name y py, a] [] pos) Δ P :=
  do_call C i n F hpool (da_cons (Do.of ha (da_nil ⟨⟨ps, rfl, hw, hl⟩, fun d hd => by obtain ⟨x, rfl, hx⟩ := hd; exact hP x hx⟩)) he2) hv hN hj hG he hpl
theorem Hd.d_inj {h g : Hd} (e : h.d = g.d) : h = g := by
  obtain ⟨n1, p1, f1⟩ := h
  obtain ⟨n2, p2, f2⟩ := g
  injection e with e
  injection e with e1 e2
  injection e2 with e2 e3
  injection e3 with e3 _
  injection e1 with e1
  injection e2 with e2
  injection e3 with e3
  have e2 := (List.map_inj_right (fun x y e => D.str.inj e)).mp e2
  have e1 : n1 = n2 := e1
  have e2 : p1 = p2 := e2
  have e3 : f1 = f2 := e3
  rw [e1, e2, e3]
theorem do_use {P : D → Prop} (C : Cz E N vb wb G sc k X) (i n : Nat) (F : UseF E) (hpool : Δ[n]? = some (.own (.pool lp (.some cp)))) {ps : List Str} (ha : Do X E a Δ fun d => ∃ h : Hd, d = h.d ∧ h.Ok ∧ ∀ (n : Nat) as, n ≤ 20 → as.length = h.params.length → (∀ a ∈ as, ArgOk a) → P (Ln.d (.use n h.name as))) (hb : Ev X E b Δ (.tup (ps.map D.str))) (hw : ∀ q ∈ ps, WordOk q) (hl : ps.length ≤ 3)
    (hv : vb[n]? = some true := by rfl) (hN : N[n]? = some y := by rfl) (hj : 4 ≤ k := by decide) (hG : G[i]? = some ("_law_use" : Str) := by rfl) (he : starEach (.Name y py :: [a, b]) X.env = (false, eval (.Name y py) X.env) :: starEach [a, b] X.env := by rfl) (he2 : starEach [a, b] X.env = (false, eval a X.env) :: starEach [b] X.env := by rfl) (he3 : starEach [b] X.env = (false, eval b X.env) :: starEach [] X.env := by rfl) (hpl : (backTo pos (starEach [a, b] X.env)).any (·.1) = false := by rfl) :
    Do X E (.Call (.Name "_law_use" p) [.Name y py, a, b] [] pos) Δ P :=
  do_call C i n F hpool (da_cons (ha.mono fun d ⟨h, e, hok, hP⟩ => da_cons (Do.of hb (da_nil ⟨⟨h, ps, by rw [e], hok, hw, hl⟩, fun d2 hd => by
    obtain ⟨g, n, as, e2, rfl, hn, hl2, ha2⟩ := hd
    rw [e] at e2
    have : h.d = g.d := Option.some.inj e2
    have := Hd.d_inj this
    subst this
    exact hP n as hn hl2 ha2⟩)) he3) he2) hv hN hj hG he hpl
end
section
variable {P : Program} {w : World} {K : PySem.W.Frag} {mg : Str → Option Value} {base : Heap}
theorem ok_use (T : Tx mg) (A : At K mg "_law_use" s_l_use P_l_use) (F : FnD P w K mg base "_law_take" 2 (spP K pre_take post_take)) (F2 : ArgF ⟨P, w, K, mg, base, [], fun _ => none, fun _ => none⟩) : FnD P w K mg base "_law_use" 4 (spP K pre_use post_use) := by
  refine A.p sc_l_use dc_l_use (fun ds h => by obtain ⟨_, _, rfl, _⟩ := h; rfl) fun X B H l c ds C hR => ?_
  obtain ⟨h, ps, rfl, hh, hw, hl⟩ := hR
  show Go X _ _ [.own (.pool l (.some c)), .d h.d, .d (.tup (ps.map D.str)), .un, .un] _
  refine go_cons ?_
  refine gs_set C 3 ?_
  refine do_ix C (do_lst (da_cons (Do.of ev_int (da_cons (Do.of ev_int (da_cons (Do.of ev_int (da_cons (do_take C 0 0 F rfl (Do.of ev_int ⟨21, rfl, by decide, by decide, fun j hj => da_nil ⟨Nat.le_of_ble_eq_true rfl, do_take C 0 0 F rfl (Do.of ev_int ⟨4, rfl, by decide, by decide, fun i hi => ?_⟩)⟩⟩))))))))))
  have sz : ∃ n : Nat, atI ([D.int 0, .int 2, .int 4, .int (j : Nat)]) (i : Int) = some (.int (n : Nat)) ∧ n ≤ 20 := by
    match i, hi with
    | 0, _ => exact ⟨0, atI_nat rfl, by decide⟩
    | 1, _ => exact ⟨2, atI_nat rfl, by decide⟩
    | 2, _ => exact ⟨4, atI_nat rfl, by decide⟩
    | 3, _ => exact ⟨j, atI_nat rfl, by omega⟩
    | n + 4, h => omega
  obtain ⟨n, hn, hn2⟩ := sz
  refine ⟨_, _, .int (n : Nat), rfl, rfl, hn, ?_⟩
  show Go X _ _ [.own (.pool l (.some c)), .d h.d, .d (.tup (ps.map D.str)), .d (.int (n : Nat)), .un] _
  refine go_cons (gs_ret (do_tup ?_))
  refine da_cons (Do.of ev_str ?_)
  refine da_cons (Do.of (ev_nm C 3 rfl) ?_)
  refine da_cons (Do.of (ev_ix (d := .str h.name) C (ev_nm C 1 rfl).r ev_int rfl rfl) ?_)
  refine da_cons (do_tupleF C 1 (df_lcG C .no (bk_by (own := ow_l_use_0) (vb := bv_l_use_0) (wb := bw_l_use_0) (G := bg_l_use_0) (by decide +kernel)) (by exact ⟨trivial, trivial⟩) D.str (fun z => [.own (.pool l (.some c)), .d h.d, .d (.tup (ps.map D.str)), .d (.int (n : Nat)), .d (.str z)]) (fun _ => true) (fun _ d => ∃ x, d = .str x ∧ ArgOk x) ?_) T.tuple)
  refine di_tup C (Do.of (ev_ix (d := .tup (h.params.map D.str)) C (ev_nm C 1 rfl).r ev_int rfl rfl) ⟨h.params.map D.str, rfl, h.params, rfl, by have := hh.few; omega, fun z hz Y CY => ⟨bd_nm CY 4 rfl, rfl, fun _ => ?_⟩, fun zs hzs => ?_⟩)
  · exact do_argument CY 0 0 F2 rfl (ev_nm CY 2 rfl) hw hl fun x hx => ⟨x, rfl, hx⟩
  · rw [List.filter_eq_self.mpr (fun _ _ => rfl)] at hzs
    obtain ⟨as, rfl, h2, h3⟩ := strs_of hzs
    exact ⟨_, rfl, da_nil ⟨Nat.le_of_ble_eq_true rfl, ⟨h, n, as, rfl, rfl, hn2, h2, h3⟩, rfl⟩⟩
end
end Kn
/-! K23: a name set to a list comprehension. -/
namespace Kn
open PySem PySem.Spec PyProof.Rows L2
section
variable {X : Cx} {E : En} {N G G' : List Str} {vb wb vb' wb' : List Bool} {sc scope : Scope} {k : Nat} {Δ Δ' : List Slot} {tg iter elt : Expr} {pos p spos py : Pos} {own : List (Str × Nat)}
theorem lcG_inv {α : Type} {Z : List D → Prop} (C : Cz E N vb wb G sc k X) (f : Ifs) (bk : BkC N sc scope own vb' wb' G') (enc : α → D) (S : α → List Slot) (g : α → Bool) (R : α → D → Prop) (xs : List α) (hl : xs.length ≤ 1000000)
    (ht : ∀ x ∈ xs, ∀ Y, Cz E N vb' wb' G' (relS scope sc) k Y → Bd Y E tg (own.map (·.2)) (enc x) (wipeD Δ (own.map (·.2))) (fun Δ' => Δ' = S x) ∧ DoIf Y E f (S x) (fun b => b = g x) ∧ (g x = true → Do Y E elt (S x) (R x)))
    (hP : ∀ zs, Paired R (xs.filter g) zs → Z zs) : ∃ J : List D → List D → Prop, J (xs.map enc) [] ∧ LcT X E scope tg f elt (own.map (·.2)) Δ J ∧ ∀ acc, J [] acc → Z acc := by
  have app : ∀ {z : α} {l1 : List α} {l2 : List D} {d : D}, R z d → Paired R l1 l2 → Paired R (l1 ++ [z]) (l2 ++ [d]) := fun {z l1 l2 d} hd h => by
    induction h with
    | nil => exact .cons hd .nil
    | cons h _ ih => exact .cons h ih
  refine ⟨fun r acc => ∃ n : Nat, r = (xs.drop n).map enc ∧ n ≤ xs.length ∧ Paired R ((xs.take n).filter g) acc, ⟨0, rfl, Nat.zero_le _, .nil⟩, fun x r acc ⟨n, e1, e2, e3⟩ => ?_, fun acc ⟨n, e1, e2, e3⟩ => ?_⟩
  · by_cases hn : n < xs.length
    · rw [List.drop_eq_getElem_cons hn] at e1
      injection e1 with ex er
      subst ex er
      have hz : xs[n] ∈ xs := List.getElem_mem hn
      have tk : xs.take (n + 1) = xs.take n ++ [xs[n]] := by rw [List.take_succ, List.getElem?_eq_getElem hn]; rfl
      refine ⟨S xs[n], fun Y hY => (ht _ hz Y (C.blk bk hY)).1, fun Y hY => ?_⟩
      have h0 := (ht _ hz Y (C.blk bk hY)).2.1
      have yes : g xs[n] = true → ∀ Y, Blk X scope Y → Do Y E elt (S xs[n]) fun y => acc.length < 1000000 ∧ ∃ m : Nat, (xs.drop (n + 1)).map enc = (xs.drop m).map enc ∧ m ≤ xs.length ∧ Paired R ((xs.take m).filter g) (acc ++ [y]) := fun hg Y2 hY2 => ((ht _ hz Y2 (C.blk bk hY2)).2.2 hg).mono fun d hd => by
        refine ⟨?_, n + 1, rfl, hn, ?_⟩
        · have h1 := e3.length
          have h2 : ((xs.take n).filter g).length ≤ (xs.take n).length := List.length_filter_le _ _
          rw [List.length_take] at h2
          omega
        · rw [tk, List.filter_append, List.filter_cons_of_pos hg]; exact app hd e3
      have no : g xs[n] = false → ∃ m : Nat, (xs.drop (n + 1)).map enc = (xs.drop m).map enc ∧ m ≤ xs.length ∧ Paired R ((xs.take m).filter g) acc := fun hg => ⟨n + 1, rfl, hn, by rw [tk, List.filter_append, List.filter_cons_of_neg (by rw [hg]; decide)]; simpa using e3⟩
      cases f with
      | no => exact ⟨fun _ => yes (h0 : true = g xs[n]).symm, fun h => no (by rw [← (h0 : true = g xs[n])]; exact h)⟩
      | one c => exact h0.mono fun b hb => ⟨fun h => yes (hb ▸ h), fun h => no (hb ▸ h)⟩
    · rw [List.drop_eq_nil_of_le (by omega)] at e1; cases e1
  · have : n = xs.length := by
      refine Nat.le_antisymm e2 (Nat.le_of_not_lt fun h => ?_)
      rw [List.drop_eq_getElem_cons h] at e1; cases e1
    subst this
    rw [List.take_length] at e3
    exact hP acc e3
/-- name = [elt for tg in iter if c] -/
theorem gs_lcG {α : Type} {x : Str} {P : Ps} (C : Cz E N vb wb G sc k X) (i : Nat) (f : Ifs) (bk : BkC N sc scope own vb' wb' G') (no : noOwn Δ (own.map (·.2))) (enc : α → D) (S : α → List Slot) (g : α → Bool) (R : α → D → Prop)
    (hi : DoI X E tg iter Δ fun ds => ∃ xs : List α, ds = xs.map enc ∧ xs.length ≤ 1000000 ∧ (∀ x ∈ xs, ∀ Y, Cz E N vb' wb' G' (relS scope sc) k Y → Bd Y E tg (own.map (·.2)) (enc x) (wipeD Δ (own.map (·.2))) (fun Δ' => Δ' = S x) ∧ DoIf Y E f (S x) (fun b => b = g x) ∧ (g x = true → Do Y E elt (S x) (R x))) ∧
      ∀ zs, Paired R (xs.filter g) zs → P.nx (Δ.set i (.own (.lst zs))))
    (hN : N[i]? = some x := by rfl) (hsc : sc.names.lookup x = some .local := by rfl) (hk : sc.kind = .function := by rfl) (hline : (py.line == pos.line) = true := by rfl) (ha : (scope.names.any fun (n, k) => n == x && (k == .local || k == .cell)) = false := by first | rfl | decide +kernel)
    (hs : ∀ x, foldedSetIterable iter X.env x = pure x := by intro _; rfl) : GoS X E (.Assign [.Name x py] (.ListComp elt [⟨tg, iter, f.exs, 0⟩] scope pos) spos) Δ P :=
  gs_lc C i f bk.ok no (fun σ B H S0 Q q => hi σ B H S0 Q fun J B' H' ds x' S' wk ⟨xs, e, hl, ht, hP⟩ => q J B' H' ds x' S' wk (e ▸ lcG_inv C f bk enc S g R xs hl ht hP)) hN hsc hk hline ha hs
end
end Kn
/-! L7: code. -/
namespace Kn
open PySem PySem.Spec PyProof.Rows L2
def pre_code : List D → Prop := fun ds => ∃ (pl : List Hd) (k most : Nat), ds = [planD pl, .int k, .int most] ∧ PlanOk pl ∧ k < pl.length ∧ most ≤ 8
def post_code : List D → D → Prop := fun ds d => ∃ ls : List Ln, d = .lst (ls.map Ln.d) ∧ (∀ l ∈ ls, l.Ok) ∧ ls.length ≤ 8
section
variable {P : Program} {w : World} {K : PySem.W.Frag} {mg : Str → Option Value} {base : Heap}
theorem ok_code (T : Tx mg) (A : At K mg "_law_code" s_l_code P_l_code) (F : FnD P w K mg base "_law_take" 2 (spP K pre_take post_take)) (F2 : UseF ⟨P, w, K, mg, base, [], fun _ => none, fun _ => none⟩) (F3 : LineF ⟨P, w, K, mg, base, [], fun _ => none, fun _ => none⟩) : FnD P w K mg base "_law_code" 5 (spP K pre_code post_code) := by
  refine A.p sc_l_code dc_l_code (fun ds h => by obtain ⟨_, _, _, rfl, _⟩ := h; rfl) fun X B H l c ds C hR => ?_
  obtain ⟨pl, kk, most, rfl, hp, hk, hm⟩ := hR
  show Go X _ _ [.own (.pool l (.some c)), .d (.lst (pl.map Hd.d)), .d (.int kk), .d (.int most), .un, .un, .un, .un] _
  have hkk : pl[kk]? = some pl[kk] := List.getElem?_eq_getElem hk
  have hok : (pl[kk]).Ok := hp.ok _ (List.getElem_mem hk)
  generalize pl[kk] = h at hkk hok
  have hat : atI (pl.map Hd.d) (kk : Int) = some h.d := atI_nat (by rw [List.getElem?_map, hkk]; rfl)
  refine go_cons ?_
  refine gs_new C 4 (DoF.of (ef_lst ea_nil) ?_)
  refine go_cons ?_
  show GoS X _ _ [.own (.pool l (.some c)), .d (.lst (pl.map Hd.d)), .d (.int kk), .d (.int most), .own (.lst []), .un, .un, .un] _
  obtain ⟨cp, ecp, hcp, lcp⟩ := cut_map Hd.d pl (some ((kk : Int) + 1)) none
  have few := hp.few
  refine gs_lcG C 5 (.one _) (bk_by (own := ow_l_code_0) (vb := bv_l_code_0) (wb := bw_l_code_0) (G := bg_l_code_0) (by decide +kernel)) (by exact ⟨trivial, trivial⟩) Hd.d (fun z => [.own (.pool l (.some c)), .d (.lst (pl.map Hd.d)), .d (.int kk), .d (.int most), .own (.lst []), .un, .un, .d z.d]) (fun h => !h.file) (fun h d => d = h.d) (di_list C (Do.of (d := .lst (cp.map Hd.d)) (EvF.ld (ef_less 0 (ecp ▸ ef_slL (l := some ((kk : Int) + 1)) (u := none) C (ev_nm C 1 rfl).r (ev_add (ev_nm C 2 rfl) ev_int) trivial))) ⟨_, rfl, cp, rfl, by omega, fun z hz Y CY => ⟨bd_nm CY 7 rfl, DoT.of (et_not (et_val (ev_ix (d := .bl z.file) CY (ev_nm CY 7 rfl).r ev_int rfl rfl))) rfl, fun _ => Do.of (ev_nm CY 7 rfl) rfl⟩, fun zs hzs => ?_⟩))
  rw [paired_map hzs]
  have htg : ∀ g ∈ cp.filter (fun h => !h.file), g ∈ pl := fun g hg => hcp g (List.mem_filter.mp hg).1
  have ltg : (cp.filter fun h => !h.file).length ≤ 5 := by have := List.length_filter_le (fun h : Hd => !h.file) cp; omega
  generalize cp.filter (fun h => !h.file) = tg at htg ltg
  show Go X _ _ [.own (.pool l (.some c)), .d (.lst (pl.map Hd.d)), .d (.int kk), .d (.int most), .own (.lst []), .own (.lst (tg.map Hd.d)), .un, .un] _
  refine go_cons ?_
  refine gs_kn 5 rfl rfl ?_
  show GoS X _ _ [.own (.pool l (.some c)), .d (.lst (pl.map Hd.d)), .d (.int kk), .d (.int most), .own (.lst []), .d (.lst (tg.map Hd.d)), .un, .un] _
  refine gs_for C [6] (di_range C 0 (do_ix C (do_lst (da_cons (Do.of ev_int (da_cons (Do.of ev_int (da_cons (Do.of ev_int (da_cons (do_take C 1 0 F rfl (Do.of (ev_add (ev_nm C 3 rfl) ev_int) ⟨_, rfl, by omega, by omega, fun j hj => da_nil ⟨Nat.le_of_ble_eq_true rfl, do_take C 1 0 F rfl (Do.of ev_int ⟨4, rfl, by decide, by decide, fun i hi => ?_⟩)⟩⟩))))))))))) T.range)
  have sz : ∃ n : Nat, atI ([D.int 1, .int 2, .int 3, .int (j : Nat)]) (i : Int) = some (.int (n : Nat)) ∧ n ≤ 8 := by
    match i, hi with
    | 0, _ => exact ⟨1, atI_nat rfl, by decide⟩
    | 1, _ => exact ⟨2, atI_nat rfl, by decide⟩
    | 2, _ => exact ⟨3, atI_nat rfl, by decide⟩
    | 3, _ => exact ⟨j, atI_nat rfl, by omega⟩
    | n + 4, h => omega
  obtain ⟨n, hn, hn2⟩ := sz
  refine ⟨_, _, .int (n : Nat), rfl, rfl, hn, n, rfl, by omega, ?_⟩
  refine ⟨fun r Δ => ∃ (ls : List Ln) (a6 : Slot), r.length + ls.length ≤ 8 ∧ Δ = [.own (.pool l (.some c)), .d (.lst (pl.map Hd.d)), .d (.int kk), .d (.int most), .own (.lst (ls.map Ln.d)), .d (.lst (tg.map Hd.d)), a6, .un] ∧ ∀ l ∈ ls, l.Ok, ⟨[], _, by rw [upto_len]; exact hn2, rfl, fun z hz => (by cases hz)⟩, fun y r Δ2 hJ => ?_, fun Δ2 hJ => ?_⟩
  · obtain ⟨ls, a6, hr, rfl, hls⟩ := hJ
    rw [List.length_cons] at hr
    refine bd_nm C 6 ?_
    show Go X _ _ [.own (.pool l (.some c)), .d (.lst (pl.map Hd.d)), .d (.int kk), .d (.int most), .own (.lst (ls.map Ln.d)), .d (.lst (tg.map Hd.d)), .d y, .un] _
    have hlen : LenD (D.lst (tg.map Hd.d)) (tg.map Hd.d).length := .lst _
    have step : ∀ q : Ln, q.Ok → (ls.map Ln.d).length < 1000000 ∧ ∃ (ls2 : List Ln) (a6 : Slot), r.length + ls2.length ≤ 8 ∧ ([.own (.pool l (.some c)), .d (.lst (pl.map Hd.d)), .d (.int kk), .d (.int most), .own (.lst (ls.map Ln.d ++ [q.d])), .d (.lst (tg.map Hd.d)), .d y, .un] : List Slot) = [.own (.pool l (.some c)), .d (.lst (pl.map Hd.d)), .d (.int kk), .d (.int most), .own (.lst (ls2.map Ln.d)), .d (.lst (tg.map Hd.d)), a6, .un] ∧ ∀ l ∈ ls2, l.Ok := fun q hq => by
      refine ⟨by rw [List.length_map]; omega, ls ++ [q], _, by rw [List.length_append, List.length_singleton]; omega, by rw [List.map_append]; rfl, fun z hz => ?_⟩
      rcases List.mem_append.mp hz with h1 | h1
      · exact hls z h1
      · rw [List.mem_singleton.mp h1]; exact hq
    refine go_cons (gs_if (DoW.t ?_))
    refine dw_and (DoT.of (et_cmp co_gt (ev_len C 2 (ev_nm C 5 rfl).r hlen T.len).r ev_int.r) ⟨fun hb => ?_, fun _ => ⟨fun h => absurd h Bool.false_ne_true, fun _ => ?_⟩⟩)
    rotate_left
    · exact go_cons (gs_append C 4 rfl (do_tup (da_cons (Do.of ev_str (da_cons (do_line C 4 0 F3 rfl (ev_ix (d := .tup (h.params.map D.str)) C (ev_ix C (ev_nm C 1 rfl).r (ev_nm C 2 rfl) rfl hat).r ev_int rfl rfl) hok.all hok.few fun x hx => da_nil ⟨Nat.le_of_ble_eq_true rfl, (step (.plain x) hx).1, go_nil (go_nil (step (.plain x) hx).2)⟩)))) ))
    refine dw_and1 (dt_ltI (do_take C 1 0 F rfl (Do.of ev_int ⟨5, rfl, by decide, by decide, fun j2 hj2 => Do.of ev_int ⟨_, _, rfl, rfl, fun _ => ?_, fun _ => ?_⟩⟩)))
    rotate_left
    · exact go_cons (gs_append C 4 rfl (do_tup (da_cons (Do.of ev_str (da_cons (do_line C 4 0 F3 rfl (ev_ix (d := .tup (h.params.map D.str)) C (ev_ix C (ev_nm C 1 rfl).r (ev_nm C 2 rfl) rfl hat).r ev_int rfl rfl) hok.all hok.few fun x hx => da_nil ⟨Nat.le_of_ble_eq_true rfl, (step (.plain x) hx).1, go_nil (go_nil (step (.plain x) hx).2)⟩)))) ))
    have hpos : 0 < tg.length := by
      have := of_decide_eq_true hb
      rw [List.length_map] at this
      omega
    refine go_cons (gs_append C 4 rfl (do_use C 3 0 F2 rfl (do_ix C (Do.of (ev_nm C 5 rfl) (do_take C 1 0 F rfl (Do.of (ev_len C 2 (ev_nm C 5 rfl).r hlen T.len) ⟨_, rfl, by rw [List.length_map]; omega, by rw [List.length_map]; omega, fun j3 hj3 => ?_⟩)))) (ev_ix (d := .tup (h.params.map D.str)) C (ev_ix C (ev_nm C 1 rfl).r (ev_nm C 2 rfl) rfl hat).r ev_int rfl rfl) hok.all hok.few))
    rw [List.length_map] at hj3
    have hlt : j3 < tg.length := by omega
    have gok := hp.ok _ (htg _ (List.getElem_mem hlt))
    refine ⟨_, _, (tg[j3]).d, rfl, rfl, atI_nat (by rw [List.getElem?_map, List.getElem?_eq_getElem hlt]; rfl), tg[j3], rfl, gok, fun n as hn hl ha => ?_⟩
    have s := step (.use n (tg[j3]).name as) ⟨hn, gok.name, by have := gok.few; omega, ha⟩
    exact ⟨s.1, go_nil (go_nil s.2)⟩
  · obtain ⟨ls, a6, hr, rfl, hls⟩ := hJ
    have hr : 0 + ls.length ≤ 8 := hr
    exact go_cons (gs_kn 4 rfl rfl (gs_ret (Do.of (ev_nm C 4 rfl) ⟨⟨ls, rfl, hls, by omega⟩, rfl⟩)))
end
end Kn
/-! L8: webs drawn. -/
namespace Kn
open PySem PySem.Spec PyProof.Rows L2
theorem cut_to {α : Type} (f : α → D) (xs : List α) (n : Nat) : cutD (xs.map f) none (some (n : Int)) = (xs.take n).map f := by
  unfold cutD
  rw [HT.sIx_none, HT.sIx_nat]
  simp only [List.drop_zero, Nat.sub_zero, List.length_map]
  rw [← List.map_take]
  congr 1
  by_cases h : n ≤ xs.length
  · rw [Nat.min_eq_left h]
  · rw [Nat.min_eq_right (by omega), List.take_of_length_le (Nat.le_refl _), List.take_of_length_le (by omega)]
theorem cut_from {α : Type} (f : α → D) (xs : List α) (n : Nat) : cutD (xs.map f) (some (n : Int)) none = (xs.drop n).map f := by
  unfold cutD
  rw [HT.sIx_none, HT.sIx_nat]
  simp only [List.length_map]
  rw [← List.map_drop, ← List.map_take]
  congr 1
  by_cases h : n ≤ xs.length
  · rw [Nat.min_eq_left h, List.take_of_length_le (by rw [List.length_drop]; omega)]
  · rw [Nat.min_eq_right (by omega), List.drop_eq_nil_of_le (Nat.le_refl _), List.drop_eq_nil_of_le (by omega), List.take_nil]
section
variable {X : Cx} {E : En} {N G : List Str} {vb wb : List Bool} {sc : Scope} {k : Nat} {Δ Δ' : List Slot} {a b : Expr} {pos p py : Pos} {y : Str} {lp cp : Addr}
/-- tuple(a list that a call gives) -/
theorem do_tupleD {P : D → Prop} (C : Cz E N vb wb G sc k X) (i : Nat) (ha : Do X E a Δ fun w => ∃ xs : List D, w = .lst xs ∧ P (.tup xs)) (hm : E.mg "tuple" = none) (hG : G[i]? = some ("tuple" : Str) := by rfl) (he : starEach [a] X.env = (false, eval a X.env) :: starEach [] X.env := by rfl) : Do X E (.Call (.Name "tuple" p) [a] [] pos) Δ P := fun σ B H S Q q => by
  obtain ⟨h1, h2⟩ := C.gl i _ hG
  refine WE.of (pe_callTy call_tuple_of h1 (by rw [C.hm]; exact hm) boot_tuple (pa_cons (pe_W a) pa_nil he) (by decide) h2 he rfl) (ha σ B H S _ fun v B1 H1 d x1 S1 r1 ⟨xs, ew, hP⟩ => ?_)
  subst ew
  cases r1 with
  | lst hl rl => exact ⟨_, _, rfl, .inl ⟨SqL.of (S1.sub _ _ hl), fun m nm => q _ _ _ _ (x1.trans (.of (Pg.new S1.sub nm))) (S1.step (Pg.new S1.sub nm)) (.tup upd_same (rl.mono (Ex.new (S1.sub.free nm)))) hP⟩⟩
end
/-- a section of a web drawn for a plan -/
def SeP (pl : List Hd) (s : Se) : Prop := s.Ok ∧ ∀ h, s.head = some h → h ∈ pl
theorem web_ok {pl : List Hd} {ss : List Se} (hp : PlanOk pl) (h : ∀ s ∈ ss, SeP pl s) (hl : ss.length ≤ 12) : WebOk ss := by
  refine ⟨fun s hs => (h s hs).1, hl, fun s hs t ht x y hx hy e => ?_⟩
  have h1 := (h s hs).2 x hx
  have h2 := (h t ht).2 y hy
  have nd := hp.nd
  generalize pl = zs at h1 h2 nd
  induction zs with
  | nil => cases h1
  | cons z zs ih =>
    rw [List.map_cons, List.nodup_cons] at nd
    rcases List.mem_cons.mp h1 with e1 | m1
    · rcases List.mem_cons.mp h2 with e2 | m2
      · rw [e1, e2]
      · exact absurd (by rw [← e1, e]; exact List.mem_map_of_mem m2) nd.1
    · rcases List.mem_cons.mp h2 with e2 | m2
      · exact absurd (by rw [← e2, ← e]; exact List.mem_map_of_mem m1) nd.1
      · exact ih m1 m2 nd.2
end Kn
/-! L9: webs drawn. -/
namespace Kn
open PySem PySem.Spec PyProof.Rows L2
def pre_lweb : List D → Prop := fun ds => ∃ (pl : List Hd) (most : Nat), ds = [planD pl, .int most] ∧ PlanOk pl ∧ most ≤ 8
def post_lweb : List D → D → Prop := fun ds d => ∃ ss : List Se, d = webD ss ∧ WebOk ss ∧ ∀ pl : List Hd, ds.head? = some (planD pl) → ∀ s ∈ ss, SeP pl s
theorem plan_inj {p q : List Hd} (e : planD p = planD q) : p = q := by
  injection e with e
  exact (List.map_inj_right (fun x y e => Hd.d_inj e)).mp e
section
variable {P : Program} {w : World} {K : PySem.W.Frag} {mg : Str → Option Value} {base : Heap}
theorem ok_web (T : Tx mg) (A : At K mg "_law_web" s_l_web P_l_web) (F : FnD P w K mg base "_law_take" 2 (spP K pre_take post_take)) (F2 : FnD P w K mg base "_law_code" 5 (spP K pre_code post_code)) (F3 : LineF ⟨P, w, K, mg, base, [], fun _ => none, fun _ => none⟩) : FnD P w K mg base "_law_web" 6 (spP K pre_lweb post_lweb) := by
  refine A.p sc_l_web dc_l_web (fun ds h => by obtain ⟨_, _, rfl, _⟩ := h; rfl) fun X B H l c ds C hR => ?_
  obtain ⟨pl, most, rfl, hp, hm⟩ := hR
  have few := hp.few
  show Go X _ _ [.own (.pool l (.some c)), .d (.lst (pl.map Hd.d)), .d (.int most), .un, .un, .un, .un, .un, .un, .un] _
  have fin : ∀ ss : List Se, (∀ s ∈ ss, SeP pl s) → ss.length ≤ 12 → post_lweb [planD pl, .int most] (webD ss) := fun ss h hl => ⟨ss, rfl, web_ok hp h hl, fun pl2 e => by
    have := plan_inj (Option.some.inj e)
    rw [← this]; exact h⟩
  have hlp : LenD (D.lst (pl.map Hd.d)) (pl.map Hd.d).length := .lst _
  have e1 : pl.map Hd.d = pl.map Hd.d := rfl
  refine go_cons ?_
  refine gs_new C 3 (DoF.of (ef_lst ea_nil) ?_)
  refine go_cons ?_
  refine gs_via (fun Δ' => ∃ (ss : List Se) (a4 a5 a6 a7 a8 : Slot), ss.length ≤ 10 ∧ (∀ s ∈ ss, SeP pl s) ∧ Δ' = [.own (.pool l (.some c)), .d (.lst (pl.map Hd.d)), .d (.int most), .own (.lst (ss.map Se.d)), a4, a5, a6, a7, a8, .un]) (gs_for C [4] (di_range C 0 (Do.of (ev_len C 1 (ev_nm C 1 rfl).r hlp T.len) ⟨pl.length, by rw [List.length_map], by omega, ?_⟩) T.range)) ?_
  · refine ⟨fun r Δ => ∃ (ss : List Se) (a4 a5 a6 a7 a8 : Slot), 2 * r.length + ss.length ≤ 10 ∧ (∀ z ∈ r, ∃ m : Nat, z = .int (m : Nat) ∧ m < pl.length) ∧ (∀ s ∈ ss, SeP pl s) ∧ Δ = [.own (.pool l (.some c)), .d (.lst (pl.map Hd.d)), .d (.int most), .own (.lst (ss.map Se.d)), a4, a5, a6, a7, a8, .un], ⟨[], _, _, _, _, _, by rw [upto_len]; show 2 * pl.length + 0 ≤ 10; omega, fun z hz => ?_, fun s hs => (by cases hs), rfl⟩, fun y r Δ2 hJ => ?_, fun Δ2 hJ => ?_⟩
    · obtain ⟨m, e, hm2⟩ := upto_nat (lo := 0) hz
      exact ⟨m, e, by omega⟩
    · obtain ⟨ss, a4, a5, a6, a7, a8, hr, hz, hss, rfl⟩ := hJ
      rw [List.length_cons] at hr
      obtain ⟨kk, rfl, hk⟩ := hz y List.mem_cons_self
      refine bd_nm C 4 ?_
      refine go_less 5 (go_less 6 (go_less 7 (go_less 8 ?_)))
      show Go X _ _ [.own (.pool l (.some c)), .d (.lst (pl.map Hd.d)), .d (.int most), .own (.lst (ss.map Se.d)), .d (.int kk), .un, .un, .un, .un, .un] _
      have hkk : pl[kk]? = some pl[kk] := List.getElem?_eq_getElem hk
      have hmem : pl[kk] ∈ pl := List.getElem_mem hk
      generalize pl[kk] = h at hkk hmem
      have hok : h.Ok := hp.ok _ hmem
      have hat : atI (pl.map Hd.d) (kk : Int) = some h.d := atI_nat (by rw [List.getElem?_map, hkk]; rfl)
      refine go_cons ?_
      refine gs_for C [5] (di_range C 0 (do_add (Do.of ev_int (do_intB C 2 (de_eqI (do_take C 3 0 F rfl (Do.of ev_int ⟨3, rfl, by decide, by decide, fun j hj => Do.of ev_int ⟨_, _, rfl, rfl, _, rfl, 1, _, rfl, rfl, ?_⟩⟩))) T.int))) T.range)
      have two : ∃ n : Nat, (D.int (1 + (if decide ((j : Int) = 0) then 1 else 0)) : D) = .int (n : Nat) ∧ n ≤ 2 := by
        by_cases q : (j : Int) = 0
        · rw [decide_eq_true q]; exact ⟨2, rfl, by decide⟩
        · rw [decide_eq_false q]; exact ⟨1, rfl, by decide⟩
      obtain ⟨n, en, hn⟩ := two
      refine ⟨n, en, by omega, ?_⟩
      refine ⟨fun r2 Δ => ∃ (ss : List Se) (a5 a6 a7 a8 : Slot), r2.length + 2 * r.length + ss.length ≤ 10 ∧ (∀ s ∈ ss, SeP pl s) ∧ Δ = [.own (.pool l (.some c)), .d (.lst (pl.map Hd.d)), .d (.int most), .own (.lst (ss.map Se.d)), .d (.int kk), a5, a6, a7, a8, .un], ⟨ss, _, _, _, _, by rw [upto_len]; omega, hss, rfl⟩, fun y r2 Δ3 hJ => ?_, fun Δ3 hJ => ?_⟩
      · obtain ⟨ss, a5, a6, a7, a8, hr2, hss, rfl⟩ := hJ
        rw [List.length_cons] at hr2
        refine bd_nm C 5 ?_
        refine go_less 6 (go_less 7 (go_less 8 ?_))
        show Go X _ _ [.own (.pool l (.some c)), .d (.lst (pl.map Hd.d)), .d (.int most), .own (.lst (ss.map Se.d)), .d (.int kk), .d y, .un, .un, .un, .un] _
        refine go_cons ?_
        refine gs_set C 6 ?_
        refine do_tupleF C 4 (df_lcG C .no (bk_by (own := ow_l_web_0) (vb := bv_l_web_0) (wb := bw_l_web_0) (G := bg_l_web_0) (by decide +kernel)) (by exact ⟨trivial, trivial⟩) (fun z : D => z) (fun z => [.own (.pool l (.some c)), .d (.lst (pl.map Hd.d)), .d (.int most), .own (.lst (ss.map Se.d)), .d (.int kk), .d y, .un, .un, .un, .d z]) (fun _ => true) (fun _ d => ∃ x, d = .str x ∧ LineOk x) (di_range C 0 (do_ix C (do_lst (da_cons (Do.of ev_int (da_cons (Do.of ev_int (da_cons (do_take C 3 0 F rfl (Do.of ev_int ⟨7, rfl, by decide, by decide, fun j hj => da_nil ⟨Nat.le_of_ble_eq_true rfl, do_take C 3 0 F rfl (Do.of ev_int ⟨3, rfl, by decide, by decide, fun i hi => ?_⟩)⟩⟩))))))))) T.range)) T.tuple
        have sz : ∃ n : Nat, atI ([D.int 0, .int 1, .int (j : Nat)]) (i : Int) = some (.int (n : Nat)) ∧ n ≤ 8 := by
          match i, hi with
          | 0, _ => exact ⟨0, atI_nat rfl, by decide⟩
          | 1, _ => exact ⟨1, atI_nat rfl, by decide⟩
          | 2, _ => exact ⟨j, atI_nat rfl, by omega⟩
          | n + 3, h => omega
        obtain ⟨m, hm1, hm2⟩ := sz
        refine ⟨_, _, .int (m : Nat), rfl, rfl, hm1, m, rfl, by omega, upto 0 m, by simp, by rw [upto_len]; omega, fun z hz Y CY => ⟨bd_nm CY 9 rfl, rfl, fun _ => do_line CY 0 0 F3 rfl (ps := []) (ev_tup ea_nil) (fun q hq => by cases hq) (Nat.zero_le _) fun x hx => ⟨x, rfl, hx⟩⟩, fun zs hzs => ?_⟩
        rw [List.filter_eq_self.mpr (fun _ _ => rfl)] at hzs
        obtain ⟨pr, rfl, h2, h3⟩ := strs_of hzs
        rw [upto_len] at h2
        refine ⟨_, rfl, ?_⟩
        show Go X _ _ [.own (.pool l (.some c)), .d (.lst (pl.map Hd.d)), .d (.int most), .own (.lst (ss.map Se.d)), .d (.int kk), .d y, .d (.tup (pr.map D.str)), .un, .un, .un] _
        refine go_cons ?_
        refine gs_set C 7 ?_
        refine do_tup ?_
        refine da_cons (Do.of (ev_nm C 6 rfl) ?_)
        refine da_cons (Do.of (ev_ix (d := h.d) C (ev_nm C 1 rfl).r (ev_nm C 4 rfl) rfl hat) ?_)
        refine da_cons (do_tupleD C 4 (do_call C 5 0 F2 rfl (DoA.of (ea_cons (ev_nm C 1 rfl) (ea_cons (ev_nm C 4 rfl) (ea_cons (ev_nm C 2 rfl) ea_nil))) ⟨⟨pl, kk, most, rfl, hp, hk, hm⟩, fun d hd => ?_⟩)) T.tuple)
        obtain ⟨ls, rfl, hls, hl8⟩ := hd
        refine ⟨_, rfl, da_nil ⟨Nat.le_of_ble_eq_true rfl, ?_⟩⟩
        have sok : SeP pl ⟨pr, some h, ls⟩ := ⟨⟨h3, by show pr.length ≤ 8; omega, fun g e => by cases e; exact hok, hls, hl8, fun e => by cases e⟩, fun g e => by cases e; exact hmem⟩
        show Go X _ _ [.own (.pool l (.some c)), .d (.lst (pl.map Hd.d)), .d (.int most), .own (.lst (ss.map Se.d)), .d (.int kk), .d y, .d (.tup (pr.map D.str)), .d (Se.d ⟨pr, some h, ls⟩), .un, .un] _
        generalize (⟨pr, some h, ls⟩ : Se) = sec at sok
        refine go_cons ?_
        refine gs_set C 8 ?_
        refine do_take C 3 0 F rfl (Do.of (ev_add (ev_len C 1 (er_own C 3 rfl rfl) (.lst (ss.map Se.d)) T.len) ev_int) ⟨_, rfl, by omega, by rw [List.length_map]; omega, fun a ha => ?_⟩)
        show Go X _ _ [.own (.pool l (.some c)), .d (.lst (pl.map Hd.d)), .d (.int most), .own (.lst (ss.map Se.d)), .d (.int kk), .d y, .d (.tup (pr.map D.str)), .d sec.d, .d (.int (a : Nat)), .un] _
        have e3 : cutD (ss.map Se.d) none (some (a : Int)) ++ [sec.d] ++ cutD (ss.map Se.d) (some (a : Int)) none = (ss.take a ++ [sec] ++ ss.drop a).map Se.d := by
          rw [cut_to, cut_from, List.map_append, List.map_append]; rfl
        have l3 : (ss.take a ++ [sec] ++ ss.drop a).length = ss.length + 1 := by
          rw [List.length_append, List.length_append, List.length_take, List.length_drop, List.length_singleton]; omega
        have l4 : ((ss.take a ++ [sec] ++ ss.drop a).map Se.d).length ≤ 1000000 := by rw [List.length_map, l3]; omega
        rw [← e3] at l4
        have l5 : (cutD (ss.map Se.d) none (some (a : Int)) ++ [sec.d]).length + (cutD (ss.map Se.d) (some (a : Int)) none).length ≤ 1000000 := by rw [← List.length_append]; exact l4
        have l6 : (cutD (ss.map Se.d) none (some (a : Int))).length + [sec.d].length ≤ 1000000 := by rw [← List.length_append]; omega
        refine go_cons ?_
        refine gs_new C 3 (DoF.of (o := .lst ((ss.take a ++ [sec] ++ ss.drop a).map Se.d)) (ef_less 0 (e3 ▸ ef_cat (EvF.lr (ef_cat (EvF.lr (ef_slL (l := none) (u := some (a : Int)) C (er_own C 3 rfl rfl) trivial (ev_nm C 8 rfl))) (EvF.lr (ef_lst (ea_cons (ev_nm C 7 rfl) ea_nil))) l6)) (EvF.lr (ef_slL (l := some (a : Int)) (u := none) C (er_own C 3 rfl rfl) (ev_nm C 8 rfl) trivial)) l5)) (go_nil ?_))
        refine ⟨ss.take a ++ [sec] ++ ss.drop a, _, _, _, _, by rw [l3]; omega, fun z hz => ?_, rfl⟩
        rcases List.mem_append.mp hz with q | q
        · rcases List.mem_append.mp q with q | q
          · exact hss z (List.mem_of_mem_take q)
          · rw [List.mem_singleton.mp q]; exact sok
        · exact hss z (List.mem_of_mem_drop q)
      · obtain ⟨ss, a5, a6, a7, a8, hr2, hss, rfl⟩ := hJ
        exact go_nil ⟨ss, _, _, _, _, _, by have : 0 + 2 * r.length + ss.length ≤ 10 := hr2; omega, fun z h => hz z (List.mem_cons_of_mem _ h), hss, rfl⟩
    · obtain ⟨ss, a4, a5, a6, a7, a8, hr, hz, hss, rfl⟩ := hJ
      exact ⟨ss, _, _, _, _, _, by have : 2 * 0 + ss.length ≤ 10 := hr; omega, hss, rfl⟩
  rintro _ ⟨ss, a4, a5, a6, a7, a8, hl10, hss, rfl⟩
  refine go_less 4 (go_less 5 (go_less 6 (go_less 7 (go_less 8 ?_))))
  show Go X _ _ [.own (.pool l (.some c)), .d (.lst (pl.map Hd.d)), .d (.int most), .own (.lst (ss.map Se.d)), .un, .un, .un, .un, .un, .un] _
  refine go_cons (gs_via (fun Δ' => ∃ (ss : List Se) (a6 a8 : Slot), ss.length ≤ 11 ∧ (∀ s ∈ ss, SeP pl s) ∧ Δ' = [.own (.pool l (.some c)), .d (.lst (pl.map Hd.d)), .d (.int most), .own (.lst (ss.map Se.d)), .un, .un, a6, .un, a8, .un]) (gs_if (DoW.t ?_)) ?_)
  · have none' : ∃ (ss2 : List Se) (a6 a8 : Slot), ss2.length ≤ 11 ∧ (∀ s ∈ ss2, SeP pl s) ∧ ([.own (.pool l (.some c)), .d (.lst (pl.map Hd.d)), .d (.int most), .own (.lst (ss.map Se.d)), .un, .un, .un, .un, .un, .un] : List Slot) = [.own (.pool l (.some c)), .d (.lst (pl.map Hd.d)), .d (.int most), .own (.lst (ss2.map Se.d)), .un, .un, a6, .un, a8, .un] := ⟨ss, _, _, by omega, hss, rfl⟩
    refine dw_and (DoT.of (et_cmp co_lt (ev_len C 1 (er_own C 3 rfl rfl) (.lst (ss.map Se.d)) T.len).r ev_int.r) ⟨fun hb => ?_, fun _ => ⟨fun h => absurd h Bool.false_ne_true, fun _ => go_nil none'⟩⟩)
    refine dw_and1 (dt_eqI (do_take C 3 0 F rfl (Do.of ev_int ⟨2, rfl, by decide, by decide, fun j2 hj2 => Do.of ev_int ⟨_, _, rfl, rfl, fun _ => ?_, fun _ => go_nil none'⟩⟩)))
    refine go_cons ?_
    refine gs_set C 6 ?_
    refine do_tupleF C 4 (df_lcG C .no (bk_by (own := ow_l_web_1) (vb := bv_l_web_1) (wb := bw_l_web_1) (G := bg_l_web_1) (by decide +kernel)) (by exact ⟨trivial, trivial⟩) (fun z : D => z) (fun z => [.own (.pool l (.some c)), .d (.lst (pl.map Hd.d)), .d (.int most), .own (.lst (ss.map Se.d)), .un, .un, .un, .un, .un, .d z]) (fun _ => true) (fun _ d => ∃ x, d = .str x ∧ LineOk x) (di_range C 0 (do_take C 3 0 F rfl (Do.of ev_int ⟨3, rfl, by decide, by decide, fun m hm => ⟨m, rfl, by omega, upto 0 m, by simp, by rw [upto_len]; omega, fun z hz Y CY => ⟨bd_nm CY 9 rfl, rfl, fun _ => do_line CY 0 0 F3 rfl (ps := []) (ev_tup ea_nil) (fun q hq => by cases hq) (Nat.zero_le _) fun x hx => ⟨x, rfl, hx⟩⟩, fun zs hzs => ?_⟩⟩)) T.range)) T.tuple
    rw [List.filter_eq_self.mpr (fun _ _ => rfl)] at hzs
    obtain ⟨pr, rfl, h2, h3⟩ := strs_of hzs
    rw [upto_len] at h2
    refine ⟨_, rfl, ?_⟩
    have sok : SeP pl ⟨pr, none, []⟩ := ⟨⟨h3, by show pr.length ≤ 8; omega, fun g e => (by cases e), fun l hl => (by cases hl), Nat.zero_le _, fun _ => rfl⟩, fun g e => (by cases e)⟩
    show Go X _ _ [.own (.pool l (.some c)), .d (.lst (pl.map Hd.d)), .d (.int most), .own (.lst (ss.map Se.d)), .un, .un, .d (.tup (pr.map D.str)), .un, .un, .un] _
    refine go_cons ?_
    refine gs_set C 8 ?_
    refine do_take C 3 0 F rfl (Do.of (ev_add (ev_len C 1 (er_own C 3 rfl rfl) (.lst (ss.map Se.d)) T.len) ev_int) ⟨_, rfl, by omega, by rw [List.length_map]; omega, fun a ha => ?_⟩)
    show Go X _ _ [.own (.pool l (.some c)), .d (.lst (pl.map Hd.d)), .d (.int most), .own (.lst (ss.map Se.d)), .un, .un, .d (.tup (pr.map D.str)), .un, .d (.int (a : Nat)), .un] _
    have e4 : (Se.mk pr none []).d = .tup [.tup (pr.map D.str), .non, .tup []] := rfl
    have e3 : cutD (ss.map Se.d) none (some (a : Int)) ++ [D.tup [.tup (pr.map D.str), .non, .tup []]] ++ cutD (ss.map Se.d) (some (a : Int)) none = (ss.take a ++ [Se.mk pr none []] ++ ss.drop a).map Se.d := by
      rw [cut_to, cut_from, List.map_append, List.map_append]; rfl
    have l3 : (ss.take a ++ [Se.mk pr none []] ++ ss.drop a).length = ss.length + 1 := by
      rw [List.length_append, List.length_append, List.length_take, List.length_drop, List.length_singleton]; omega
    have l4 : ((ss.take a ++ [Se.mk pr none []] ++ ss.drop a).map Se.d).length ≤ 1000000 := by rw [List.length_map, l3]; omega
    rw [← e3] at l4
    have l5 : (cutD (ss.map Se.d) none (some (a : Int)) ++ [D.tup [.tup (pr.map D.str), .non, .tup []]]).length + (cutD (ss.map Se.d) (some (a : Int)) none).length ≤ 1000000 := by rw [← List.length_append]; exact l4
    have l6 : (cutD (ss.map Se.d) none (some (a : Int))).length + ([.tup [.tup (pr.map D.str), .non, .tup []]] : List D).length ≤ 1000000 := by rw [← List.length_append]; omega
    refine go_cons ?_
    refine gs_new C 3 (DoF.of (o := .lst ((ss.take a ++ [Se.mk pr none []] ++ ss.drop a).map Se.d)) (ef_less 0 (e3 ▸ ef_cat (EvF.lr (ef_cat (EvF.lr (ef_slL (l := none) (u := some (a : Int)) C (er_own C 3 rfl rfl) trivial (ev_nm C 8 rfl))) (EvF.lr (ef_lst (ea_cons (ev_tup (ea_cons (ev_nm C 6 rfl) (ea_cons ev_non (ea_cons (ev_tup ea_nil) ea_nil)))) ea_nil))) l6)) (EvF.lr (ef_slL (l := some (a : Int)) (u := none) C (er_own C 3 rfl rfl) (ev_nm C 8 rfl) trivial)) l5)) (go_nil ?_))
    refine ⟨ss.take a ++ [Se.mk pr none []] ++ ss.drop a, _, _, by rw [l3]; omega, fun z hz => ?_, rfl⟩
    rcases List.mem_append.mp hz with q | q
    · rcases List.mem_append.mp q with q | q
      · exact hss z (List.mem_of_mem_take q)
      · rw [List.mem_singleton.mp q]; exact sok
    · exact hss z (List.mem_of_mem_drop q)
  · rintro _ ⟨ss, a6, a8, hl11, hss, rfl⟩
    exact go_cons (gs_ret (Do.of (ev_tuple C 4 (er_own C 3 rfl rfl) rfl T.tuple) ⟨fin ss hss (by omega), rfl⟩))
end
end Kn
/-! L10: a web made anew; names. -/
namespace Kn
open PySem PySem.Spec PyProof.Rows L2
section
variable {P : Program} {w : World} {K : PySem.W.Frag} {mg : Str → Option Value} {base : Heap}
theorem ok_anew (T : Tx mg) (A : At K mg "_law_anew" s_l_anew P_l_anew) : FnD P w K mg base "_law_anew" 1 (spR K fun ds d => ∃ ss : List Se, ds = [webD ss] ∧ ss.length ≤ 1000 ∧ d = webD ss) := by
  refine A.r sc_l_anew dc_l_anew (fun ds d h => by obtain ⟨_, rfl, _⟩ := h; rfl) fun X B H ds d C hR => ?_
  obtain ⟨ss, rfl, hl, rfl⟩ := hR
  show Go X _ _ [.d (.tup (ss.map Se.d)), .un] _
  have e0 : ((ss.filter fun _ => true).map Se.d) = ss.map Se.d := by rw [List.filter_eq_self.mpr (fun _ _ => rfl)]
  refine go_cons (gs_ret (Do.of (Ev.is (ev_tuple (d1 := .lst ((ss.filter fun _ => true).map Se.d)) C 0 (EvF.lr (ef_lcG C .no (bk_by (own := ow_l_anew_0) (vb := bv_l_anew_0) (wb := bw_l_anew_0) (G := bg_l_anew_0) (by decide +kernel)) (by exact ⟨trivial, trivial⟩) (by trivial) Se.d (fun z => [.d (.tup (ss.map Se.d)), .d z.d]) (fun _ => true) Se.d ss (di_tupE C (ev_nm C 0 rfl)) (by omega) (fun z hz Y CY => ⟨bd_nm CY 1 rfl, rfl, fun _ => ?_⟩))) rfl T.tuple) (congrArg D.tup e0)) rfl))
  refine ev_tup (ea_cons ?_ (ea_cons ?_ (ea_cons ?_ ea_nil)))
  · exact ev_tuple CY 0 (EvF.lr (ef_list CY 1 (ev_ix (d := .tup (z.prose.map D.str)) CY (ev_nm CY 1 rfl).r ev_int rfl rfl).r rfl T.list)) rfl T.tuple
  · exact ev_ix (d := hdD z.head) CY (ev_nm CY 1 rfl).r ev_int rfl rfl
  · exact ev_tuple CY 0 (EvF.lr (ef_list CY 1 (ev_ix (d := .tup (z.code.map Ln.d)) CY (ev_nm CY 1 rfl).r ev_int rfl rfl).r rfl T.list)) rfl T.tuple
end
end Kn
/-! P7: pieces: a dict of lists that a loop fills. -/
namespace Kn
open PySem PySem.Spec PyProof.Rows L2
/-- a loop told over heaps -/
theorem ws_for {X : Cx} {E : En} {N G : List Str} {vb wb : List Bool} {sc : Scope} {k : Nat} {Δ : List Slot} {tg iter : Expr} {body : List Stmt} {pos : Pos} {ds : List D} {σ : L2.St} {B H : Hp} {D0 : Ends} (C : Cz E N vb wb G sc k X) (S : Sees E Δ σ B H) (hi : DoI X E tg iter Δ fun ds' => ds' = ds)
    (J : Nat → L2.St → Hp → Hp → Prop) (j0 : ∀ B1 H1, Pp Δ σ B H B1 H1 → Sees E Δ σ B1 H1 → J 0 σ B1 H1) (jsub : ∀ i σ2 B2 H2, J i σ2 B2 H2 → Ex B2 H2) (jpg : ∀ i σ2 B2 H2 B3 H3, J i σ2 B2 H2 → Pg B2 H2 B3 H3 → J i σ2 B3 H3)
    (jt : ∀ i d σ2 B2 H2 v, ds[i]? = some d → J i σ2 B2 H2 → Dn E.K B2 v d → σ2.length = X.N.length → WG X tg v σ2 H2 fun σ3 H3 => WSs X body ⟨fun σ4 H4 => ∃ B4, Ex B2 B4 ∧ J (i + 1) σ4 B4 H4, D0.rt, D0.nx, fun σ4 H4 => ∃ B4, Ex B2 B4 ∧ J (i + 1) σ4 B4 H4⟩ σ3 H3)
    (jd : ∀ σ2 B2 H2, Ex B B2 → J ds.length σ2 B2 H2 → D0.nx σ2 H2) (hs : ∀ x, foldedSetIterable iter X.env x = pure x := by intro _; rfl) : WS X (.For tg iter body [] pos) D0 σ H := by
  refine WS.of (ps_for C.pass C.calm (pi_W tg iter) (pg_W tg) (pss_W body) hs) (hi σ B H S _ fun I B1 H1 ds' x1' S1 wk e => ?_)
  subst e
  refine ⟨fun i m σ' H' => ∃ B', i ≤ ds'.length ∧ m = ds'.length - i ∧ Ex B1 B' ∧ J i σ' B' H', ⟨ds'.length, B1, Nat.zero_le _, rfl, Ex.refl B1, j0 B1 H1 x1' S1⟩, ?_⟩
  rintro i m σ2 H2 ⟨B2, hle, rfl, x2, j2⟩
  by_cases hlt : i < ds'.length
  · refine .inr ⟨wk.goes i B2 H2 hlt x2 (jsub _ _ _ _ j2), fun σ' H' => ∃ B', Ex B1 B' ∧ J (i + 1) σ' B' H', fun σ' H' ⟨B', x', j'⟩ => ⟨ds'.length - (i + 1), by omega, B', hlt, rfl, x', j'⟩, fun v H3 y => ?_⟩
    obtain ⟨B3, d, pg, hd, rd⟩ := wk.yields i B2 H2 v H3 hlt x2 (jsub _ _ _ _ j2) y
    refine WG.len fun hl => ?_
    intro pins s u I rv
    refine thn (jt i d σ2 B3 H3 v hd (jpg _ _ _ _ _ _ j2 pg) rd hl pins s u I rv) fun _ s' ⟨σ4, H4, I4, q⟩ => ⟨σ4, H4, I4, fun pins2 s2 I2 => ?_⟩
    have x3 := x2.trans pg.eb
    refine thn (q pins2 s2 I2) fun fl s3 h => ?_
    cases fl with
    | next => obtain ⟨σ5, H5, I5, B4, x4, j4⟩ := h; exact ⟨σ5, H5, I5, B4, x3.trans x4, j4⟩
    | brk => exact h
    | cont => obtain ⟨σ5, H5, I5, B4, x4, j4⟩ := h; exact ⟨σ5, H5, I5, B4, x3.trans x4, j4⟩
    | ret v => exact h
  · have e : i = ds'.length := by omega
    subst e
    exact .inl ⟨wk.stops B2 H2 x2 (jsub _ _ _ _ j2), jd σ2 B2 H2 (x1'.eb.trans x2) j2⟩
/-- more is told of what no one owns -/
theorem Sees.more {E : En} {Δ : List Slot} {σ : L2.St} {B H B' : Hp} (S : Sees E Δ σ B H) (ex : Ex B B') (sub : Ex B' H) (new : ∀ a, B a = none → B' a ≠ none → E.H a = none ∧ ∀ (i : Nat) (o : O), Δ[i]? = some (Slot.own o) → σ[i]? ≠ some (some (V.ref a))) : Sees E Δ σ B' H := by
  refine ⟨sub, ⟨S.rn.eb.trans ex, S.rn.eh, S.rn.th, fun a q n => ?_⟩, fun i s hs => ?_, S.ap⟩
  · cases h : B' a with
    | none => rfl
    | some u => exact absurd (new a (S.rn.fr a q n) (by rw [h]; simp)).1 q
  · have q := S.sl i s hs
    cases s with
    | un => trivial
    | d y => obtain ⟨v, e, r⟩ := q; exact ⟨v, e, r.mono ex⟩
    | own o =>
      obtain ⟨l, e, n, m, r⟩ := q
      refine ⟨l, e, ?_, m, r.mono ex rfl⟩
      cases h : B' l with
      | none => rfl
      | some u => exact absurd e ((new l n (by rw [h]; simp)).2 i o hs)
/-- what no one is told may change -/
theorem Sees.out {E : En} {Δ : List Slot} {σ : L2.St} {B H : Hp} {a : Addr} {u : HO} (S : Sees E Δ σ B H) (no : ∀ (i : Nat) (o : O), Δ[i]? ≠ some (Slot.own o)) (hB : B a = none) (hE : E.H a = none) : Sees E Δ σ B (upd H a u) := by
  refine ⟨S.sub.put hB, ⟨S.rn.eb, fun b x n q => ?_, fun b q => ?_, S.rn.fr⟩, fun i s hs => ?_, S.ap⟩
  · have na : b ≠ a := by rintro rfl; rw [hE] at q; cases q
    rw [upd_ne na]; exact S.rn.eh b x n q
  · by_cases na : b = a
    · subst na; rw [upd_same]; simp
    · rw [upd_ne na]; exact S.rn.th b q
  · have q := S.sl i s hs
    cases s with
    | un => trivial
    | d y => exact q
    | own o => exact absurd hs (no i o)
def isOf (x : Str) (s : Se) : Bool := match s.head with
  | none => false
  | some h => decide (h.name = x)
def secsFrom (x : Str) : Nat → List Se → List Nat
  | _, [] => []
  | i, s :: r => if isOf x s = true then i :: secsFrom x (i + 1) r else secsFrom x (i + 1) r
def secs (v : List Se) (x : Str) : List Nat := secsFrom x 0 v
theorem secs_snoc (x : Str) (s : Se) : ∀ (i : Nat) (ss : List Se), secsFrom x i (ss ++ [s]) = secsFrom x i ss ++ if isOf x s = true then [i + ss.length] else []
  | i, [] => by simp [secsFrom]
  | i, t :: r => by
    rw [List.cons_append, secsFrom, secsFrom, secs_snoc x s (i + 1) r]
    have e : i + 1 + r.length = i + (t :: r).length := by rw [List.length_cons]; omega
    rw [e]
    split <;> simp
theorem secs_len (x : Str) : ∀ (i : Nat) (ss : List Se), (secsFrom x i ss).length ≤ ss.length
  | _, [] => Nat.le_refl _
  | i, t :: r => by
    have := secs_len x (i + 1) r
    rw [secsFrom, List.length_cons]
    split
    · rw [List.length_cons]; omega
    · omega
def natsV (ns : List Nat) : List V := ns.map fun n => V.int (n : Nat)
def natsD (ns : List Nat) : List D := ns.map fun n => D.int (n : Nat)
theorem nats_dn {K : PySem.W.Frag} {B : Hp} : ∀ ns : List Nat, DnL K B (natsV ns) (natsD ns)
  | [] => .nil
  | n :: r => .cons (.int _) (nats_dn r)
/-- the dict while it is made -/
structure Pcs (E : En) (done : List Se) (l : Addr) (vs : List (Key × V)) (B H : Hp) : Prop where
  dic : H l = some (.dK vs)
  few : vs.length ≤ done.length
  keys : ∀ kv ∈ vs, (∃ x, kv.1 = .inr x) ∧ valV vs kv.1 = some kv.2
  non : ∀ x, secsFrom x 0 done = [] → valV vs (.inr x) = none
  som : ∀ x, secsFrom x 0 done ≠ [] → ∃ a, valV vs (.inr x) = some (.ref a) ∧ H a = some (.lst (natsV (secsFrom x 0 done))) ∧ B a = none ∧ E.H a = none
  inj : ∀ x y a, valV vs (.inr x) = some (.ref a) → valV vs (.inr y) = some (.ref a) → x = y
theorem Pcs.pg {E : En} {done : List Se} {l : Addr} {vs : List (Key × V)} {B H B' H' : Hp} (h : Pcs E done l vs B H) (p : Pg B H B' H') : Pcs E done l vs B' H' :=
  ⟨p.eh _ _ h.dic, h.few, h.keys, h.non, fun x hx => by obtain ⟨a, e1, e2, e3, e4⟩ := h.som x hx; exact ⟨a, e1, p.eh _ _ e2, p.rn.fr a (by rw [e2]; simp) e3, e4⟩, h.inj⟩
theorem Pcs.skip {E : En} {done : List Se} {s : Se} {l : Addr} {vs : List (Key × V)} {B H : Hp} (h : Pcs E done l vs B H) (hs : s.head = none) : Pcs E (done ++ [s]) l vs B H := by
  have e : ∀ x, secsFrom x 0 (done ++ [s]) = secsFrom x 0 done := fun x => by rw [secs_snoc]; unfold isOf; rw [hs]; simp
  exact ⟨h.dic, by rw [List.length_append]; have := h.few; omega, h.keys, fun x hx => h.non x (by rw [← e]; exact hx), fun x hx => by rw [e] at hx ⊢; exact h.som x hx, h.inj⟩
theorem Pcs.old {E : En} {done : List Se} {s : Se} {g : Hd} {l a : Addr} {vs : List (Key × V)} {B H : Hp} (h : Pcs E done l vs B H) (hs : s.head = some g) (ha : valV vs (.inr g.name) = some (.ref a)) :
    ∃ ns, H a = some (.lst (natsV ns)) ∧ a ≠ l ∧ B a = none ∧ E.H a = none ∧ ns.length ≤ done.length ∧ Pcs E (done ++ [s]) l vs B (upd H a (.lst (natsV ns ++ [V.int (done.length : Nat)]))) := by
  have ne : secsFrom g.name 0 done ≠ [] := fun z => by rw [h.non _ z] at ha; cases ha
  obtain ⟨a', e1, e2, e3, e4⟩ := h.som _ ne
  rw [ha] at e1; cases e1
  have hal : a ≠ l := by rintro rfl; rw [h.dic] at e2; cases e2
  refine ⟨_, e2, hal, e3, e4, secs_len _ _ _, by rw [upd_ne (Ne.symm hal)]; exact h.dic, by rw [List.length_append]; have := h.few; omega, h.keys, fun x hx => ?_, fun x hx => ?_, h.inj⟩
  · rw [secs_snoc] at hx
    exact h.non x (List.append_eq_nil_iff.mp hx).1
  · rw [secs_snoc] at hx ⊢
    by_cases hx2 : g.name = x
    · subst hx2
      refine ⟨a, ha, ?_, e3, e4⟩
      rw [upd_same]
      have : isOf g.name s = true := by unfold isOf; rw [hs]; simp
      rw [if_pos this]
      unfold natsV
      rw [List.map_append, Nat.zero_add]
      rfl
    · have : isOf x s = false := by unfold isOf; rw [hs]; simpa using hx2
      rw [if_neg (by rw [this]; decide), List.append_nil] at hx ⊢
      obtain ⟨b, f1, f2, f3, f4⟩ := h.som x hx
      refine ⟨b, f1, ?_, f3, f4⟩
      have hne : b ≠ a := by rintro rfl; exact hx2 (h.inj _ _ _ ha f1)
      rw [upd_ne hne]; exact f2
theorem Pcs.new {E : En} {done : List Se} {s : Se} {g : Hd} {l p : Addr} {vs : List (Key × V)} {B H : Hp} (h : Pcs E done l vs B H) (hs : s.head = some g) (hn : valV vs (.inr g.name) = none) (hp : H p = some (.lst [])) (hB : B p = none) (hE : E.H p = none) (hfar : ∀ x, valV vs (.inr x) ≠ some (.ref p)) :
    Pcs E (done ++ [s]) l (putK vs (.inr g.name) (.ref p)) B (upd (upd H l (.dK (putK vs (.inr g.name) (.ref p)))) p (.lst ([] ++ [V.int (done.length : Nat)]))) := by
  have hpl : p ≠ l := by rintro rfl; rw [h.dic] at hp; cases hp
  have e0 : secsFrom g.name 0 done = [] := Classical.byContradiction fun z => by obtain ⟨a, e1, _⟩ := h.som _ z; rw [hn] at e1; cases e1
  have val : ∀ y, valV (putK vs (.inr g.name) (.ref p)) (.inr y) = if (Sum.inr y : Key) = .inr g.name then some (.ref p) else valV vs (.inr y) := fun y => valV_put vs _ _ _
  refine ⟨by rw [upd_ne (Ne.symm hpl)]; exact upd_same, ?_, fun kv hkv => ?_, fun x hx => ?_, fun x hx => ?_, fun x y a hx hy => ?_⟩
  · rw [putK_new _ hn, List.length_append, List.length_append]; have := h.few; show _ + 1 ≤ _ + 1; omega
  · rw [putK_new _ hn] at hkv ⊢
    rcases List.mem_append.mp hkv with q | q
    · obtain ⟨⟨x, ex⟩, e2⟩ := h.keys kv q
      refine ⟨⟨x, ex⟩, ?_⟩
      rw [valV_snoc _ _ _ _ hn]
      split
      · rename_i z; rw [z, hn] at e2; cases e2
      · exact e2
    · rw [List.mem_singleton] at q
      subst q
      refine ⟨⟨g.name, rfl⟩, ?_⟩
      rw [valV_snoc _ _ _ _ hn]; simp
  · rw [secs_snoc] at hx
    obtain ⟨h1, h2⟩ := List.append_eq_nil_iff.mp hx
    have hne : ¬ g.name = x := fun z => by
      have : isOf x s = true := by unfold isOf; rw [hs]; simpa using z
      rw [if_pos this] at h2; cases h2
    rw [val, if_neg (fun z => hne (Sum.inr.inj z).symm)]
    exact h.non x h1
  · rw [secs_snoc] at hx ⊢
    by_cases hx2 : g.name = x
    · subst hx2
      refine ⟨p, by rw [val, if_pos rfl], ?_, hB, hE⟩
      have : isOf g.name s = true := by unfold isOf; rw [hs]; simp
      rw [upd_same, if_pos this, e0, Nat.zero_add]
      rfl
    · have : isOf x s = false := by unfold isOf; rw [hs]; simpa using hx2
      rw [if_neg (by rw [this]; decide), List.append_nil] at hx ⊢
      obtain ⟨b, f1, f2, f3, f4⟩ := h.som x hx
      refine ⟨b, by rw [val, if_neg (fun z => hx2 (Sum.inr.inj z).symm)]; exact f1, ?_, f3, f4⟩
      have h1 : b ≠ p := by rintro rfl; exact hfar _ f1
      have h2 : b ≠ l := by rintro rfl; rw [h.dic] at f2; cases f2
      rw [upd_ne h1, upd_ne h2]; exact f2
  · rw [val] at hx hy
    by_cases h1 : (Sum.inr x : Key) = .inr g.name <;> by_cases h2 : (Sum.inr y : Key) = .inr g.name
    · rw [Sum.inr.inj h1, Sum.inr.inj h2]
    · rw [if_pos h1] at hx; rw [if_neg h2] at hy; cases hx; exact absurd hy (hfar _)
    · rw [if_neg h1] at hx; rw [if_pos h2] at hy; cases hy; exact absurd hx (hfar _)
    · rw [if_neg h1] at hx; rw [if_neg h2] at hy; exact h.inj _ _ _ hx hy
end Kn
/-! P8: pieces. -/
namespace Kn
open PySem PySem.Spec PyProof.Rows L2
def Pieced (v : List Se) (kds : List (Key × D)) : Prop := ∀ x, secs v x ≠ [] → luK kds (.inr x) = some (.lst (natsD (secs v x)))
def post_pieces : List D → O → Prop := fun ds o => ∀ v, ds = [webD v] → WebOk v → ∃ kds, o = .dK kds ∧ Pieced v kds
/-- the end: all is told -/
theorem Pcs.told {E : En} {v : List Se} {l : Addr} {vs : List (Key × V)} {Δ : List Slot} {σ : L2.St} {B H : Hp} (h : Pcs E v l vs B H) (S : Sees E Δ σ B H) (no : ∀ (i : Nat) (o : O), Δ[i]? ≠ some (Slot.own o)) (hB : B l = none) :
    ∃ B' kds, Ex B B' ∧ Sees E Δ σ B' H ∧ B' l = none ∧ DnK E.K B' vs kds ∧ Pieced v kds := by
  classical
  let B' : Hp := fun a => if ∃ x, valV vs (.inr x) = some (.ref a) then H a else B a
  have key : ∀ x a, valV vs (.inr x) = some (.ref a) → H a = some (.lst (natsV (secs v x))) ∧ B a = none ∧ E.H a = none := fun x a e => by
    have ne : secsFrom x 0 v ≠ [] := fun z => by rw [h.non x z] at e; cases e
    obtain ⟨b, e1, e2, e3, e4⟩ := h.som x ne
    rw [e] at e1; cases e1
    exact ⟨e2, e3, e4⟩
  have ex : Ex B B' := fun a o e => by
    show (if _ then _ else _) = _
    split
    · rename_i z
      obtain ⟨x, hx⟩ := z
      rw [(key x a hx).2.1] at e; cases e
    · exact e
  have hl : ¬ ∃ x, valV vs (.inr x) = some (.ref l) := fun ⟨x, hx⟩ => by
    have := (key x l hx).1
    rw [h.dic] at this; cases this
  have e0 : ∀ x a, valV vs (.inr x) = some (.ref a) → B' a = some (.lst (natsV (secs v x))) := fun x a e => by
    show (if _ then _ else _) = _
    rw [if_pos ⟨x, e⟩]
    exact (key x a e).1
  refine ⟨B', vs.map fun kv => (kv.1, match kv.1 with | .inr x => .lst (natsD (secs v x)) | .inl _ => .non), ex, S.more ex (fun a o e => ?_) (fun a e1 e2 => ?_), ?_, ?_, ?_⟩
  · have e : (if _ then _ else _) = some o := e
    split at e
    · exact e
    · exact S.sub a o e
  · have e2 : ¬ (if _ then _ else _) = none := e2
    split at e2
    · rename_i z
      obtain ⟨x, hx⟩ := z
      exact ⟨(key x a hx).2.2, fun i o z => absurd z (no i o)⟩
    · exact absurd e1 e2
  · show (if _ then _ else _) = _
    rw [if_neg hl]; exact hB
  · have : ∀ us : List (Key × V), (∀ kv ∈ us, kv ∈ vs) → DnK E.K B' us (us.map fun kv => (kv.1, match kv.1 with | .inr x => .lst (natsD (secs v x)) | .inl _ => .non)) := fun us => by
      induction us with
      | nil => intro _; exact .nil
      | cons u us ih =>
        intro hu
        obtain ⟨k, w⟩ := u
        obtain ⟨⟨x, ex'⟩, e2⟩ := h.keys (k, w) (hu _ List.mem_cons_self)
        have ex' : k = .inr x := ex'
        subst ex'
        refine .cons _ ?_ (ih fun kv hkv => hu kv (List.mem_cons_of_mem _ hkv))
        have ne : secsFrom x 0 v ≠ [] := fun z => by
          have := h.non x z
          have e3 : valV vs (.inr x) = some w := e2
          rw [this] at e3; cases e3
        obtain ⟨a, e3, _⟩ := h.som x ne
        have e4 : valV vs (.inr x) = some w := e2
        rw [e3] at e4; cases e4
        exact .lst (e0 x a e3) (nats_dn _)
    exact this vs fun _ h => h
  · intro x hx
    obtain ⟨a, e1, _⟩ := h.som x hx
    have : ∀ us : List (Key × V), (valV us (.inr x)).isSome = true → luK (us.map fun kv => (kv.1, match kv.1 with | .inr x => D.lst (natsD (secs v x)) | .inl _ => .non)) (.inr x) = some (.lst (natsD (secs v x))) := fun us => by
      induction us with
      | nil => intro h; cases h
      | cons u us ih =>
        intro hu
        obtain ⟨k, w⟩ := u
        rw [valV_cons] at hu
        rw [List.map_cons, luK_cons]
        by_cases hk : k = .inr x
        · rw [if_pos hk]; subst hk; rfl
        · rw [if_neg hk] at hu ⊢; exact ih hu
    exact this vs (by rw [e1]; rfl)
theorem body_pieces {X : Cx} {E : En} (T : Tx E.mg) (C : Cz E N_pieces V_pieces V_pieces G_pieces (defScope s_pieces) 0 X) (v : List Se) (hv : WebOk v) : Go X E (defBody s_pieces) [.d (webD v), .un, .un, .un] { nx := fun _ => False, rf := fun o _ => post_pieces [webD v] o } := by
  have few := hv.few
  refine go_cons (gs_new C 1 (DoF.of ef_dic0 ?_))
  refine go_cons ?_
  intro σ1 B1 H1 S D0 M
  obtain ⟨l, el, hB, hE, ho⟩ := S.own (i := 1) rfl
  obtain ⟨vs0, hvs0, r0⟩ := ho
  cases r0
  have hE' := hE.resolve_right (by rintro ⟨⟨m, c, z⟩, _⟩; cases z)
  have S0 := S.less (i := 1)
  have S0 : Sees E [.d (webD v), .un, .un, .un] σ1 B1 H1 := S0
  refine ws_for C S0 (di_enumT C 0 (Do.of (ev_nm C 0 rfl) ⟨_, rfl, rfl⟩) T.enumerate) (fun i σ2 B2 H2 => ∃ (vs : List (Key × V)) (a b : Slot), Sees E [.d (webD v), .un, a, b] σ2 B2 H2 ∧ (∀ (j : Nat) (o : O), ([.d (webD v), .un, a, b] : List Slot)[j]? ≠ some (Slot.own o)) ∧ σ2[1]? = some (some (.ref l)) ∧ Ex B1 B2 ∧ B2 l = none ∧ Pcs E (v.take i) l vs B2 H2) ?_ ?_ ?_ ?_ ?_
  · intro B2 H2 x2 S2
    refine ⟨[], _, _, S2, fun j o => ?_, el, x2.eb, x2.fr l (by rw [hvs0]; simp) hB, ?_⟩
    · match j with
      | 0 => simp
      | 1 => simp
      | 2 => simp
      | 3 => simp
      | n + 4 => simp
    · refine ⟨x2.eh l _ (fun j m c hj _ => ?_) hvs0, Nat.zero_le _, by simp, fun _ _ => rfl, fun x hx => absurd rfl hx, fun x y a e => by cases e⟩
      match j, hj with
      | 0, hj => simp at hj
      | 1, hj => simp at hj
      | 2, hj => simp at hj
      | 3, hj => simp at hj
      | n + 4, hj => simp at hj
  · rintro i σ2 B2 H2 ⟨vs, a, b, S2, _⟩; exact S2.sub
  · rintro i σ2 B2 H2 B3 H3 ⟨vs, a, b, S2, n2, e2, x2, b2, p2⟩ pg
    exact ⟨vs, a, b, S2.step pg, n2, e2, x2.trans pg.eb, pg.rn.fr l (by rw [p2.dic]; simp) b2, p2.pg pg⟩
  · rintro i d σ2 B2 H2 u hd ⟨vs, a, b, S2, n2, e2, x2, b2, p2⟩ ru hl
    have hlt : i < v.length := by
      have := (List.getElem?_eq_some_iff.mp hd).1
      rw [enumD_len, List.length_map] at this; exact this
    obtain ⟨s, hs⟩ : ∃ s, v[i]? = some s := ⟨v[i], List.getElem?_eq_getElem hlt⟩
    have hd2 := enumD_get (ds := v.map Se.d) (i := i) (x := s.d) (by rw [List.getElem?_map, hs]; rfl)
    rw [hd2] at hd
    cases hd
    have etake : v.take (i + 1) = v.take i ++ [s] := by rw [List.take_add_one, hs]; rfl
    have elen : (v.take i).length = i := by rw [List.length_take]; omega
    refine (bd_tup C (bs_cons (bd_nm C 2 (bs_cons (bd_nm C 3 (bs_nil (P := fun Δ' => Δ' = [.d (webD v), .un, .d (.int (i : Nat)), .d s.d]) rfl))))) : Bd X E _ [2, 3] _ _ _) σ2 B2 H2 u S2 ru hl _ fun σ3 Δ3 S3 k1 k2 k3 k4 e3 => ?_
    subst e3
    have el3 : σ3[1]? = some (some (.ref l)) := (k2 1 (by decide)).trans e2
    have n3 : ∀ (j : Nat) (o : O), ([.d (webD v), .un, .d (.int (i : Nat)), .d s.d] : List Slot)[j]? ≠ some (Slot.own o) := fun j o => by
      match j with
      | 0 => simp
      | 1 => simp
      | 2 => simp
      | 3 => simp
      | n + 4 => simp
    refine WSs.of (pss_cons (ps_W _) (pss_W _)) (WS.of (ps_if (pt_W _) (pss_W _) (pss_W _)) ?_)
    have fin : ∀ {σ4 B4 H4 vs4}, Sees E [.d (webD v), .un, .d (.int (i : Nat)), .d s.d] σ4 B4 H4 → σ4[1]? = some (some (.ref l)) → Ex B2 B4 → B4 l = none → Pcs E (v.take i ++ [s]) l vs4 B4 H4 → ∃ B5, Ex B2 B5 ∧ ∃ (vs : List (Key × V)) (a b : Slot), Sees E [.d (webD v), .un, a, b] σ4 B5 H4 ∧ (∀ (j : Nat) (o : O), ([.d (webD v), .un, a, b] : List Slot)[j]? ≠ some (Slot.own o)) ∧ σ4[1]? = some (some (.ref l)) ∧ Ex B1 B5 ∧ B5 l = none ∧ Pcs E (v.take (i + 1)) l vs B5 H4 := fun {σ4 B4 H4 vs4} h1 h2 h3 h4 h5 => ⟨_, h3, vs4, _, _, h1, n3, h2, x2.trans h3, h4, by rw [etake]; exact h5⟩
    cases hh : s.head with
    | none =>
      refine (et_cmp co_isnot (ev_ix (d := hdD s.head) C (ev_nm C 3 rfl).r ev_int rfl rfl).r ev_non.r : EvT X E _ [.d (webD v), .un, .d (.int (i : Nat)), .d s.d] _) σ3 B2 H2 S3 _ fun B4 H4 pg => ?_
      rw [hh]
      exact WSs.of pss_nil (WSs.of pss_nil (fin (S3.step pg) el3 pg.eb (pg.rn.fr l (by rw [p2.dic]; simp) b2) ((p2.pg pg).skip hh)))
    | some g =>
      refine (et_cmp co_isnot (ev_ix (d := hdD s.head) C (ev_nm C 3 rfl).r ev_int rfl rfl).r ev_non.r : EvT X E _ [.d (webD v), .un, .d (.int (i : Nat)), .d s.d] _) σ3 B2 H2 S3 _ fun B4 H4 pg => ?_
      rw [hh]
      have S4 := S3.step pg
      have p4 := p2.pg pg
      have b4 := pg.rn.fr l (by rw [p2.dic]; simp) b2
      obtain ⟨v1, v2, v3⟩ := C.vis 1 "found" rfl rfl
      obtain ⟨w1, w2, w3⟩ := C.vis 2 "number" rfl rfl
      obtain ⟨vn, en, rn⟩ := S3.get (i := 2) rfl
      cases rn
      refine WSs.of (pss_cons (ps_expr (pe_bm PySem.F.plainAttrs_list PySem.F.slot_list_append PySem.F.type_list_append mt_append (pe_dsetd (pe_var (i := 1) (by rw [C.hN]; rfl) v1 v2 v3) (pe_W _) (pe_lst pa_nil) ⟨rfl, rfl, rfl, rfl⟩) (pa_cons (pe_var (i := 2) (by rw [C.hN]; rfl) w1 w2 w3) pa_nil rfl) rfl rfl rfl rfl) rfl) (pss_W _)) ?_
      refine ⟨.ref l, el3, l, rfl, .inl ⟨_, .inl p4.dic⟩, ?_⟩
      refine (ev_ix (d := .str g.name) C (ev_ix (d := hdD s.head) C (ev_nm C 3 rfl).r ev_int rfl rfl).r ev_int (by rw [hh]; rfl) rfl : Ev X E _ [.d (webD v), .un, .d (.int (i : Nat)), .d s.d] _) σ3 B4 H4 S4 _ fun y B5 H5 pg5 r5 => ?_
      cases r5
      have S5 := S4.step pg5
      have p5 := p4.pg pg5
      have b5 := pg5.rn.fr l (by rw [p4.dic]; simp) b4
      refine ⟨Nat.zero_le _, fun p np => ?_⟩
      have pg6 : Pg B5 H5 B5 (upd H5 p (.lst [])) := Pg.apart S5.sub np
      have S6 := S5.step pg6
      have p6 := p5.pg pg6
      refine ⟨vs, .inr g.name, p6.dic, rfl, sz_lt (by have := p6.few; omega), fun w hw => ?_, fun hn => ?_⟩
      · have ne : secsFrom g.name 0 (v.take i) ≠ [] := fun z => by rw [p6.non _ z] at hw; cases hw
        obtain ⟨a, e1, _⟩ := p6.som _ ne
        rw [hw] at e1
        cases e1
        obtain ⟨ns, q1, q2, q3, q4, q5, q6⟩ := p6.old hh hw
        refine ⟨.inl ⟨rfl, _, SqL.of q1⟩, .int (i : Nat), en, a, natsV ns, .int (i : Nat), rfl, rfl, q1, sz_lt (by unfold natsV; rw [List.length_map]; omega), WSs.of pss_nil (WSs.of pss_nil ?_)⟩
        rw [elen] at q6
        exact fin (Sees.out S6 n3 q3 q4) el3 ((pg.trans pg5).trans pg6).eb b5 q6
      · have far : ∀ x, valV vs (.inr x) ≠ some (.ref p) := fun x z => by
          have ne : secsFrom x 0 (v.take i) ≠ [] := fun y => by rw [p5.non _ y] at z; cases z
          obtain ⟨a, e1, e2, _⟩ := p5.som _ ne
          rw [z] at e1; cases e1
          rw [np] at e2; cases e2
        have nB : B5 p = none := S5.sub.free np
        have nE : E.H p = none := S5.enone np
        have hpl : p ≠ l := by rintro rfl; rw [p5.dic] at np; cases np
        have hp6 : (upd H5 p (.lst [])) p = some (.lst []) := upd_same
        have S7 : Sees E [.d (webD v), .un, .d (.int (i : Nat)), .d s.d] σ3 B5 (upd (upd H5 p (.lst [])) l (.dK (putK vs (.inr g.name) (.ref p)))) := Sees.out S6 n3 b5 hE'
        have q6 := p6.new hh hn hp6 nB nE far
        rw [elen] at q6
        refine ⟨.inl ⟨rfl, [], SqL.of (by rw [upd_ne hpl]; exact upd_same)⟩, .int (i : Nat), en, p, [], .int (i : Nat), rfl, rfl, by rw [upd_ne hpl]; exact upd_same, sz_lt (by decide), WSs.of pss_nil (WSs.of pss_nil ?_)⟩
        exact fin (Sees.out S7 n3 nB nE) el3 ((pg.trans pg5).trans pg6).eb b5 q6
  · rintro σ2 B2 H2 x2 ⟨vs, a, b, S2, n2, e2, x1, b2, p2⟩
    rw [enumD_len, List.length_map, List.take_length] at p2
    obtain ⟨B3, kds, x3, S3, b3, r3, q3⟩ := p2.told S2 n2 b2
    refine M.nx σ2 B3 H2 [.d (webD v), .own (.dK kds), a, b] (x2.trans x3) ?_ ?_
    · refine ⟨S3.sub, S3.rn, fun j t ht => ?_, fun j m o o' l' g1 g2 g3 g4 => ?_⟩
      · by_cases hj : j = 1
        · subst hj
          have : t = .own (.dK kds) := by simpa using ht.symm
          subst this
          exact ⟨l, e2, b3, .inl hE', vs, p2.dic, r3⟩
        · refine S3.sl j t ?_
          match j with
          | 0 => exact ht
          | 1 => exact absurd rfl hj
          | 2 => exact ht
          | 3 => exact ht
          | n + 4 => simp at ht
      · have one : ∀ {j : Nat} {o : O}, ([.d (webD v), .own (.dK kds), a, b] : List Slot)[j]? = some (.own o) → j = 1 := fun {j o} h => by
          match j with
          | 0 => simp at h
          | 1 => rfl
          | 2 => exact absurd h (n2 2 o)
          | 3 => exact absurd h (n2 3 o)
          | n + 4 => simp at h
        rw [one g1, one g2]
    · refine go_cons (gs_retO C 1 rfl rfl ?_)
      intro u hu _
      have := webD_inj (List.cons.inj hu).1
      subst this
      exact ⟨kds, rfl, q3⟩
section
variable {P : Program} {w : World} {K : PySem.W.Frag} {mg : Str → Option Value} {base : Heap}
theorem ok_pieces (T : Tx mg) (A : At K mg "pieces" s_pieces P_pieces) : FnD P w K mg base "pieces" 1 (spM K pre_web post_pieces) := by
  refine A.m sc_pieces dc_pieces (fun ds h => by obtain ⟨_, rfl, _⟩ := h; rfl) fun X B H ds C hR => ?_
  obtain ⟨v, rfl, hv⟩ := hR
  exact body_pieces (E := ⟨P, w, K, mg, base, [], B, H⟩) T C v hv
end
end Kn
/-! P9: filled cells. -/
namespace Kn
open PySem PySem.Spec PyProof.Rows L2
def Cell (c : Nat) (d : D) : Prop := ∃ x y z, d = .tup [.str ⟨#[c]⟩, x, y, z]
def Cells (cs : List Nat) (ds : List D) : Prop := Paired Cell cs ds
def Gs (gs : List (List Nat)) (d : D) : Prop := ∃ ls : List (List D), d = .lst (ls.map D.lst) ∧ Paired Cells gs ls
theorem pd_app {α β : Type} {F : α → β → Prop} : ∀ {a c : List α} {b d : List β}, Paired F a b → Paired F c d → Paired F (a ++ c) (b ++ d)
  | _, _, _, _, .nil, h => h
  | _, _, _, _, .cons x r, h => .cons x (pd_app r h)
theorem pd_get {α β : Type} {F : α → β → Prop} : ∀ {a : List α} {b : List β} {i : Nat} {x : α}, Paired F a b → a[i]? = some x → ∃ y, b[i]? = some y ∧ F x y
  | _, _, i, _, .nil, h => by simp at h
  | _, _, 0, x, .cons f r, h => by
    have e := Option.some.inj h
    subst e; exact ⟨_, rfl, f⟩
  | _, _, i + 1, x, .cons f r, h => pd_get (i := i) r h
def fillP (l : List Nat) (gs : List (List Nat)) : List Part → List Nat
  | [] => []
  | .text a b :: r => (l.drop a).take (b - a) ++ fillP l gs r
  | .slot _ _ k :: r => gs.getD k [] ++ fillP l gs r
def fill (x : Str) (ps : List Str) (gs : List (List Nat)) : List Nat := fillP (codes x) gs (partsOf (codes x) ps)
def Part.Ok (n m : Nat) : Part → Prop
  | .text a b => a ≤ b ∧ b ≤ n
  | .slot _ _ k => k < m
theorem slotL_ix {l : List Nat} {i : Nat} : ∀ {ps : List Str} {n e m : Nat}, slotL l i ps n = some (e, m) → m < n + ps.length
  | p :: r, n, e, m, h => by
    unfold slotL at h
    split at h
    · cases h; rw [List.length_cons]; omega
    · have := slotL_ix h
      rw [List.length_cons]; omega
theorem partsGo_ok (l : List Nat) (ps : List Str) : ∀ (fuel b i : Nat), b ≤ i → i ≤ l.length → ∀ p ∈ partsGo l ps fuel b i, p.Ok l.length ps.length
  | 0, _, _, _, _, p, h => by cases h
  | fuel + 1, b, i, hb, hi, p, h => by
    unfold partsGo at h
    split at h
    · rename_i hlt
      cases hs : slotL l i ps 0 with
      | none => rw [hs] at h; exact partsGo_ok l ps fuel b (i + 1) (by omega) hlt p h
      | some en =>
        obtain ⟨e, n⟩ := en
        rw [hs] at h
        obtain ⟨h1, h2⟩ := slotL_end hs
        have h3 := slotL_ix hs
        rcases List.mem_append.mp h with q | q
        · split at q
          · rw [List.mem_singleton] at q; subst q; exact ⟨hb, hi⟩
          · cases q
        · rcases List.mem_cons.mp q with q | q
          · subst q; show n < _; omega
          · exact partsGo_ok l ps fuel e e (Nat.le_refl _) h2 p q
    · split at h
      · rw [List.mem_singleton] at h; subst h; exact ⟨hb, hi⟩
      · cases h
theorem partsGo_len (l : List Nat) (ps : List Str) : ∀ (fuel b i : Nat), i ≤ l.length → (partsGo l ps fuel b i).length ≤ 2 * (l.length - i) + 1
  | 0, _, _, _ => by simp [partsGo]
  | fuel + 1, b, i, hi => by
    unfold partsGo
    split
    · rename_i hlt
      cases hs : slotL l i ps 0 with
      | none => have := partsGo_len l ps fuel b (i + 1) hlt; show (partsGo l ps fuel b (i + 1)).length ≤ _; omega
      | some en =>
        obtain ⟨e, n⟩ := en
        obtain ⟨h1, h2⟩ := slotL_end hs
        have := partsGo_len l ps fuel e e h2
        show ((if b < i then [Part.text b i] else []) ++ Part.slot i e n :: partsGo l ps fuel e e).length ≤ _
        rw [List.length_append, List.length_cons]
        split
        · show 1 + _ ≤ _; omega
        · show 0 + _ ≤ _; omega
    · split
      · show 1 ≤ _; omega
      · show 0 ≤ _; omega
theorem parts_ok (l : List Nat) (ps : List Str) : ∀ p ∈ partsOf l ps, p.Ok l.length ps.length := partsGo_ok l ps _ 0 0 (Nat.le_refl _) (Nat.zero_le _)
theorem parts_len (l : List Nat) (ps : List Str) : (partsOf l ps).length ≤ 2 * l.length + 1 := partsGo_len l ps _ 0 0 (Nat.zero_le _)
def slotCell : D → D
  | .tup [a, b, _, d] => .tup [a, b, .str "slot", d]
  | d => d
theorem slot_cells {cs : List Nat} {zs : List D} (h : Cells cs zs) : Cells cs (zs.map slotCell) := by
  unfold Cells at h ⊢
  induction h with
  | nil => exact .nil
  | cons f r ih => obtain ⟨x, y, z, rfl⟩ := f; exact .cons ⟨_, _, _, rfl⟩ ih
theorem upto_succ (lo : Int) (n : Nat) : upto lo (n + 1) = .int lo :: upto (lo + 1) n := rfl
section
variable {P : Program} {w : World} {K : PySem.W.Frag} {mg : Str → Option Value} {base : Heap}
structure FillPre (line : Str) (ps : List Str) (owner : List D) (gs : List (List Nat)) (gd : D) : Prop where
  short : line.length ≤ 40
  pss : ∀ p ∈ ps, p.length ≤ 1000
  many : ps.length ≤ gs.length
  own : owner.length ≤ 100
  gd : Gs gs gd
  small : ∀ g ∈ gs, g.length ≤ 400
theorem ok_filled_cells (T : Tx mg) (A : At K mg "filled_cells" s_filled_cells P_filled_cells) (F1 : FnD P w K mg base "parts_of" 2 (spR K R_parts_of)) (line : Str) (ps : List Str) (at_ : Int) (owner : List D) (gs : List (List Nat)) (gd : D) (hp : FillPre line ps owner gs gd) :
    FnD P w K mg base "filled_cells" 3 (spM K (fun ds => ds = [.str line, .tup (ps.map D.str), .int at_, .tup owner, gd]) fun _ o => ∃ zs, o = .lst zs ∧ Cells (fill line ps gs) zs) := by
  refine A.m sc_filled_cells dc_filled_cells (fun ds h => by subst h; rfl) fun X B H ds C hR => ?_
  subst hR
  have short := hp.short
  have pl := parts_len (codes line) ps
  have pk := parts_ok (codes line) ps
  rw [codes_len] at pl pk
  obtain ⟨ls, hgd, hgs⟩ := hp.gd
  subst hgd
  show Go X _ _ [.d (.str line), .d (.tup (ps.map D.str)), .d (.int at_), .d (.tup owner), .d (.lst (ls.map D.lst)), .un, .un, .un, .un, .un] _
  refine go_cons (gs_new C 5 (DoF.of (ef_lst ea_nil) ?_))
  refine go_cons (gs_for C [6, 7, 8] (di_enumT C 0 (Do.of (ev_call C 1 F1 (ea_cons (ev_nm C 0 rfl) (ea_cons (ev_nm C 1 rfl) ea_nil)) ⟨line, ps, rfl, by omega, hp.pss, rfl⟩) ⟨_, rfl, ?_⟩) T.enumerate))
  refine ⟨fun r Δ => ∃ (i : Nat) (left : List Part) (acc : List Nat) (zs : List D) (a b c : Slot), r = enumF i (left.map Part.d) ∧ Δ = [.d (.str line), .d (.tup (ps.map D.str)), .d (.int at_), .d (.tup owner), .d (.lst (ls.map D.lst)), .own (.lst zs), a, b, c, .un] ∧ (∀ p ∈ left, p.Ok line.length ps.length) ∧ zs.length + 400 * left.length ≤ 40000 ∧ Cells acc zs ∧ acc ++ fillP (codes line) gs left = fill line ps gs,
    ⟨0, partsOf (codes line) ps, [], [], _, _, _, rfl, rfl, pk, by simp; omega, .nil, rfl⟩, fun y r Δ2 hJ => ?_, fun Δ2 hJ => ?_⟩
  · obtain ⟨i, left, acc, zs, sa, sb, scc, hr, rfl, hk, hl, hc, hq⟩ := hJ
    cases left with
    | nil => cases hr
    | cons p left =>
      injection hr with h1 h2
      subst h1 h2
      have hp1 := hk p List.mem_cons_self
      rw [List.length_cons] at hl
      refine bd_tup C (bs_cons (bd_nm C 6 (bs_cons (bd_nm C 7 (bs_nil ?_)))))
      cases p with
      | text a b =>
        obtain ⟨hab, hbn⟩ := hp1
        show Go X _ _ [.d (.str line), .d (.tup (ps.map D.str)), .d (.int at_), .d (.tup owner), .d (.lst (ls.map D.lst)), .own (.lst zs), .d (.int (i : Nat)), .d (.tup [.str "text", .int (a : Nat), .int (b : Nat)]), scc, .un] _
        refine go_cons (gs_ifE (et_cmp co_eqS (ev_ix C (ev_nm C 7 rfl).r ev_int rfl rfl).r ev_str.r) (fun _ => ?_) (fun h => by cases h))
        refine go_cons (gs_for C [8] (di_range2 C 2 (ev_ix C (ev_nm C 7 rfl).r ev_int rfl rfl) (ev_ix C (ev_nm C 7 rfl).r ev_int rfl rfl) (by omega) ?_ (T.range)))
        have ecount : ((b : Int) - (a : Int)).toNat = b - a := by omega
        rw [ecount]
        refine ⟨fun r Δ => ∃ (j : Nat) (zs2 : List D) (c : Slot), j ≤ b - a ∧ r = upto ((a + j : Nat) : Int) (b - a - j) ∧ Δ = [.d (.str line), .d (.tup (ps.map D.str)), .d (.int at_), .d (.tup owner), .d (.lst (ls.map D.lst)), .own (.lst zs2), .d (.int (i : Nat)), .d (.tup [.str "text", .int (a : Nat), .int (b : Nat)]), c, .un] ∧ zs2.length = zs.length + j ∧ Cells (acc ++ ((codes line).drop a).take j) zs2,
          ⟨0, zs, _, Nat.zero_le _, rfl, rfl, rfl, by simpa using hc⟩, fun y r Δ2 hJ => ?_, fun Δ2 hJ => ?_⟩
        · obtain ⟨j, zs2, sc2, hj, hr, rfl, hl2, hc2⟩ := hJ
          have hlt : j < b - a := by
            refine Nat.lt_of_le_of_ne hj fun e => ?_
            subst e
            rw [Nat.sub_self] at hr
            cases hr
          obtain ⟨m, hm⟩ : ∃ m, b - a - j = m + 1 := ⟨b - a - j - 1, by omega⟩
          rw [hm, upto_succ] at hr
          injection hr with h1 h2
          subst h1 h2
          have hix : a + j < (codes line).length := by rw [codes_len]; omega
          obtain ⟨c, hcc⟩ : ∃ c, (codes line)[a + j]? = some c := ⟨_, List.getElem?_eq_getElem hix⟩
          refine bd_nm C 8 ?_
          refine go_cons (gs_append C 5 rfl (Do.of (ev_tup (ea_cons (ev_ixS (ev_nm C 0 rfl) (ev_nm C 8 rfl) (by omega) (by exact atI_nat hcc)) (ea_cons (ev_add (ev_nm C 2 rfl) (ev_nm C 8 rfl)) (ea_cons ev_str (ea_cons (ev_catT (ev_nm C 3 rfl) (ev_tup (ea_cons (ev_nm C 6 rfl) ea_nil)) (by have := hp.own; show _ + 1 ≤ _; omega)) ea_nil))))) ⟨by omega, go_nil ?_⟩))
          refine ⟨j + 1, _, _, hlt, ?_, rfl, by rw [List.length_append]; show zs2.length + 1 = _; omega, ?_⟩
          · have e1 : b - a - (j + 1) = m := by omega
            rw [e1]
            congr 1
          · have e2 : ((codes line).drop a).take (j + 1) = ((codes line).drop a).take j ++ [c] := by
              rw [List.take_add_one, List.getElem?_drop, hcc]; rfl
            rw [e2, ← List.append_assoc]
            exact Paired.snoc hc2 ⟨_, _, _, rfl⟩
        · obtain ⟨j, zs2, sc2, hj, hr, rfl, hl2, hc2⟩ := hJ
          have hjb : j = b - a := by
            refine Classical.byContradiction fun e => ?_
            obtain ⟨m, hm⟩ : ∃ m, b - a - j = m + 1 := ⟨b - a - j - 1, by omega⟩
            rw [hm, upto_succ] at hr
            cases hr
          subst hjb
          refine go_nil (go_nil ⟨i + 1, left, _, zs2, _, _, _, rfl, rfl, fun p hp => hk p (List.mem_cons_of_mem _ hp), by omega, hc2, ?_⟩)
          rw [List.append_assoc]
          exact hq
      | slot a b k =>
        have hk2 : k < ps.length := hp1
        obtain ⟨g, hg⟩ : ∃ g, gs[k]? = some g := ⟨_, List.getElem?_eq_getElem (Nat.lt_of_lt_of_le hk2 hp.many)⟩
        obtain ⟨xs, hxs, hcx⟩ := pd_get hgs hg
        have hgl := hp.small g (List.mem_of_getElem? hg)
        have hxl : xs.length ≤ 400 := by rw [← Paired.length hcx]; exact hgl
        refine go_less 8 ?_
        show Go X _ _ [.d (.str line), .d (.tup (ps.map D.str)), .d (.int at_), .d (.tup owner), .d (.lst (ls.map D.lst)), .own (.lst zs), .d (.int (i : Nat)), .d (.tup [.str "slot", .int (a : Nat), .int (b : Nat), .int (k : Nat)]), .un, .un] _
        refine go_cons (gs_ifE (et_cmp co_eqS (ev_ix C (ev_nm C 7 rfl).r ev_int rfl rfl).r ev_str.r) (fun h => by cases h) (fun _ => ?_))
        refine go_cons (gs_extend C 5 rfl (Do.of (EvF.ld (ef_lcG C .no (bk_by (own := ow_filled_cells_0) (vb := bv_filled_cells_0) (wb := bw_filled_cells_0) (G := bg_filled_cells_0) (by decide +kernel)) (by exact ⟨trivial, trivial⟩) (by trivial) (fun x : D => x) (fun x => [.d (.str line), .d (.tup (ps.map D.str)), .d (.int at_), .d (.tup owner), .d (.lst (ls.map D.lst)), .own (.lst zs), .d (.int (i : Nat)), .d (.tup [.str "slot", .int (a : Nat), .int (b : Nat), .int (k : Nat)]), .un, .d x]) (fun _ => true) slotCell xs (di_list C (Do.of (ev_ix (d := .lst xs) C (ev_nm C 4 rfl).r (ev_ix C (ev_nm C 7 rfl).r ev_int rfl rfl) rfl (by refine atI_nat ?_; rw [List.getElem?_map, hxs]; rfl)) ⟨xs, rfl, by simp⟩)) (by omega) (fun x hx Y CY => ⟨bd_nm CY 9 rfl, rfl, fun _ => ?_⟩))) ⟨_, rfl, ?_, go_nil (go_nil ?_)⟩))
        · obtain ⟨c, u1, u2, u3, rfl⟩ := Paired.right hcx x hx
          exact ev_tup (ea_cons (ev_ix CY (ev_nm CY 9 rfl).r ev_int rfl rfl) (ea_cons (ev_ix CY (ev_nm CY 9 rfl).r ev_int rfl rfl) (ea_cons ev_str (ea_cons (ev_ix CY (ev_nm CY 9 rfl).r ev_int rfl rfl) ea_nil))))
        · rw [List.filter_eq_self.mpr (fun _ _ => rfl), List.length_map]; omega
        · refine ⟨i + 1, left, acc ++ g, _, _, _, _, rfl, rfl, fun p hp => hk p (List.mem_cons_of_mem _ hp), ?_, ?_, ?_⟩
          · rw [List.filter_eq_self.mpr (fun _ _ => rfl), List.length_append, List.length_map]; omega
          · rw [List.filter_eq_self.mpr (fun _ _ => rfl)]
            exact pd_app hc (slot_cells hcx)
          · rw [List.append_assoc]
            have : gs.getD k [] = g := by rw [List.getD_eq_getElem?_getD, hg]; rfl
            rw [← this]
            exact hq
  · obtain ⟨i, left, acc, zs, sa, sb, scc, hr, rfl, hk, hl, hc, hq⟩ := hJ
    cases left with
    | cons p left => cases hr
    | nil =>
      refine go_cons (gs_retO C 5 rfl rfl ⟨zs, rfl, ?_⟩)
      rw [← hq]
      show Cells (acc ++ []) zs
      rw [List.append_nil]; exact hc
end
end Kn
/-! P10: the Spreader's small methods. -/
namespace Kn
open PySem PySem.Spec PyProof.Rows L2
/-- a method of the text stands -/
structure AtM (K : PySem.W.Frag) (C0 : Addr) (m qual : Str) (st : Stmt) (ps : List Str) : Prop where
  ex : ∃ (f : Addr) (fd : FuncData), Fun K m qual st f fd ∧ Meth K C0 m f ∧ Binds K fd ps []
section
variable {P : Program} {w : World} {K : PySem.W.Frag} {mg : Str → Option Value} {base : Heap} {N G ps : List Str} {vb wb : List Bool} {mm qual : Str} {st : Stmt} {k : Nat} {C0 : Addr}
theorem AtM.n {pre : List D → Prop} {post : List D → D → Prop} (A : AtM K C0 mm qual st ps) (S : FnScope N ps (defScope st)) (dc : DfC N (defScope st) vb wb G) (len : ∀ ds, pre ds → ds.length = ps.length)
    (body : ∀ X B H ds, Cz ⟨P, w, K, mg, base, [], B, H⟩ N vb wb G (defScope st) k X → pre ds → Go X ⟨P, w, K, mg, base, [], B, H⟩ (defBody st) (startD N ds) { nx := fun _ => post ds .non, rt := fun d _ => post ds d }) : MtD P w K mg base C0 mm (k + 1) (spN K pre post) := by
  obtain ⟨f, fd, F, g, b⟩ := A.ex
  exact ⟨f, fd, ps, g, b, ok_N F S dc len body⟩
theorem AtM.m {pre : List D → Prop} {post : List D → O → Prop} (A : AtM K C0 mm qual st ps) (S : FnScope N ps (defScope st)) (dc : DfC N (defScope st) vb wb G) (len : ∀ ds, pre ds → ds.length = ps.length)
    (body : ∀ X B H ds, Cz ⟨P, w, K, mg, base, [], B, H⟩ N vb wb G (defScope st) k X → pre ds → Go X ⟨P, w, K, mg, base, [], B, H⟩ (defBody st) (startD N ds) { nx := fun _ => False, rf := fun o _ => post ds o }) : MtD P w K mg base C0 mm (k + 1) (spM K pre post) := by
  obtain ⟨f, fd, F, g, b⟩ := A.ex
  exact ⟨f, fd, ps, g, b, ok_M F S dc len body⟩
end
/-- what the class must have -/
structure SpC (K : PySem.W.Frag) (C0 : Addr) : Prop where
  cls : Cls K C0
  web : NoAttr K C0 "web"
  places : NoAttr K C0 "places"
  pieces : NoAttr K C0 "pieces"
def Sf (v : List Se) (kds : List (List Key × D)) (pds : List (Key × D)) : List (Str × D) := [("web", webD v), ("places", .dit kds), ("pieces", .dic pds)]
def rowOf (s : Str) (ps : List Str) (m : List Nat) (gs : List (List Nat)) : List Nat := (if fill s ps gs = [] then [] else m ++ fill s ps gs) ++ [10]
theorem fill_len (s : Str) (ps : List Str) (gs : List (List Nat)) (h1 : s.length ≤ 40) (h2 : ∀ g ∈ gs, g.length ≤ 400) : (fill s ps gs).length ≤ 40000 := by
  have : ∀ qs : List Part, (fillP (codes s) gs qs).length ≤ 400 * qs.length := fun qs => by
    induction qs with
    | nil => simp [fillP]
    | cons q qs ih =>
      rw [List.length_cons]
      cases q with
      | text a b =>
        rw [fillP, List.length_append, List.length_take, List.length_drop, codes_len]
        omega
      | slot a b k =>
        rw [fillP, List.length_append]
        have : (gs.getD k []).length ≤ 400 := by
          rw [List.getD_eq_getElem?_getD]
          cases h : gs[k]? with
          | none => simp
          | some g => exact h2 g (List.mem_of_getElem? h)
        omega
  have h3 := this (partsOf (codes s) ps)
  have h4 := parts_len (codes s) ps
  rw [codes_len] at h4
  unfold fill
  omega
section
variable {P : Program} {w : World} {K : PySem.W.Frag} {mg : Str → Option Value} {base : Heap} {C0 : Addr}
theorem ok_argument_places (T : Tx mg) (A : At K mg "argument_places" s_argument_places P_argument_places) (n : Nat) (x : Str) (as : List Str) (at_ : Int) (hx : x.length ≤ 1000) (ha : ∀ a ∈ as, a.length ≤ 1000) (hl : as.length ≤ 1000) :
    FnD P w K mg base "argument_places" 1 (spM K (fun ds => ds = [(Ln.use n x as).d, .int at_]) fun _ o => ∃ zs : List Int, o = .lst (zs.map D.int) ∧ zs.length = as.length) := by
  refine A.m sc_argument_places dc_argument_places (fun ds h => by subst h; rfl) fun X B H ds C hR => ?_
  subst hR
  show Go X _ _ [.d (.tup [.str "use", .int (n : Nat), .str x, .tup (as.map D.str)]), .d (.int at_), .un, .un] _
  refine go_cons (gs_new C 2 (DoF.of (ef_lst ea_nil) ?_))
  refine go_cons (gs_set C 1 (Do.of (ev_add (ev_add (ev_add (ev_add (ev_nm C 1 rfl) ev_int) (ev_ix C (ev_nm C 0 rfl).r ev_int rfl rfl)) (ev_len C 0 (ev_ix C (ev_nm C 0 rfl).r ev_int rfl rfl).r (.str _ (by omega)) T.len)) ev_int) ?_))
  refine go_cons (gs_for C [3] (di_tup C (Do.of (ev_ix C (ev_nm C 0 rfl).r ev_int rfl rfl) ⟨_, rfl, ?_⟩)))
  refine ⟨fun r Δ => ∃ (left : List Str) (zs : List Int) (b : Int) (a : Slot), r = left.map D.str ∧ Δ = [.d (.tup [.str "use", .int (n : Nat), .str x, .tup (as.map D.str)]), .d (.int b), .own (.lst (zs.map D.int)), a] ∧ (∀ q ∈ left, q.length ≤ 1000) ∧ zs.length + left.length = as.length, ⟨as, [], _, _, rfl, rfl, ha, by simp⟩, fun y r Δ2 hJ => ?_, fun Δ2 hJ => ?_⟩
  · obtain ⟨left, zs, b, sa, hr, rfl, hs, hq⟩ := hJ
    cases left with
    | nil => cases hr
    | cons q left =>
      injection hr with h1 h2
      subst h1 h2
      have := hs q List.mem_cons_self
      rw [List.length_cons] at hq
      refine bd_nm C 3 ?_
      refine go_cons (gs_append C 2 rfl (Do.of (ev_nm C 1 rfl) ⟨by rw [List.length_map]; omega, ?_⟩))
      refine go_cons (gs_set C 1 (Do.of (ev_add (ev_add (ev_nm C 1 rfl) (ev_len C 0 (ev_nm C 3 rfl).r (.str _ (by omega)) T.len)) ev_int) (go_nil ?_)))
      refine ⟨left, zs ++ [b], b + q.length + 1, .d (.str q), rfl, ?_, fun z hz => hs z (List.mem_cons_of_mem _ hz), by rw [List.length_append]; show zs.length + 1 + _ = _; omega⟩
      rw [List.map_append]; rfl
  · obtain ⟨left, zs, b, sa, hr, rfl, hs, hq⟩ := hJ
    cases left with
    | cons q left => cases hr
    | nil => exact go_cons (gs_retO C 2 rfl rfl ⟨zs, rfl, by simpa using hq⟩)
/-- a line's own place -/
structure Here (v : List Se) (i k : Nat) (l : Ln) : Prop where
  ex : ∃ s, v[i]? = some s ∧ s.code[k]? = some l
theorem lu_place {v : List Se} {kds : List (List Key × D)} {i k : Nat} {l : Ln} (h : Placed v kds) (hh : Here v i k l) : ∃ n : Int, luD (.dit kds) (.tup [.int (i : Int), .str "code", .int (k : Int)]) (some (.int n)) := by
  obtain ⟨s, h1, h2⟩ := hh.ex
  obtain ⟨n, hn⟩ := h i s k l h1 h2
  exact ⟨n, .inr (.inr ⟨kds, [.inl (i : Int), .inr "code", .inl (k : Int)], _, rfl, rfl, rfl, hn.symm⟩)⟩
theorem ok_plain (T : Tx mg) (sp : SpC K C0) (A : AtM K C0 "plain" "Spreader.plain" s_Sp_plain P_Sp_plain) (v : List Se) (kds : List (List Key × D)) (pds : List (Key × D)) (hk : Placed v kds) (i k : Nat) (line : Str) (ps : List Str) (md : List D) (m : List Nat) (gs : List (List Nat)) (gd : D) (wd : List D)
    (F1 : ∀ (at_ : Int) (owner : List D), owner.length ≤ 100 → FnD P w K mg base "filled_cells" 3 (spM K (fun ds => ds = [.str line, .tup (ps.map D.str), .int at_, .tup owner, gd]) fun _ o => ∃ zs, o = .lst zs ∧ Cells (fill line ps gs) zs))
    (hh : Here v i k (.plain line)) (hm : Cells m md) (h1 : line.length ≤ 40) (h2 : ∀ g ∈ gs, g.length ≤ 400) (h3 : m.length ≤ 1000) :
    MtD P w K mg base C0 "plain" 4 (spN K (fun ds => ds = [.ins C0 (Sf v kds pds), .tup [.int (i : Nat), .int (k : Nat)], .str line, .tup (ps.map D.str), .lst md, gd, .tup wd]) fun _ d => ∃ a b zs, d = .tup [a, b, .tup zs] ∧ Cells (rowOf line ps m gs) zs) := by
  refine A.n sc_Sp_plain dc_Sp_plain (fun ds h => by subst h; rfl) fun X B H ds C hR => ?_
  subst hR
  obtain ⟨n, hn⟩ := lu_place hk hh
  have fl := fill_len line ps gs h1 h2
  show Go X _ _ [.d (.ins C0 (Sf v kds pds)), .d (.tup [.int (i : Nat), .int (k : Nat)]), .d (.str line), .d (.tup (ps.map D.str)), .d (.lst md), .d gd, .d (.tup wd), .un, .un, .un, .un] _
  refine go_cons (gs_asg [7, 8] (Do.of (ev_nm C 1 rfl) (bd_tup C (bs_cons (bd_nm C 7 (bs_cons (bd_nm C 8 (bs_nil ?_))))))))
  refine go_cons (gs_set C 9 (Do.of (ev_add (ev_dget C (ev_fld C sp.cls sp.places (ev_nm C 0 rfl) rfl).r (ev_tup (ea_cons (ev_nm C 7 rfl) (ea_cons ev_str (ea_cons (ev_nm C 8 rfl) ea_nil)))) hn) ev_int) ?_))
  refine go_cons (gs_new C 10 (df_callM C 0 (F1 (n + 1) [.int (i : Nat), .str "code", .int (k : Nat)] (Nat.le_of_ble_eq_true rfl)) (DoA.of (ea_cons (ev_nm C 2 rfl) (ea_cons (ev_nm C 3 rfl) (ea_cons (ev_nm C 9 rfl) (ea_cons (ev_tup (ea_cons (ev_nm C 7 rfl) (ea_cons ev_str (ea_cons (ev_nm C 8 rfl) ea_nil)))) (ea_cons (ev_nm C 5 rfl) ea_nil))))) ⟨rfl, ?_⟩)))
  rintro _ ⟨zs, rfl, hz⟩
  have hzl := Paired.length hz
  have hml := Paired.length hm
  refine go_cons (gs_via (fun Δ' => ∃ zs2, Δ' = [.d (.ins C0 (Sf v kds pds)), .d (.tup [.int (i : Nat), .int (k : Nat)]), .d (.str line), .d (.tup (ps.map D.str)), .d (.lst md), .d gd, .d (.tup wd), .d (.int (i : Nat)), .d (.int (k : Nat)), .d (.int (n + 1)), .own (.lst zs2)] ∧ zs2.length ≤ 50000 ∧ Cells (if fill line ps gs = [] then [] else m ++ fill line ps gs) zs2) ?_ ?_)
  · refine gs_ifE (et_list C (er_own C 10 rfl rfl)) (fun hb => ?_) (fun hb => ?_)
    · refine go_cons (gs_new C 10 (DoF.of (ef_cat (ev_nm C 4 rfl).r (er_own C 10 rfl rfl) (by omega)) (go_nil ⟨md ++ zs, rfl, by rw [List.length_append]; omega, ?_⟩)))
      have : fill line ps gs ≠ [] := fun e => by
        rw [e] at hzl
        cases zs with
        | nil => cases hb
        | cons z zs => cases hzl
      rw [if_neg this]
      exact pd_app hm hz
    · refine go_nil ⟨zs, rfl, by omega, ?_⟩
      have : fill line ps gs = [] := by
        cases zs with
        | nil => exact List.length_eq_zero_iff.mp hzl
        | cons z zs => cases hb
      rw [if_pos this, ← this]
      exact hz
  · rintro _ ⟨zs2, rfl, hl2, hc2⟩
    refine go_cons (gs_append C 10 rfl (Do.of (ev_tup (ea_cons ev_str (ea_cons (ev_add (ev_nm C 9 rfl) (ev_len C 1 (ev_nm C 2 rfl).r (.str _ (by omega)) T.len)) (ea_cons ev_str (ea_cons ev_non ea_nil))))) ⟨by omega, ?_⟩))
    refine go_cons (gs_ret (Do.of (ev_tup (ea_cons (ev_nm C 6 rfl) (ea_cons (ev_tup (ea_cons (ev_nm C 7 rfl) (ea_cons ev_str (ea_cons (ev_nm C 8 rfl) ea_nil)))) (ea_cons (ev_tuple C 2 (er_own C 10 rfl rfl) rfl T.tuple) ea_nil)))) ?_))
    exact ⟨_, _, _, rfl, Paired.snoc hc2 ⟨_, _, _, rfl⟩⟩
theorem ok_handed_on (T : Tx mg) (sp : SpC K C0) (A : AtM K C0 "handed_on" "Spreader.handed_on" s_Sp_handed_on P_Sp_handed_on) (v : List Se) (kds : List (List Key × D)) (pds : List (Key × D)) (hk : Placed v kds) (i k n : Nat) (x : Str) (as ps : List Str) (gs : List (List Nat)) (gd : D)
    (F1 : ∀ (a : Str) (at_ : Int) (owner : List D), a ∈ as → owner.length ≤ 100 → FnD P w K mg base "filled_cells" 3 (spM K (fun ds => ds = [.str a, .tup (ps.map D.str), .int at_, .tup owner, gd]) fun _ o => ∃ zs, o = .lst zs ∧ Cells (fill a ps gs) zs))
    (F2 : ∀ at_ : Int, FnD P w K mg base "argument_places" 1 (spM K (fun ds => ds = [(Ln.use n x as).d, .int at_]) fun _ o => ∃ zs : List Int, o = .lst (zs.map D.int) ∧ zs.length = as.length))
    (hh : Here v i k (.use n x as)) (hl : as.length ≤ 1000) :
    MtD P w K mg base C0 "handed_on" 4 (spM K (fun ds => ds = [.ins C0 (Sf v kds pds), .tup [.int (i : Nat), .int (k : Nat)], (Ln.use n x as).d, .tup (ps.map D.str), gd]) fun _ o => ∃ ls : List (List D), o = .lst (ls.map D.lst) ∧ Paired Cells (as.map fun a => fill a ps gs) ls) := by
  refine A.m sc_Sp_handed_on dc_Sp_handed_on (fun ds h => by subst h; rfl) fun X B H ds C hR => ?_
  subst hR
  obtain ⟨pl, hn⟩ := lu_place hk hh
  show Go X _ _ [.d (.ins C0 (Sf v kds pds)), .d (.tup [.int (i : Nat), .int (k : Nat)]), .d (.tup [.str "use", .int (n : Nat), .str x, .tup (as.map D.str)]), .d (.tup (ps.map D.str)), .d gd, .un, .un, .un, .un, .un, .un] _
  refine go_cons (gs_asg [5, 6] (Do.of (ev_nm C 1 rfl) (bd_tup C (bs_cons (bd_nm C 5 (bs_cons (bd_nm C 6 (bs_nil ?_))))))))
  refine go_cons (gs_new C 7 (df_callM C 0 (F2 pl) (DoA.of (ea_cons (ev_nm C 2 rfl) (ea_cons (ev_dget C (ev_fld C sp.cls sp.places (ev_nm C 0 rfl) rfl).r (ev_tup (ea_cons (ev_nm C 5 rfl) (ea_cons ev_str (ea_cons (ev_nm C 6 rfl) ea_nil)))) hn) ea_nil)) ⟨rfl, ?_⟩)))
  rintro _ ⟨pz, rfl, hpl⟩
  refine go_cons (gs_new C 8 (DoF.of (ef_lst ea_nil) ?_))
  refine go_cons (gs_for C [9, 10] (di_enumT C 1 (Do.of (ev_ix C (ev_nm C 2 rfl).r ev_int rfl rfl) ⟨_, rfl, ?_⟩) T.enumerate))
  refine ⟨fun r Δ => ∃ (j : Nat) (done left : List Str) (ls : List (List D)) (a b : Slot), r = enumF j (left.map D.str) ∧ Δ = [.d (.ins C0 (Sf v kds pds)), .d (.tup [.int (i : Nat), .int (k : Nat)]), .d (.tup [.str "use", .int (n : Nat), .str x, .tup (as.map D.str)]), .d (.tup (ps.map D.str)), .d gd, .d (.int (i : Nat)), .d (.int (k : Nat)), .own (.lst (pz.map D.int)), .own (.lst (ls.map D.lst)), a, b] ∧ done ++ left = as ∧ j = done.length ∧ Paired Cells (done.map fun a => fill a ps gs) ls,
    ⟨0, [], as, [], _, _, rfl, rfl, rfl, rfl, .nil⟩, fun y r Δ2 hJ => ?_, fun Δ2 hJ => ?_⟩
  · obtain ⟨j, done, left, ls, sa, sb, hr, rfl, he, hj, hq⟩ := hJ
    cases left with
    | nil => cases hr
    | cons q left =>
      injection hr with h1 h2
      subst h1 h2
      have hal : done.length + (left.length + 1) = as.length := by rw [← he]; simp
      have hls := Paired.length hq
      rw [List.length_map] at hls
      obtain ⟨z, hz⟩ : ∃ z, pz[j]? = some z := ⟨_, List.getElem?_eq_getElem (by omega)⟩
      refine bd_tup C (bs_cons (bd_nm C 9 (bs_cons (bd_nm C 10 (bs_nil ?_)))))
      refine go_cons (gs_append C 8 rfl (DoF.kn (df_callM C 2 (P := fun o => ∃ zs, o = .lst zs ∧ Cells (fill q ps gs) zs) (F1 q z [.int (i : Nat), .str "code", .int (k : Nat), .str "arg", .int (j : Nat)] (by rw [← he]; simp) (Nat.le_of_ble_eq_true rfl)) (DoA.of (ea_cons (ev_nm C 10 rfl) (ea_cons (ev_nm C 3 rfl) (ea_cons (ev_ix (d := .int z) C (er_own C 7 rfl rfl) (ev_nm C 9 rfl) rfl (atI_nat (by rw [List.getElem?_map, hz]; rfl))) (ea_cons (ev_tup (ea_cons (ev_nm C 5 rfl) (ea_cons ev_str (ea_cons (ev_nm C 6 rfl) (ea_cons ev_str (ea_cons (ev_nm C 9 rfl) ea_nil)))))) (ea_cons (ev_nm C 4 rfl) ea_nil))))) ⟨rfl, fun o h => h⟩)) ?_))
      rintro _ ⟨zs, rfl, hzs⟩
      refine ⟨.lst zs, rfl, by rw [List.length_map]; omega, go_nil ?_⟩
      refine ⟨j + 1, done ++ [q], left, ls ++ [zs], .d (.int (j : Nat)), .d (.str q), rfl, ?_, by rw [← he]; simp, by rw [List.length_append]; show j + 1 = _ + 1; omega, ?_⟩
      · rw [List.map_append]; rfl
      · rw [List.map_append]; exact Paired.snoc hq hzs
  · obtain ⟨j, done, left, ls, sa, sb, hr, rfl, he, hj, hq⟩ := hJ
    cases left with
    | cons q left => cases hr
    | nil =>
      rw [List.append_nil] at he
      subst he
      exact go_cons (gs_retO C 8 rfl rfl ⟨ls, rfl, hq⟩)
end
end Kn
/-! K16: a, b = x, y. -/
namespace Kn
open PySem PySem.Spec PyProof.Rows L2
section
variable {X : Cx} {E : En} {N G : List Str} {vb wb : List Bool} {sc : Scope} {k : Nat} {Δ Δ' : List Slot} {d d1 d2 d3 : D} {a b c e o : Expr} {pos p apos px py pt pt2 : Pos} {x y : Str} {kt k2 : Nat}
theorem gs_par (C : Cz E N vb wb G sc k X) (i j : Nat) {P : Ps} (ha : DoA X E [a, b] Δ fun ds => ∃ d1 d2, ds = [d1, d2] ∧ P.nx ((Δ.set i (.d d1)).set j (.d d2))) (hi : N[i]? = some x := by rfl) (hj : N[j]? = some y := by rfl) (hij : i ≠ j := by decide) (hx : sc.names.lookup x = some .local := by rfl) (hy : sc.names.lookup y = some .local := by rfl)
    (hw : ∀ env : Env, swappedStores [.Tuple [.Name x px, .Name y py] kt pt] (.Tuple [a, b] k2 pt2) { env with scope := sc } = pure (some [x, y]) := by intro _; rfl)
    (hs : swapsWithSole [.Tuple [.Name x px, .Name y py] kt pt] (.Tuple [a, b] k2 pt2) pos.line X.env = pure false := by rfl) : GoS X E (.Assign [.Tuple [.Name x px, .Name y py] kt pt] (.Tuple [a, b] k2 pt2) pos) Δ P := fun σ B H S D0 M => by
  intro pins s I
  have hl : σ.length = X.N.length := I.len
  have hiN : X.N[i]? = some x := by rw [C.hN]; exact hi
  have hjN : X.N[j]? = some y := by rw [C.hN]; exact hj
  have hil : i < σ.length := by rw [hl]; exact (List.getElem?_eq_some_iff.mp hiN).1
  have hjl : j < σ.length := by rw [hl]; exact (List.getElem?_eq_some_iff.mp hjN).1
  have e : { X.env with scope := sc } = X.env := by rw [← C.hsc]
  refine (WS.of (ps_par (i := i) (j := j) C.calm (by rw [C.hN]; exact C.nd) hiN hjN hij (by rw [C.hsc]; exact hx) (by rw [C.hsc]; exact hy) (pa_W _) (by have := hw X.env; rw [e] at this; exact this) hs) ?_ : WS X _ D0 σ H) pins s I
  exact ha σ B H S _ fun vs B' H' ds x' S' r ⟨d1, d2, e1, hP⟩ => by
    subst e1
    cases r with
    | cons r1 r2 =>
      cases r2 with
      | cons r2 r3 =>
        cases r3
        exact ⟨_, _, rfl, M.nx _ B' H' _ x'.eb ((S'.setD hil r1).setD (by rw [List.length_set]; exact hjl) r2) hP⟩
end
end Kn
/-! P11: steps. -/
namespace Kn
open PySem PySem.Spec PyProof.Rows L2
def codeAtIx (v : List Se) (i : Nat) : List (Nat × Nat × Ln) := match v[i]? with
  | some s => numb i 0 s.code
  | none => []
theorem codeFrom_secs (x : Str) : ∀ (ss pre : List Se), codeFrom x pre.length ss = (secsFrom x pre.length ss).flatMap (codeAtIx (pre ++ ss))
  | [], pre => rfl
  | s :: ss, pre => by
    have ih := codeFrom_secs x ss (pre ++ [s])
    rw [List.length_append, List.append_assoc] at ih
    have ih : codeFrom x (pre.length + 1) ss = (secsFrom x (pre.length + 1) ss).flatMap (codeAtIx (pre ++ s :: ss)) := ih
    rw [codeFrom, secsFrom, ih]
    unfold codeAt isOf
    cases hh : s.head with
    | none => simp
    | some h =>
      by_cases e : h.name = x
      · simp only [if_pos e, decide_eq_true e, if_true, List.flatMap_cons]
        congr 1
        unfold codeAtIx
        have : (pre ++ s :: ss)[pre.length]? = some s := by simp
        rw [this]
      · simp [e]
theorem codeIn_secs (v : List Se) (x : Str) : codeIn v x = (secs v x).flatMap (codeAtIx v) := codeFrom_secs x v []
theorem secs_mem {x : Str} {i : Nat} : ∀ {ss pre : List Se}, i ∈ secsFrom x pre.length ss → ∃ s g, (pre ++ ss)[i]? = some s ∧ s.head = some g ∧ g.name = x
  | [], pre, h => by cases h
  | s :: ss, pre, h => by
    rw [secsFrom] at h
    have rec1 : i ∈ secsFrom x (pre.length + 1) ss → ∃ s' g, (pre ++ s :: ss)[i]? = some s' ∧ s'.head = some g ∧ g.name = x := fun q => by
      have := secs_mem (ss := ss) (pre := pre ++ [s]) (by rw [List.length_append]; exact q)
      rw [List.append_assoc] at this
      exact this
    split at h
    · rename_i hb
      rcases List.mem_cons.mp h with q | q
      · subst q
        unfold isOf at hb
        cases hh : s.head with
        | none => rw [hh] at hb; cases hb
        | some g => rw [hh] at hb; exact ⟨s, g, by simp, hh, of_decide_eq_true hb⟩
      · exact rec1 q
    · exact rec1 h
theorem secs_mem' {v : List Se} {x : Str} {i : Nat} (h : i ∈ secs v x) : ∃ s g, v[i]? = some s ∧ s.head = some g ∧ g.name = x := secs_mem (pre := []) h
theorem secs_ne {v : List Se} {x : Str} (h : x ∈ names v) : secs v x ≠ [] := by
  obtain ⟨t, ht, g, hg, e⟩ := names_mem h
  have : ∀ (ss : List Se) (i : Nat), t ∈ ss → secsFrom x i ss ≠ [] := fun ss => by
    induction ss with
    | nil => intro i h; cases h
    | cons s ss ih =>
      intro i h
      rw [secsFrom]
      split
      · simp
      · rename_i hb
        rcases List.mem_cons.mp h with q | q
        · subst q; exfalso; apply hb; unfold isOf; rw [hg]; exact decide_eq_true e
        · exact ih _ q
  exact this v 0 ht
theorem numb_mem {i k j : Nat} {l : Ln} {ls : List Ln} {e : Nat × Nat × Ln} : e ∈ numb i k ls → e.1 = i ∧ ∃ n, e.2.1 = k + n ∧ ls[n]? = some e.2.2 := by
  induction ls generalizing k with
  | nil => intro h; cases h
  | cons l ls ih =>
    intro h
    rcases List.mem_cons.mp h with q | q
    · subst q; exact ⟨rfl, 0, rfl, rfl⟩
    · obtain ⟨h1, n, h2, h3⟩ := ih q
      exact ⟨h1, n + 1, by omega, h3⟩
theorem codeIn_mem {v : List Se} {x : Str} {e : Nat × Nat × Ln} (h : e ∈ codeIn v x) : ∃ s g, v[e.1]? = some s ∧ s.code[e.2.1]? = some e.2.2 ∧ s.head = some g ∧ g.name = x := by
  rw [codeIn_secs] at h
  obtain ⟨i, hi, he⟩ := List.mem_flatMap.mp h
  obtain ⟨s, g, h1, h2, h3⟩ := secs_mem' hi
  unfold codeAtIx at he
  rw [h1] at he
  obtain ⟨e1, n, e2, e3⟩ := numb_mem (j := 0) (l := e.2.2) he
  rw [Nat.zero_add] at e2
  exact ⟨s, g, by rw [e1]; exact h1, by rw [e2]; exact e3, h2, h3⟩
def itemD (ps : List Str) (md : List D) (gd : D) (wd : List D) (e : Nat × Nat × Ln) : D := .tup [.tup [.int (e.1 : Nat), .int (e.2.1 : Nat)], e.2.2.d, .tup (ps.map D.str), .lst md, gd, .tup wd]
section
variable {P : Program} {w : World} {K : PySem.W.Frag} {mg : Str → Option Value} {base : Heap} {C0 : Addr}
theorem ok_steps (T : Tx mg) (sp : SpC K C0) (A : AtM K C0 "steps" "Spreader.steps" s_Sp_steps P_Sp_steps) (v : List Se) (hv : WebOk v) (kds : List (List Key × D)) (pds : List (Key × D)) (hk : Pieced v pds) (g : Hd) (hg : hfind (heads v) g.name = some g) (md : List D) (gd : D) (wd : List D) :
    MtD P w K mg base C0 "steps" 1 (spM K (fun ds => ds = [.ins C0 (Sf v kds pds), .str g.name, .lst md, gd, .tup wd]) fun _ o => o = .lst ((codeIn v g.name).reverse.map (itemD g.params md gd wd))) := by
  refine A.m sc_Sp_steps dc_Sp_steps (fun ds h => by subst h; rfl) fun X B H ds C hR => ?_
  subst hR
  have few := hv.few
  have hx : g.name ∈ names v := Classical.byContradiction fun z => by rw [hfind_none.mpr z] at hg; cases hg
  have hlu := hk g.name (secs_ne hx)
  have cl := codeFrom_len g.name 0 v fun s hs => (hv.se s hs).short
  have same : ∀ {i : Nat} {s : Se} {q : Hd}, v[i]? = some s → s.head = some q → q.name = g.name → q = g := fun {i s q} h1 h2 h3 => by
    have := hfind_head hv (List.mem_of_getElem? h1) h2
    rw [h3, hg] at this
    exact (Option.some.inj this).symm
  show Go X _ _ [.d (.ins C0 (Sf v kds pds)), .d (.str g.name), .d (.lst md), .d gd, .d (.tup wd), .un, .un, .un, .un, .un, .un] _
  refine go_cons (gs_new C 5 (DoF.of (ef_lst ea_nil) ?_))
  refine go_cons (gs_for C [6, 7, 8, 9, 10] (di_list C (Do.of (ev_dget (d := .lst (natsD (secs v g.name))) C (ev_fld C sp.cls sp.pieces (ev_nm C 0 rfl) rfl).r (ev_nm C 1 rfl) (.inr (.inl ⟨_, _, rfl, rfl, hlu.symm⟩))) ⟨_, rfl, ?_⟩)))
  refine ⟨fun r Δ => ∃ (left : List Nat) (acc : List (Nat × Nat × Ln)) (a b c d e : Slot), r = natsD left ∧ Δ = [.d (.ins C0 (Sf v kds pds)), .d (.str g.name), .d (.lst md), .d gd, .d (.tup wd), .own (.lst (acc.map (itemD g.params md gd wd))), a, b, c, d, e] ∧ (∀ i ∈ left, i ∈ secs v g.name) ∧ acc ++ left.flatMap (codeAtIx v) = codeIn v g.name,
    ⟨secs v g.name, [], _, _, _, _, _, rfl, rfl, fun i h => h, (codeIn_secs v g.name).symm⟩, fun y r Δ2 hJ => ?_, fun Δ2 hJ => ?_⟩
  · obtain ⟨left, acc, sa, sb, scc, sd, se, hr, rfl, hs, hq⟩ := hJ
    cases left with
    | nil => cases hr
    | cons i left =>
      injection hr with h1 h2
      subst h1 h2
      obtain ⟨s, q, h1, h2, h3⟩ := secs_mem' (hs i List.mem_cons_self)
      have eq := same h1 h2 h3
      subst eq
      have hcode : codeAtIx v i = numb i 0 s.code := by unfold codeAtIx; rw [h1]
      have hvi : (v.map Se.d)[i]? = some s.d := by rw [List.getElem?_map, h1]; rfl
      have hsh : s.d = .tup [.tup (s.prose.map D.str), q.d, .tup (s.code.map Ln.d)] := by unfold Se.d; rw [h2]; rfl
      rw [List.flatMap_cons, hcode] at hq
      have hal : acc.length + s.code.length ≤ 96 := by
        have h5 : (codeIn v q.name).length ≤ 8 * v.length := cl
        rw [← hq] at h5
        simp only [List.length_append, numb_len] at h5
        omega
      refine bd_nm C 6 ?_
      refine go_cons (gs_par C 7 8 (DoA.of (ea_cons (ev_ix (d := q.d) (d1 := s.d) C (ev_ix (d1 := webD v) C (ev_fld C sp.cls sp.web (ev_nm C 0 rfl) rfl).r (ev_nm C 6 rfl) rfl (atI_nat hvi)).r ev_int (by rw [hsh]; rfl) rfl) (ea_cons (ev_ix (d := .tup (s.code.map Ln.d)) (d1 := s.d) C (ev_ix (d1 := webD v) C (ev_fld C sp.cls sp.web (ev_nm C 0 rfl) rfl).r (ev_nm C 6 rfl) rfl (atI_nat hvi)).r ev_int (by rw [hsh]; rfl) rfl) ea_nil)) ⟨_, _, rfl, ?_⟩))
      show Go X _ _ [.d (.ins C0 (Sf v kds pds)), .d (.str q.name), .d (.lst md), .d gd, .d (.tup wd), .own (.lst (acc.map (itemD q.params md gd wd))), .d (.int (i : Nat)), .d q.d, .d (.tup (s.code.map Ln.d)), sd, se] _
      refine go_cons (gs_for C [9, 10] (di_enumT C 0 (Do.of (ev_nm C 8 rfl) ⟨_, rfl, ?_⟩) T.enumerate))
      refine ⟨fun r Δ => ∃ (k : Nat) (ls : List Ln) (acc2 : List (Nat × Nat × Ln)) (a b : Slot), r = enumF k (ls.map Ln.d) ∧ Δ = [.d (.ins C0 (Sf v kds pds)), .d (.str q.name), .d (.lst md), .d gd, .d (.tup wd), .own (.lst (acc2.map (itemD q.params md gd wd))), .d (.int (i : Nat)), .d q.d, .d (.tup (s.code.map Ln.d)), a, b] ∧ acc2.length + ls.length = acc.length + s.code.length ∧ acc2 ++ (numb i k ls ++ left.flatMap (codeAtIx v)) = codeIn v q.name,
        ⟨0, s.code, acc, _, _, rfl, rfl, rfl, hq⟩, fun y r Δ2 hJ => ?_, fun Δ2 hJ => ?_⟩
      · obtain ⟨k, ls, acc2, sa2, sb2, hr, rfl, hl2, hq2⟩ := hJ
        cases ls with
        | nil => cases hr
        | cons l ls =>
          injection hr with h1 h2
          subst h1 h2
          rw [List.length_cons] at hl2
          refine bd_tup C (bs_cons (bd_nm C 9 (bs_cons (bd_nm C 10 (bs_nil ?_)))))
          refine go_cons (gs_append C 5 rfl (Do.of (ev_tup (ea_cons (ev_tup (ea_cons (ev_nm C 6 rfl) (ea_cons (ev_nm C 9 rfl) ea_nil))) (ea_cons (ev_nm C 10 rfl) (ea_cons (ev_ix (d := .tup (q.params.map D.str)) C (ev_nm C 7 rfl).r ev_int rfl rfl) (ea_cons (ev_nm C 2 rfl) (ea_cons (ev_nm C 3 rfl) (ea_cons (ev_nm C 4 rfl) ea_nil))))))) ⟨by rw [List.length_map]; omega, go_nil ?_⟩))
          refine ⟨k + 1, ls, acc2 ++ [(i, k, l)], .d (.int (k : Nat)), .d l.d, rfl, ?_, by rw [List.length_append]; show acc2.length + 1 + _ = _; omega, ?_⟩
          · rw [List.map_append]; rfl
          · rw [List.append_assoc]; exact hq2
      · obtain ⟨k, ls, acc2, sa2, sb2, hr, rfl, hl2, hq2⟩ := hJ
        cases ls with
        | cons l ls => cases hr
        | nil =>
          exact go_nil ⟨left, acc2, _, _, _, _, _, rfl, rfl, fun j hj => hs j (List.mem_cons_of_mem _ hj), hq2⟩
  · obtain ⟨left, acc, sa, sb, scc, sd, se, hr, rfl, hs, hq⟩ := hJ
    cases left with
    | cons i left => cases hr
    | nil =>
      refine go_cons (gs_reverse C 5 rfl ?_)
      refine go_cons (gs_retO C 5 rfl rfl ?_)
      show O.lst _ = O.lst _
      rw [← hq, List.flatMap_nil, List.append_nil, List.map_reverse]
end
end Kn
/-! P12: what a text comes to; the stack. -/
namespace Kn
open PySem PySem.Spec PyProof.Rows L2
def parsOf (v : List Se) (x : Str) : List Str := match hfind (heads v) x with
  | some h => h.params
  | none => []
abbrev Lay := Str → List Nat → List (List Nat) → Option (List Nat)
def layL (f : Lay) (ps : List Str) (m : List Nat) (gs : List (List Nat)) : Ln → Option (List Nat)
  | .plain s => if (fill s ps gs).length > 400 then none else some (rowOf s ps m gs)
  | .use n x as => if ∃ a ∈ as, (fill a ps gs).length > 400 then none else f x (m ++ List.replicate n 32) (as.map fun a => fill a ps gs)
def layLs (f : Lay) (ps : List Str) (m : List Nat) (gs : List (List Nat)) : List Ln → Option (List Nat)
  | [] => some []
  | l :: r => match layL f ps m gs l with
    | none => none
    | some a => match layLs f ps m gs r with
      | none => none
      | some b => some (a ++ b)
def linesOf (v : List Se) (x : Str) : List Ln := (codeIn v x).map fun e => e.2.2
def lay (v : List Se) : Nat → Lay
  | 0 => fun _ _ _ => none
  | f + 1 => fun x m gs => layLs (lay v f) (parsOf v x) m gs (linesOf v x)
def cost (v : List Se) : Nat → Ln → Nat
  | 0 => fun _ => 1
  | f + 1 => fun l => match l with
    | .plain _ => 1
    | .use _ x _ => 1 + ((linesOf v x).map (cost v f)).sum
theorem cost_pos (v : List Se) (f : Nat) (l : Ln) : 1 ≤ cost v f l := by
  cases f with
  | zero => exact Nat.le_refl _
  | succ f =>
    cases l with
    | plain s => exact Nat.le_refl _
    | use n x as => exact Nat.le_add_right _ _
theorem layLs_some {f : Lay} {ps : List Str} {m : List Nat} {gs : List (List Nat)} : ∀ {ls : List Ln} {c : List Nat}, layLs f ps m gs ls = some c → ∃ cs : List (List Nat), Paired (fun l c => layL f ps m gs l = some c) ls cs ∧ c = cs.flatten
  | [], c, h => ⟨[], .nil, by cases h; rfl⟩
  | l :: r, c, h => by
    unfold layLs at h
    split at h
    · cases h
    · rename_i a ha
      split at h
      · cases h
      · rename_i b hb
        cases h
        obtain ⟨cs, h1, h2⟩ := layLs_some hb
        exact ⟨a :: cs, .cons ha h1, by rw [h2]; rfl⟩
/-- nothing is missing, the counts fit -/
structure Whole (v : List Se) : Prop where
  ok : WebOk v
  use : ∀ s ∈ v, ∀ n x as, Ln.use n x as ∈ s.code → ∃ g, hfind (heads v) x = some g ∧ as.length = g.params.length
structure Itm where
  e : Nat × Nat × Ln
  f : Nat
  ps : List Str
  m : List Nat
  gs : List (List Nat)
  md : List D
  gd : D
  wd : List D
  c : List Nat
def Itm.d (t : Itm) : D := itemD t.ps t.md t.gd t.wd t.e
structure ItOk (v : List Se) (N : Nat) (t : Itm) : Prop where
  here : ∃ s, v[t.e.1]? = some s ∧ s.code[t.e.2.1]? = some t.e.2.2
  pss : ∀ p ∈ t.ps, p.length ≤ 1000
  many : t.ps.length ≤ t.gs.length
  gd : Gs t.gs t.gd
  small : ∀ g ∈ t.gs, g.length ≤ 400
  cells : Cells t.m t.md
  ml : t.m.length + 20 * t.f ≤ 20 * N
  wl : t.wd.length + t.f ≤ N
  out : layL (lay v t.f) t.ps t.m t.gs t.e.2.2 = some t.c
/-- a stack, bottom first -/
structure Stk (v : List Se) (N : Nat) (ts : List Itm) : Prop where
  ok : ∀ t ∈ ts, ItOk v N t
  at_ : ∀ (i : Nat) (t : Itm), ts[i]? = some t → i + 1 ≤ 96 * (N - t.f + 1)
theorem Stk.pop {v : List Se} {N : Nat} {ts : List Itm} {t : Itm} (h : Stk v N (ts ++ [t])) : Stk v N ts :=
  ⟨fun u hu => h.ok u (List.mem_append_left _ hu), fun i u hu => h.at_ i u (by rw [List.getElem?_append_left (List.getElem?_eq_some_iff.mp hu).1]; exact hu)⟩
theorem Stk.push {v : List Se} {N : Nat} {ts us : List Itm} {t : Itm} {f : Nat} (h : Stk v N (ts ++ [t])) (hf : t.f = f + 1) (hN : t.f ≤ N) (hu : ∀ u ∈ us, ItOk v N u ∧ u.f = f) (hl : us.length ≤ 96) : Stk v N (ts ++ us) := by
  have ht := h.at_ ts.length t (by simp)
  refine ⟨fun u hm => ?_, fun i u hi => ?_⟩
  · rcases List.mem_append.mp hm with q | q
    · exact h.pop.ok u q
    · exact (hu u q).1
  · by_cases hlt : i < ts.length
    · rw [List.getElem?_append_left hlt] at hi
      exact h.pop.at_ i u hi
    · rw [List.getElem?_append_right (by omega)] at hi
      have h1 := (List.getElem?_eq_some_iff.mp hi).1
      have h2 := (hu u (List.mem_of_getElem? hi)).2
      rw [h2]
      have e : N - f + 1 = (N - t.f + 1) + 1 := by omega
      rw [e, Nat.mul_add]
      omega
theorem Stk.len {v : List Se} {N : Nat} {ts : List Itm} (h : Stk v N ts) : ts.length ≤ 96 * (N + 1) := by
  rcases List.eq_nil_or_concat ts with e | ⟨us, t, e⟩
  · subst e; simp
  · rw [List.concat_eq_append] at e
    subst e
    have := h.at_ us.length t (by simp)
    rw [List.length_append]
    show us.length + 1 ≤ _
    have h2 : 96 * (N - t.f + 1) ≤ 96 * (N + 1) := Nat.mul_le_mul_left _ (by omega)
    omega
/-- what the stack will give -/
def outs (ts : List Itm) : List Nat := (ts.reverse.map fun t => t.c).flatten
theorem outs_snoc (ts : List Itm) (t : Itm) : outs (ts ++ [t]) = t.c ++ outs ts := by unfold outs; simp
theorem outs_app (ts us : List Itm) : outs (ts ++ us) = outs us ++ outs ts := by unfold outs; simp
def costs (v : List Se) (ts : List Itm) : Nat := (ts.map fun t => cost v t.f t.e.2.2).sum
theorem costs_snoc (v : List Se) (ts : List Itm) (t : Itm) : costs v (ts ++ [t]) = costs v ts + cost v t.f t.e.2.2 := by unfold costs; simp
theorem costs_app (v : List Se) (ts us : List Itm) : costs v (ts ++ us) = costs v ts + costs v us := by unfold costs; simp
/-- the items of a name's lines -/
def itemsOf (f : Nat) (ps : List Str) (m : List Nat) (gs : List (List Nat)) (md : List D) (gd : D) (wd : List D) : List (Nat × Nat × Ln) → List (List Nat) → List Itm
  | e :: es, c :: cs => ⟨e, f, ps, m, gs, md, gd, wd, c⟩ :: itemsOf f ps m gs md gd wd es cs
  | _, _ => []
theorem items_d {f : Nat} {ps : List Str} {m : List Nat} {gs : List (List Nat)} {md : List D} {gd : D} {wd : List D} : ∀ {es : List (Nat × Nat × Ln)} {cs : List (List Nat)}, es.length = cs.length → (itemsOf f ps m gs md gd wd es cs).map Itm.d = es.map (itemD ps md gd wd) ∧ (itemsOf f ps m gs md gd wd es cs).map (·.c) = cs ∧ (itemsOf f ps m gs md gd wd es cs).map (·.e) = es
  | [], [], _ => ⟨rfl, rfl, rfl⟩
  | [], _ :: _, h => by cases h
  | _ :: _, [], h => by cases h
  | e :: es, c :: cs, h => by
    obtain ⟨h1, h2, h3⟩ := items_d (f := f) (ps := ps) (m := m) (gs := gs) (md := md) (gd := gd) (wd := wd) (Nat.succ.inj h)
    exact ⟨congrArg (_ :: ·) h1, congrArg (_ :: ·) h2, congrArg (_ :: ·) h3⟩
theorem items_mem {f : Nat} {ps : List Str} {m : List Nat} {gs : List (List Nat)} {md : List D} {gd : D} {wd : List D} {t : Itm} : ∀ {es : List (Nat × Nat × Ln)} {cs : List (List Nat)}, t ∈ itemsOf f ps m gs md gd wd es cs → ∃ e c, t = ⟨e, f, ps, m, gs, md, gd, wd, c⟩ ∧ e ∈ es ∧ ∃ i : Nat, es[i]? = some e ∧ cs[i]? = some c
  | [], _, h => by cases h
  | _ :: _, [], h => by cases h
  | e :: es, c :: cs, h => by
    rcases List.mem_cons.mp h with q | q
    · exact ⟨e, c, q, List.mem_cons_self, 0, rfl, rfl⟩
    · obtain ⟨e', c', h1, h2, i, h3, h4⟩ := items_mem q
      exact ⟨e', c', h1, List.mem_cons_of_mem _ h2, i + 1, h3, h4⟩
/-- a name laid: its items stand on the stack -/
theorem lay_items {v : List Se} (hv : WebOk v) {N f : Nat} {x : Str} {m : List Nat} {gs : List (List Nat)} {md : List D} {gd : D} {wd : List D} {g : Hd} {c : List Nat} (hg : hfind (heads v) x = some g) (h : lay v (f + 1) x m gs = some c) (hgs : g.params.length ≤ gs.length) (hgd : Gs gs gd) (small : ∀ a ∈ gs, a.length ≤ 400) (hc : Cells m md) (hm : m.length + 20 * f ≤ 20 * N) (hw : wd.length + f ≤ N) :
    ∃ us : List Itm, us.map Itm.d = (codeIn v x).map (itemD g.params md gd wd) ∧ (us.map fun t => t.c).flatten = c ∧ (∀ u ∈ us, ItOk v N u ∧ u.f = f) ∧ us.length ≤ 96 ∧ us.map (fun t => cost v t.f t.e.2.2) = (linesOf v x).map (cost v f) := by
  have hp : parsOf v x = g.params := by unfold parsOf; rw [hg]
  obtain ⟨t0, ht0, e0, e1⟩ := heads_mem (hfind_mem hg)
  have gok := (hv.se t0 ht0).head g e0
  have h : layLs (lay v f) (parsOf v x) m gs (linesOf v x) = some c := h
  rw [hp] at h
  obtain ⟨cs, hcs, rfl⟩ := layLs_some h
  have hl : (codeIn v x).length = cs.length := by rw [← Paired.length hcs]; unfold linesOf; rw [List.length_map]
  obtain ⟨q1, q2, q3⟩ := items_d (f := f) (ps := g.params) (m := m) (gs := gs) (md := md) (gd := gd) (wd := wd) hl
  refine ⟨itemsOf f g.params m gs md gd wd (codeIn v x) cs, q1, by rw [q2], fun u hu => ?_, ?_, ?_⟩
  · obtain ⟨e, c, rfl, he, i, h1, h2⟩ := items_mem hu
    obtain ⟨s, g', s1, s2, _⟩ := codeIn_mem he
    refine ⟨⟨⟨s, s1, s2⟩, fun p hp => ?_, hgs, hgd, small, hc, hm, hw, ?_⟩, rfl⟩
    · have := (gok.all p hp).le; show p.length ≤ 1000; omega
    · obtain ⟨c', h3, h4⟩ := pd_get hcs (i := i) (x := e.2.2) (by unfold linesOf; rw [List.getElem?_map, h1]; rfl)
      rw [h2] at h3; cases h3
      exact h4
  · have e4 := congrArg List.length q3
    rw [List.length_map] at e4
    rw [e4]
    have := codeFrom_len x 0 v fun s hs => (hv.se s hs).short
    have few := hv.few
    show (codeFrom x 0 v).length ≤ 96
    omega
  · have e5 : (itemsOf f g.params m gs md gd wd (codeIn v x) cs).map (fun t => cost v t.f t.e.2.2) = ((itemsOf f g.params m gs md gd wd (codeIn v x) cs).map (·.e)).map fun e => cost v f e.2.2 := by
      rw [List.map_map]
      refine List.map_congr_left fun t ht => ?_
      obtain ⟨e, c, rfl, _⟩ := items_mem ht
      rfl
    rw [e5, q3]
    unfold linesOf
    rw [List.map_map]
    rfl
end Kn
/-! P13: spread. -/
namespace Kn
open PySem PySem.Spec PyProof.Rows L2
def LineD (c : List Nat) (d : D) : Prop := ∃ a b zs, d = .tup [a, b, .tup zs] ∧ Cells c zs
theorem upto_ints : ∀ {lo : Int} {n : Nat} {x : D}, x ∈ upto lo n → ∃ i, x = .int i
  | _, 0, _, h => by cases h
  | lo, n + 1, x, h => by
    rw [upto_succ] at h
    rcases List.mem_cons.mp h with q | q
    · exact ⟨_, q⟩
    · exact upto_ints q
def padD (pl : Int) : D → D
  | .int i => .tup [.str " ", .int (pl + 1 + i), .str "margin", .non]
  | d => d
theorem pad_cells (pl : Int) : ∀ (lo : Int) (n : Nat), Cells (List.replicate n 32) ((upto lo n).map (padD pl))
  | _, 0 => .nil
  | lo, n + 1 => by
    rw [upto_succ, List.replicate_succ]
    exact .cons ⟨_, _, _, rfl⟩ (pad_cells pl (lo + 1) n)
theorem rowOf_pos (s : Str) (ps : List Str) (m : List Nat) (gs : List (List Nat)) : 1 ≤ (rowOf s ps m gs).length := by unfold rowOf; rw [List.length_append]; show 1 ≤ _ + 1; omega
/-- the Spreader's text -/
structure SpT (K : PySem.W.Frag) (mg : Str → Option Value) (C0 : Addr) : Prop where
  t : Tx mg
  sp : SpC K C0
  slot_at : At K mg "slot_at" s_slot_at P_slot_at
  parts_of : At K mg "parts_of" s_parts_of P_parts_of
  filled_cells : At K mg "filled_cells" s_filled_cells P_filled_cells
  argument_places : At K mg "argument_places" s_argument_places P_argument_places
  plain : AtM K C0 "plain" "Spreader.plain" s_Sp_plain P_Sp_plain
  handed_on : AtM K C0 "handed_on" "Spreader.handed_on" s_Sp_handed_on P_Sp_handed_on
  steps : AtM K C0 "steps" "Spreader.steps" s_Sp_steps P_Sp_steps
  spread : AtM K C0 "spread" "Spreader.spread" s_Sp_spread P_Sp_spread
section
variable {P : Program} {w : World} {K : PySem.W.Frag} {mg : Str → Option Value} {base : Heap} {C0 : Addr}
theorem SpT.fill (A : SpT K mg C0) (line : Str) (ps : List Str) (at_ : Int) (owner : List D) (gs : List (List Nat)) (gd : D) (hp : FillPre line ps owner gs gd) : FnD P w K mg base "filled_cells" 3 (spM K (fun ds => ds = [.str line, .tup (ps.map D.str), .int at_, .tup owner, gd]) fun _ o => ∃ zs, o = .lst zs ∧ Cells (fill line ps gs) zs) :=
  ok_filled_cells A.t A.filled_cells (ok_parts_of A.t A.parts_of (ok_slot_at A.t A.slot_at)) line ps at_ owner gs gd hp
theorem body_spread {X : Cx} {B H : Hp} (A : SpT K mg C0) (C : Cz ⟨P, w, K, mg, base, [], B, H⟩ N_Sp_spread V_Sp_spread V_Sp_spread G_Sp_spread (defScope s_Sp_spread) 4 X) (v : List Se) (hw : Whole v) (kds : List (List Key × D)) (pds : List (Key × D)) (hk : Placed v kds) (hpi : Pieced v pds) (N : Nat) (g : Hd) (hg : hfind (heads v) g.name = some g) (hgf : g.params = []) (c : List Nat) (hN : N ≤ 40) (hlay : lay v (N + 1) g.name [] [] = some c) (hc : c.length ≤ 3000) :
    Go X ⟨P, w, K, mg, base, [], B, H⟩ (defBody s_Sp_spread) [.d (.ins C0 (Sf v kds pds)), .d (.str g.name), .un, .un, .un, .un, .un, .un, .un, .un, .un, .un, .un, .un] { nx := fun _ => False, rt := fun d _ => ∃ (cs : List (List Nat)) (zs : List D), d = .tup zs ∧ Paired LineD cs zs ∧ cs.flatten = c ∧ zs.length ≤ 3000 } := by
  have hv := hw.ok
  have T := A.t
  have sp := A.sp
  refine go_cons (gs_new C 2 (DoF.of (ef_lst ea_nil) ?_))
  obtain ⟨us, u1, u2, u3, u4, u5⟩ := lay_items hv (N := N) (md := []) (gd := .lst []) (wd := []) hg hlay (by rw [hgf]; simp) ⟨[], rfl, .nil⟩ (by simp) .nil (by simp) (by simp)
  refine go_cons (gs_new C 3 (df_methM C sp.cls (ok_steps (P := P) (w := w) (base := base) T sp A.steps v hv kds pds hpi g hg [] (.lst []) []) (Do.of (ev_nm C 0 rfl) ⟨_, rfl, rfl, DoA.of (ea_cons (ev_nm C 1 rfl) (ea_cons (EvF.ld (ef_lst ea_nil)) (ea_cons (EvF.ld (ef_lst ea_nil)) (ea_cons (ev_tup ea_nil) ea_nil)))) ⟨rfl, ?_⟩⟩)))
  rintro _ rfl
  have e0 : (codeIn v g.name).reverse.map (itemD g.params [] (.lst []) []) = us.reverse.map Itm.d := by rw [List.map_reverse, List.map_reverse, u1]
  rw [e0]
  refine go_cons (gs_while C (fun mm Δ => ∃ (ts : List Itm) (cs : List (List Nat)) (zs : List D) (a4 a5 a6 a7 a8 a9 a10 a11 a12 a13 : Slot), Δ = [.d (.ins C0 (Sf v kds pds)), .d (.str g.name), .own (.lst zs), .own (.lst (ts.map Itm.d)), a4, a5, a6, a7, a8, a9, a10, a11, a12, a13] ∧ Stk v N ts ∧ Paired LineD cs zs ∧ zs.length ≤ cs.flatten.length ∧ cs.flatten ++ outs ts = c ∧ costs v ts = mm) (m0 := costs v us.reverse)
    ⟨us.reverse, [], [], _, _, _, _, _, _, _, _, _, _, rfl, ⟨fun t ht => (u3 t (List.mem_reverse.mp ht)).1, fun i t hi => ?_⟩, .nil, Nat.le_refl _, ?_, rfl⟩ ?_)
  · have h1 := (List.getElem?_eq_some_iff.mp hi).1
    rw [List.length_reverse] at h1
    have : 96 ≤ 96 * (N - t.f + 1) := Nat.le_mul_of_pos_right _ (by omega)
    omega
  · show [] ++ outs us.reverse = c
    unfold outs
    rw [List.reverse_reverse, List.nil_append]
    exact u2
  rintro mm _ ⟨ts, cs, zs, a4, a5, a6, a7, a8, a9, a10, a11, a12, a13, rfl, hst, hp, hzl, hq, hm⟩
  have hcl : cs.flatten.length + (outs ts).length = c.length := by rw [← List.length_append, hq]
  refine ⟨_, et_list C (er_own C 3 rfl rfl), fun hb => ?_, fun hb => ?_⟩
  · rcases List.eq_nil_or_concat ts with e | ⟨ts, t, e⟩
    · subst e; cases hb
    rw [List.concat_eq_append] at e
    subst e
    have ht := hst.ok t (by simp)
    obtain ⟨s, hs1, hs2⟩ := ht.here
    have hsm := List.mem_of_getElem? hs1
    have hlok := (hv.se s hsm).code _ (List.mem_of_getElem? hs2)
    have hml := ht.ml
    have hwl := ht.wl
    rw [outs_snoc] at hq hcl
    rw [List.length_append] at hcl
    rw [costs_snoc] at hm
    refine go_cons (gs_popA C 3 [4, 5, 6, 7, 8, 9] (ds := ts.map Itm.d) (d := t.d) (by rw [List.map_append]; rfl) (bd_tup C (bs_cons (bd_nm C 4 (bs_cons (bd_nm C 5 (bs_cons (bd_nm C 6 (bs_cons (bd_nm C 7 (bs_cons (bd_nm C 8 (bs_cons (bd_nm C 9 (bs_nil ?_)))))))))))))))
    refine go_less 10 (go_less 11 (go_less 12 (go_less 13 ?_)))
    show Go X _ _ [.d (.ins C0 (Sf v kds pds)), .d (.str g.name), .own (.lst zs), .own (.lst (ts.map Itm.d)), .d (.tup [.int (t.e.1 : Nat), .int (t.e.2.1 : Nat)]), .d t.e.2.2.d, .d (.tup (t.ps.map D.str)), .d (.lst t.md), .d t.gd, .d (.tup t.wd), .un, .un, .un, .un] _
    obtain ⟨⟨i, k, l⟩, f, ps, m, gs, md, gd, wd, ct⟩ := t
    simp only at hs1 hs2 hlok hml hwl hm hq hcl
    have hgd := ht.gd
    have hsmall := ht.small
    have hmany := ht.many
    have hpss := ht.pss
    have hcells := ht.cells
    have hout := ht.out
    simp only at hgd hsmall hmany hpss hcells hout
    have here : Here v i k l := ⟨s, hs1, hs2⟩
    cases l with
    | plain line =>
      have hll : line.length ≤ 40 := (show LineOk line from hlok).len
      have hrow : rowOf line ps m gs = ct := by
        have hout : (if (fill line ps gs).length > 400 then none else some (rowOf line ps m gs)) = some ct := hout
        split at hout
        · cases hout
        · exact Option.some.inj hout
      refine go_cons (gs_ifE (et_cmp co_eqS (ev_ix (d := .str "plain") C (ev_nm C 5 rfl).r ev_int rfl rfl).r ev_str.r) (fun _ => ?_) (fun h => by cases h))
      have hpos := rowOf_pos line ps m gs
      rw [hrow] at hpos
      refine go_cons (gs_append C 2 rfl (do_methN C sp.cls (ok_plain (P := P) (w := w) (base := base) T sp A.plain v kds pds hk i k line ps md m gs gd wd (fun at_ owner ho => A.fill line ps at_ owner gs gd ⟨hll, hpss, hmany, ho, hgd, hsmall⟩) here hcells hll hsmall (by omega)) (Do.of (ev_nm C 0 rfl) ⟨_, rfl, rfl, DoA.of (ea_cons (ev_nm C 4 rfl) (ea_cons (ev_ix (d := .str line) C (ev_nm C 5 rfl).r ev_int rfl rfl) (ea_cons (ev_nm C 6 rfl) (ea_cons (ev_nm C 7 rfl) (ea_cons (ev_nm C 8 rfl) (ea_cons (ev_nm C 9 rfl) ea_nil)))))) ⟨rfl, fun d hd => ⟨by omega, ?_⟩⟩⟩)))
      obtain ⟨a, b, z2, rfl, hz2⟩ := hd
      rw [hrow] at hz2
      refine go_cons (gs_continue ?_)
      have hcost := cost_pos v f (.plain line)
      refine ⟨costs v ts, by omega, ts, cs ++ [ct], zs ++ [.tup [a, b, .tup z2]], _, _, _, _, _, _, _, _, _, _, rfl, hst.pop, Paired.snoc hp ⟨a, b, z2, rfl, hz2⟩, ?_, ?_, rfl⟩
      · simp only [List.length_append, List.flatten_append, List.flatten_cons, List.flatten_nil, List.append_nil, List.length_cons, List.length_nil]
        omega
      · rw [List.flatten_append, ← hq]
        simp
    | use n x as =>
      obtain ⟨hn, hx, has, hargs⟩ := hlok
      obtain ⟨g2, hg2, hcount⟩ := hw.use s hsm n x as (List.mem_of_getElem? hs2)
      have hgx : g2.name = x := by
        obtain ⟨t0, ht0, e0, e1⟩ := heads_mem (hfind_mem hg2)
        exact e1.symm
      have hout : (if ∃ a ∈ as, (fill a ps gs).length > 400 then none else lay v f x (m ++ List.replicate n 32) (as.map fun a => fill a ps gs)) = some ct := hout
      split at hout
      · cases hout
      rename_i hsz
      obtain ⟨f', rfl⟩ : ∃ f', f = f' + 1 := by
        cases f with
        | zero => cases hout
        | succ f => exact ⟨f, rfl⟩
      have hsz2 : ∀ a ∈ as, (fill a ps gs).length ≤ 400 := fun a ha => Nat.le_of_not_lt fun z => hsz ⟨a, ha, z⟩
      obtain ⟨pl, hpl⟩ := lu_place hk here
      refine go_cons (gs_ifE (et_cmp co_eqS (ev_ix (d := .str "use") C (ev_nm C 5 rfl).r ev_int rfl rfl).r ev_str.r) (fun h => by cases h) (fun _ => go_nil ?_))
      refine go_cons (gs_set C 10 (Do.of (ev_dget (d := .int pl) C (ev_fld C sp.cls sp.places (ev_nm C 0 rfl) rfl).r (ev_tup (ea_cons (ev_ix (d := .int (i : Nat)) C (ev_nm C 4 rfl).r ev_int rfl rfl) (ea_cons ev_str (ea_cons (ev_ix (d := .int (k : Nat)) C (ev_nm C 4 rfl).r ev_int rfl rfl) ea_nil)))) hpl) ?_))
      have hmdl := Paired.length hcells
      have e2 : (upto 0 n).filter (fun _ : D => true) = upto 0 n := List.filter_eq_self.mpr (fun _ _ => rfl)
      refine go_cons (gs_set C 11 (Do.of (d := .lst (md ++ (upto 0 n).map (padD pl))) (EvF.ld (ef_cat (ev_nm C 7 rfl).r (EvF.lr (e2 ▸ ef_lcG C .no (bk_by (own := ow_Sp_spread_0) (vb := bv_Sp_spread_0) (wb := bw_Sp_spread_0) (G := bg_Sp_spread_0) (by decide +kernel)) (by exact ⟨trivial, trivial⟩) (by trivial) (fun z : D => z) (fun z => [.d (.ins C0 (Sf v kds pds)), .d (.str g.name), .own (.lst zs), .own (.lst (ts.map Itm.d)), .d (.tup [.int (i : Nat), .int (k : Nat)]), .d (Ln.use n x as).d, .d (.tup (ps.map D.str)), .d (.lst md), .d gd, .d (.tup wd), .d (.int pl), .un, .un, .d z]) (fun _ => true) (padD pl) (upto 0 n) (di_range C 0 (Do.of (ev_ix (d := .int (n : Nat)) C (ev_nm C 5 rfl).r ev_int rfl rfl) ⟨n, rfl, by omega, by simp⟩) T.range) (by rw [upto_len]; omega) (fun z hz Y CY => ⟨bd_nm CY 13 rfl, rfl, fun _ => ?_⟩))) (by rw [List.length_map, upto_len]; omega))) ?_))
      · obtain ⟨q, rfl⟩ := upto_ints hz
        exact ev_tup (ea_cons ev_str (ea_cons (ev_add (ev_add (ev_nm CY 10 rfl) ev_int) (ev_nm CY 13 rfl)) (ea_cons ev_str (ea_cons ev_non ea_nil))))
      refine go_cons (gs_set C 12 (DoF.kn (df_methM C sp.cls (P := fun o => ∃ ls : List (List D), o = .lst (ls.map D.lst) ∧ Paired Cells (as.map fun a => fill a ps gs) ls) (ok_handed_on (P := P) (w := w) (base := base) T sp A.handed_on v kds pds hk i k n x as ps gs gd (fun a at_ owner ha ho => A.fill a ps at_ owner gs gd ⟨(hargs a ha).line.len, hpss, hmany, ho, hgd, hsmall⟩) (fun at_ => ok_argument_places T A.argument_places n x as at_ (by have := hx.le; omega) (fun a ha => by have := (hargs a ha).line.len; omega) (by omega)) here (by omega)) (Do.of (ev_nm C 0 rfl) ⟨_, rfl, rfl, DoA.of (ea_cons (ev_nm C 4 rfl) (ea_cons (ev_nm C 5 rfl) (ea_cons (ev_nm C 6 rfl) (ea_cons (ev_nm C 8 rfl) ea_nil)))) ⟨rfl, fun o h => h⟩⟩)) ?_))
      rintro _ ⟨ls, rfl, hls⟩
      refine ⟨_, rfl, ?_⟩
      obtain ⟨us2, w1, w2, w3, w4, w5⟩ := lay_items hv (N := N) (md := md ++ (upto 0 n).map (padD pl)) (gd := .lst (ls.map D.lst)) (wd := wd ++ [.int pl]) hg2 hout (by rw [List.length_map, hcount]; exact Nat.le_refl _) ⟨ls, rfl, hls⟩ (fun a ha => by obtain ⟨z, hz, rfl⟩ := List.mem_map.mp ha; exact hsz2 z hz) (pd_app hcells (pad_cells pl 0 n)) (by rw [List.length_append, List.length_replicate]; omega) (by rw [List.length_append]; show wd.length + 1 + f' ≤ N; omega)
      have hst2 : Stk v N (ts ++ us2.reverse) := hst.push (f := f') rfl (by show f' + 1 ≤ N; omega) (fun u hu => w3 u (List.mem_reverse.mp hu)) (by rw [List.length_reverse]; exact w4)
      have hlen2 := hst2.len
      have e3 : (codeIn v x).reverse.map (itemD g2.params (md ++ (upto 0 n).map (padD pl)) (.lst (ls.map D.lst)) (wd ++ [.int pl])) = us2.reverse.map Itm.d := by rw [List.map_reverse, List.map_reverse, w1]
      have hg3 : hfind (heads v) g2.name = some g2 := by rw [hgx]; exact hg2
      refine go_cons (gs_extend C 3 rfl (DoF.kn (df_methM C sp.cls (P := fun o => o = .lst (us2.reverse.map Itm.d)) (ok_steps (P := P) (w := w) (base := base) T sp A.steps v hv kds pds hpi g2 hg3 (md ++ (upto 0 n).map (padD pl)) (.lst (ls.map D.lst)) (wd ++ [.int pl])) (Do.of (ev_nm C 0 rfl) ⟨_, rfl, rfl, DoA.of (ea_cons (ev_ix (d := .str x) C (ev_nm C 5 rfl).r ev_int rfl rfl) (ea_cons (ev_nm C 11 rfl) (ea_cons (ev_nm C 12 rfl) (ea_cons (ev_catT (ev_nm C 9 rfl) (ev_tup (ea_cons (ev_nm C 10 rfl) ea_nil)) (by show wd.length + 1 ≤ 1000000; omega)) ea_nil)))) ⟨by rw [hgx], fun o h => by rw [h, hgx, e3]⟩⟩)) ?_))
      rintro _ rfl
      refine ⟨_, rfl, _, rfl, ?_, go_nil ?_⟩
      · rw [← List.length_append, ← List.map_append, List.length_map]
        have : 96 * (N + 1) ≤ 96 * 101 := Nat.mul_le_mul_left _ (by omega)
        omega
      · have hcost : cost v (f' + 1) (.use n x as) = 1 + ((linesOf v x).map (cost v f')).sum := rfl
        rw [hcost, ← w5] at hm
        refine ⟨costs v (ts ++ us2.reverse), ?_, ts ++ us2.reverse, cs, zs, .d (.tup [.int (i : Nat), .int (k : Nat)]), .d (Ln.use n x as).d, .d (.tup (ps.map D.str)), .d (.lst md), .d gd, .d (.tup wd), .d (.int pl), .d (.lst (md ++ (upto 0 n).map (padD pl))), .d (.lst (ls.map D.lst)), .un, ?_, hst2, hp, hzl, ?_, rfl⟩
        · rw [costs_app]
          have : costs v us2.reverse = (us2.map fun t => cost v t.f t.e.2.2).sum := by unfold costs; rw [List.map_reverse, List.sum_reverse]
          omega
        · rw [← List.map_append]; rfl
        · rw [outs_app]
          have : outs us2.reverse = ct := by unfold outs; rw [List.reverse_reverse]; exact w2
          rw [this]; exact hq
  · have e : ts = [] := by
      cases ts with
      | nil => rfl
      | cons t ts => cases hb
    subst e
    refine go_cons (gs_ret (Do.of (ev_tuple C 1 (er_own C 2 rfl rfl) rfl T.tuple) ⟨cs, zs, rfl, hp, ?_, by omega⟩))
    rw [← hq]
    show _ = _ ++ []
    rw [List.append_nil]
end
end Kn
/-! P14: a Spreader made; what a text comes to. -/
namespace Kn
open PySem PySem.Spec PyProof.Rows L2
theorem Sees.outW {E : En} {Δ : List Slot} {σ : L2.St} {B H : Hp} {a : Addr} {u : HO} (S : Sees E Δ σ B H) (no : ∀ (i : Nat) (o : O), Δ[i]? ≠ some (Slot.own o)) (hB : B a = none) (hE : a ∈ E.W) : Sees E Δ σ B (upd H a u) := by
  refine ⟨S.sub.put hB, ⟨S.rn.eb, fun b x n q => ?_, fun b q => ?_, S.rn.fr⟩, fun i s hs => ?_, S.ap⟩
  · have na : b ≠ a := by rintro rfl; exact n hE
    rw [upd_ne na]; exact S.rn.eh b x n q
  · by_cases na : b = a
    · subst na; rw [upd_same]; simp
    · rw [upd_ne na]; exact S.rn.th b q
  · have q := S.sl i s hs
    cases s with
    | un => trivial
    | d y => exact q
    | own o => exact absurd hs (no i o)
def pre_init (v : List Se) : List D → Prop := fun ds => ds = [webD v]
def post_init (v : List Se) : List D → List (Str × D) → Prop := fun _ fs => ∃ kds pds, fs = Sf v kds pds ∧ Placed v kds ∧ Pieced v pds
section
variable {X : Cx} {E : En} {C0 : Addr}
/-- one field of self is set -/
theorem ws_field {N G : List Str} {vb wb : List Bool} {sc : Scope} {k : Nat} {Δ : List Slot} {x f : Str} {e : Expr} {px pa pos : Pos} {σ : L2.St} {B H : Hp} {a dx : Addr} {fs : List (Str × V)} {D0 : Ends} {Pd : D → Prop} (C : Cz E N vb wb G sc k X) (c : Cls E.K C0) (n : NoAttr E.K C0 f) (i : Nat) (S : Sees E Δ σ B H) (no : ∀ (i : Nat) (o : O), Δ[i]? ≠ some (Slot.own o)) (hW : a ∈ E.W) (el : σ[i]? = some (some (.ref a))) (hB : B a = none) (ha : H a = some (.ins C0 dx fs)) (hl : fs.length < 1000)
    (he : Do X E e Δ Pd) (hq : ∀ B' H' y d, Ex B B' → Sees E Δ σ B' H' → B' a = none → H' a = some (.ins C0 dx (putF f y fs)) → Dn E.K B' y d → Pd d → D0.nx σ H') (hv : vb[i]? = some true := by rfl) (hN : N[i]? = some x := by rfl) (hs : swapsWith e (some (.Attribute (.Name x px) f pa)) pos.line X.env = pure false := by rfl) : WS X (.Assign [.Attribute (.Name x px) f pa] e pos) D0 σ H := by
  obtain ⟨v1, v2, v3⟩ := C.vis i x hv hN
  refine WS.of (ps_fld (pe_var (i := i) (by rw [C.hN]; exact hN) v1 v2 v3) (pe_W e) hs) (he σ B H S _ fun y B1 H1 d x1 S1 r1 hP => ?_)
  have ha1 : H1 a = some (.ins C0 dx fs) := x1.eh a _ (fun j m c hj _ => no j _ hj) ha
  have hB1 : B1 a = none := x1.fr a (by rw [ha]; simp) hB
  exact ⟨.ref a, el, a, C0, dx, fs, rfl, ha1, by rw [C.hK]; exact c, by rw [C.hK]; exact n, hl, hq B1 _ y d x1.eb (S1.outW no hB1 hW) hB1 upd_same r1 hP⟩
end
theorem putF_len (f : Str) (y : V) : ∀ fs : List (Str × V), (putF f y fs).length ≤ fs.length + 1
  | [] => Nat.le_refl _
  | (g, x) :: r => by
    have := putF_len f y r
    unfold putF
    split
    · rw [List.length_cons, List.length_cons]; omega
    · rw [List.length_cons, List.length_cons]; omega
theorem go_noNx {X : Cx} {E : En} {sts : List Stmt} {Δ : List Slot} {R : D → List Slot → Prop} {Nx : List Slot → Prop} (h : Go X E sts Δ { nx := fun _ => False, rt := R }) : Go X E sts Δ { nx := Nx, rt := R } := fun σ B H S D0 M =>
  h σ B H S D0 ⟨fun _ _ _ _ _ _ h => h.elim, M.bk, M.ct, M.rt, M.rf⟩
theorem no2 {d : D} : ∀ (i : Nat) (o : O), ([.un, .d d] : List Slot)[i]? ≠ some (Slot.own o)
  | 0, _ => by simp
  | 1, _ => by simp
  | n + 2, _ => by simp
theorem body_init {X : Cx} {E : En} {C0 x dx : Addr} {σ : L2.St} {B H : Hp} {D0 : Ends} (T : Tx E.mg) (sp : SpC E.K C0) (C : Cz E N_Sp_init V_Sp_init V_Sp_init G_Sp_init (defScope s_Sp_init) 3 X) (F1 : FnD E.P E.w E.K E.mg E.base "starts" 3 (spM E.K pre_web post_starts)) (F2 : FnD E.P E.w E.K E.mg E.base "pieces" 1 (spM E.K pre_web post_pieces)) (v : List Se) (hv : WebOk v)
    (S : Sees E [.un, .d (webD v)] σ B H) (hW : x ∈ E.W) (el : σ[0]? = some (some (.ref x))) (hB : B x = none) (hx : H x = some (.ins C0 dx []))
    (q : ∀ B' H' fs fds, post_init v [webD v] fds → Ex B B' → Sees E [.un, .d (webD v)] σ B' H' → B' x = none → H' x = some (.ins C0 dx fs) → DnF E.K B' fs fds → D0.nx σ H') : WSs X (defBody s_Sp_init) D0 σ H := by
  refine WSs.of (pss_cons (ps_W _) (pss_W _)) (ws_field (C0 := C0) (Pd := fun d => d = webD v) C sp.cls sp.web 0 S no2 hW el hB hx (by decide) (Do.of (ev_nm C 1 rfl) rfl) fun B1 H1 y1 d1 e1 S1 b1 h1 r1 p1 => ?_)
  subst p1
  refine WSs.of (pss_cons (ps_W _) (pss_W _)) (ws_field (C0 := C0) (Pd := fun d => ∃ kds, d = .dit kds ∧ Placed v kds) C sp.cls sp.places 0 S1 no2 hW el b1 h1 (by have := putF_len "web" y1 []; exact Nat.lt_of_le_of_lt this (by decide)) (DoF.kn (df_callM C 0 F1 (DoA.of (ea_cons (ev_nm C 1 rfl) ea_nil) ⟨⟨v, rfl, hv⟩, fun o h => h⟩)) fun o h => ?_) fun B2 H2 y2 d2 e2 S2 b2 h2 r2 p2 => ?_)
  · obtain ⟨kds, rfl, hk⟩ := h v rfl hv
    exact ⟨_, rfl, kds, rfl, hk⟩
  obtain ⟨kds, rfl, hk⟩ := p2
  refine WSs.of (pss_cons (ps_W _) (pss_W _)) (ws_field (C0 := C0) (Pd := fun d => ∃ pds, d = .dic pds ∧ Pieced v pds) C sp.cls sp.pieces 0 S2 no2 hW el b2 h2 (by have h5 := putF_len "web" y1 []; have h6 := putF_len "places" y2 (putF "web" y1 []); exact Nat.lt_of_le_of_lt (Nat.le_trans h6 (Nat.succ_le_succ h5)) (by decide)) (DoF.kn (df_callM C 1 F2 (DoA.of (ea_cons (ev_nm C 1 rfl) ea_nil) ⟨⟨v, rfl, hv⟩, fun o h => h⟩)) fun o h => ?_) fun B3 H3 y3 d3 e3 S3 b3 h3 r3 p3 => ?_)
  · obtain ⟨pds, rfl, hk⟩ := h v rfl hv
    exact ⟨_, rfl, pds, rfl, hk⟩
  obtain ⟨pds, rfl, hp⟩ := p3
  exact WSs.of pss_nil (q B3 H3 _ _ ⟨kds, pds, rfl, hk, hp⟩ ((e1.trans e2).trans e3) S3 b3 h3 (.cons _ ((r1.mono e2).mono e3) (.cons _ (r2.mono e3) (.cons _ r3 .nil))))
section
variable {P : Program} {w : World} {K : PySem.W.Frag} {mg : Str → Option Value} {base : Heap} {C0 : Addr}
theorem ok_init (T : Tx mg) (sp : SpC K C0) {f : Addr} {fd : FuncData} (F : Fun K "__init__" "Spreader.__init__" s_Sp_init f fd) (F1 : FnD P w K mg base "starts" 3 (spM K pre_web post_starts)) (F2 : FnD P w K mg base "pieces" 1 (spM K pre_web post_pieces)) (v : List Se) (hv : WebOk v) :
    FnOk P w K mg base CX0 4 f fd P_Sp_init (spI K C0 (pre_init v) (post_init v)) := by
  refine F.ok sc_Sp_init (fun vs H Q E h => ?_) fun cdv A outer s H vs Q E0 hr h => ?_
  · obtain ⟨B, x, dx, ws, ds, rfl, _, _, _, r, hR, _⟩ := h
    rw [List.length_cons, r.length, hR]; rfl
  · obtain ⟨B, x, dx, ws, ds, rfl, hs, hB, hx, r, hR, q⟩ := h
    have hR : ds = [webD v] := hR
    subst hR
    cases r with
    | cons r1 r2 =>
    cases r2
    refine ⟨_, pss_W _, body_init (E := ⟨P, w, K, mg, base, [x], B, H⟩) T sp (cz_of sc_Sp_init dc_Sp_init hr) F1 F2 v hv ⟨hs, Rn.refl, fun i s hi => ?_, fun i j o p l h1 _ _ _ => absurd h1 (no2 i o)⟩ (by simp) rfl hB hx fun B' H' fs fds hf ex S' b' h' rf => q B' H' fs fds hf S'.rn S'.sub b' h' rf⟩
    match i with
    | 0 => have : s = .un := by simpa using hi.symm
           subst this; trivial
    | 1 => have : s = .d (webD v) := by simpa using hi.symm
           subst this; exact ⟨_, rfl, r1⟩
    | n + 2 => simp at hi
theorem ok_spread (A : SpT K mg C0) (v : List Se) (hw : Whole v) (N : Nat) (g : Hd) (hg : hfind (heads v) g.name = some g) (hgf : g.params = []) (c : List Nat) (hN : N ≤ 40) (hlay : lay v (N + 1) g.name [] [] = some c) (hc : c.length ≤ 3000) :
    MtD P w K mg base C0 "spread" 5 (spN K (fun ds => ∃ kds pds, ds = [.ins C0 (Sf v kds pds), .str g.name] ∧ Placed v kds ∧ Pieced v pds) fun _ d => ∃ (cs : List (List Nat)) (zs : List D), d = .tup zs ∧ Paired LineD cs zs ∧ cs.flatten = c ∧ zs.length ≤ 3000) := by
  refine A.spread.n sc_Sp_spread dc_Sp_spread (fun ds h => by obtain ⟨kds, pds, rfl, _⟩ := h; rfl) fun X B H ds C hR => ?_
  obtain ⟨kds, pds, rfl, hk, hpi⟩ := hR
  exact go_noNx (body_spread A C v hw kds pds hk hpi N g hg hgf c hN hlay hc)
end
end Kn
/-! K17: [elt for a in xs for b in f(a)], all data. -/
namespace Kn
open PySem PySem.Spec PyProof.Rows L2
def bI (X : Cx) (scope : Scope) (tg iter : Expr) : TI := fun σ H R => ∀ Y, Blk X scope Y → WI Y tg iter σ H R
theorem bI_ok {X : Cx} {scope : Scope} (tg iter : Expr) (s : Shared) (H : Hp) (C : Addr) (cl : List (Str × Addr)) (fp : List Addr) : PI (X.blk s H scope (compEnvC scope cl C X.env) fp) tg iter (bI X scope tg iter) := ⟨fun pins s' σ H' R I h => h _ ⟨s, H, C, cl, fp, rfl⟩ pins s' I⟩
/-- a list apart at D -/
structure Apart (E : En) (Δ : List Slot) (σ : L2.St) (B1 H1 : Hp) (l : Addr) (B H : Hp) (acc : List D) : Prop where
  s : Sees E Δ σ B H
  rn : Rn [] B1 H1 B H
  nb : B l = none
  at_ : ∃ ws, H l = some (.lst ws) ∧ DnL E.K B ws acc
theorem Apart.step {E : En} {Δ : List Slot} {σ : L2.St} {B1 H1 B H B' H' : Hp} {l : Addr} {acc : List D} (a : Apart E Δ σ B1 H1 l B H acc) (p : Pg B H B' H') : Apart E Δ σ B1 H1 l B' H' acc := by
  obtain ⟨ws, e, r⟩ := a.at_
  exact ⟨a.s.step p, a.rn.trans p.rn, p.rn.fr l (by rw [e]; simp) a.nb, ws, p.eh _ _ e, r.mono p.eb⟩
theorem Apart.add {E : En} {Δ : List Slot} {σ : L2.St} {B1 H1 B H : Hp} {l : Addr} {acc : List D} {v : V} {d : D} (a : Apart E Δ σ B1 H1 l B H acc) (no : ∀ (i : Nat) (o : O), Δ[i]? ≠ some (Slot.own o)) (nE : E.H l = none) (n1 : H1 l = none) (r : Dn E.K B v d) : ∃ ws, H l = some (.lst ws) ∧ ws.length = acc.length ∧ Apart E Δ σ B1 H1 l B (upd H l (.lst (ws ++ [v]))) (acc ++ [d]) := by
  obtain ⟨ws, e, rr⟩ := a.at_
  refine ⟨ws, e, rr.length, a.s.out no a.nb nE, ⟨a.rn.eb, fun b o n q => ?_, fun b q => ?_, a.rn.fr⟩, a.nb, _, upd_same, rr.snoc r⟩
  · rw [upd_ne (ne_of_none q n1)]; exact a.rn.eh b o n q
  · by_cases na : b = l
    · subst na; exact absurd n1 q
    · rw [upd_ne na]; exact a.rn.th b q
section
variable {X : Cx} {E : En} {N G G' : List Str} {vb wb vb' wb' : List Bool} {sc scope : Scope} {k : Nat} {Δ : List Slot} {iter iter1 elt : Expr} {pos px py : Pos} {y1 y2 : Str}
theorem ef_lc2 (C : Cz E N vb wb G sc k X) (i1 i2 : Nat) (bk : BkC N sc scope [(y1, i1), (y2, i2)] vb' wb' G') (hne : i1 ≠ i2) (no : ∀ (i : Nat) (o : O), Δ[i]? ≠ some (Slot.own o)) (its : D → List D) (h : D → D → D) (ls : List D) (hi : Ev X E iter Δ (.tup ls))
    (h1 : ∀ x ∈ ls, ∀ Y, Cz E N vb' wb' G' (relS scope sc) k Y → Ev Y E iter1 ((wipeD Δ [i1, i2]).set i1 (.d x)) (.tup (its x)))
    (h2 : ∀ x ∈ ls, ∀ y ∈ its x, ∀ Y, Cz E N vb' wb' G' (relS scope sc) k Y → Ev Y E elt (((wipeD Δ [i1, i2]).set i1 (.d x)).set i2 (.d y)) (h x y)) (len : (ls.flatMap its).length ≤ 999999)
    (hw1 : wb'[i1]? = some true := by rfl) (hN1 : N[i1]? = some y1 := by rfl) (hw2 : wb'[i2]? = some true := by rfl) (hN2 : N[i2]? = some y2 := by rfl)
    (hs : ∀ x, foldedSetIterable iter X.env x = pure x := by intro _; rfl) (hs1 : ∀ env x, foldedSetIterable iter1 env x = pure x := by intro _ _; rfl) : EvF X E (.ListComp elt [⟨.Name y1 px, iter, [], 0⟩, ⟨.Name y2 py, iter1, [], 0⟩] scope pos) Δ (.lst (ls.flatMap fun x => (its x).map (h x))) := fun σ B H S Q q => by
  intro pins s I
  have hlen : σ.length = X.N.length := I.len
  refine (WE.of (pe_lc2 (own := [(y1, i1), (y2, i2)]) (vs1 := [i2]) C.calm (by rw [C.hN]; exact C.nd) (pi_tup (pe_W iter)) (by rw [C.hN, C.hsc]; exact bk.ok) (by simp) (bG_ok _) (fun _ _ _ _ _ => pts_nil) (bI_ok _ _) (bG_ok _) (fun _ _ _ _ _ => pts_nil) (bE_ok elt) hs hs1) ?_ : WE X _ σ H Q) pins s I
  refine hi σ B H S _ fun v B1 H1 p1 r1 => ?_
  cases r1 with
  | @tup ll vs _ e r =>
  refine ⟨ll, rfl, ⟨vs, SqT.of (p1.sub _ _ e)⟩, fun l nl => ?_⟩
  have S1 := S.step p1
  have nB1 : B1 l = none := p1.sub.free nl
  have nE : E.H l = none := S1.enone nl
  have wk : Wk E.K (Itt E.K ll) B1 ls := wk_tup e r
  rw [C.hK]
  have flen : ∀ (a : List D), (a.flatMap fun x => (its x).map (h x)).length = (a.flatMap its).length := fun a => by
    induction a with
    | nil => rfl
    | cons x a ih => rw [List.flatMap_cons, List.flatMap_cons, List.length_append, List.length_append, List.length_map, ih]
  refine ⟨fun i m H' => m = ls.length - i ∧ i ≤ ls.length ∧ ∃ B2, Apart E Δ σ B1 H1 l B2 H' ((ls.take i).flatMap fun x => (its x).map (h x)), ⟨ls.length, rfl, Nat.zero_le _, B1, S1.out no nB1 nE, ⟨Ex.refl B1, fun b o n q => by rw [upd_ne (ne_of_none q nl)]; exact q, fun b q => by
      by_cases na : b = l
      · subst na; rw [upd_same]; simp
      · rw [upd_ne na]; exact q, fun _ _ n => n⟩, nB1, [], upd_same, .nil⟩, ?_⟩
  rintro i m H2 ⟨rfl, hle, B2, a2⟩
  by_cases hlt : i < ls.length
  · refine .inr ⟨wk.goes i B2 H2 hlt a2.rn.eb a2.s.sub, fun H' => ∃ B', Apart E Δ σ B1 H1 l B' H' ((ls.take (i + 1)).flatMap fun x => (its x).map (h x)), fun H' ⟨B', a'⟩ => ⟨ls.length - (i + 1), by omega, rfl, hlt, B', a'⟩, fun u H3 y => ?_⟩
    obtain ⟨B3, x, pg, hd, rd⟩ := wk.yields i B2 H2 u H3 hlt a2.rn.eb a2.s.sub y
    have a3 := a2.step pg
    have hx : x ∈ ls := List.mem_of_getElem? hd
    have etake : ls.take (i + 1) = ls.take i ++ [x] := by rw [List.take_add_one, hd]; rfl
    have elast : ((ls.take (i + 1)).flatMap fun x => (its x).map (h x)) = ((ls.take i).flatMap fun x => (its x).map (h x)) ++ (its x).map (h x) := by rw [etake, List.flatMap_append]; simp
    have bound : ((ls.take i).flatMap its).length + (its x).length ≤ (ls.flatMap its).length := by
      have e1 : (ls.flatMap its).length = ((ls.take (i + 1)).flatMap its).length + ((ls.drop (i + 1)).flatMap its).length := by rw [← List.length_append, ← List.flatMap_append, List.take_append_drop]
      have e3 : ((ls.take (i + 1)).flatMap its).length = ((ls.take i).flatMap its).length + (its x).length := by rw [etake, List.flatMap_append, List.length_append, List.flatMap_cons, List.flatMap_nil, List.append_nil]
      omega
    intro Y hY
    refine (bd_nm (C.blk bk hY) i1 (ts := [i1]) (P := fun Δ' => Δ' = (wipeD Δ [i1, i2]).set i1 (.d x)) rfl (by simp) hw1 hN1 : Bd Y E _ [i1] x (wipeD Δ [i1, i2]) _) (L2.wipe σ [i1, i2]) B3 H3 u (a3.s.wipe [i1, i2]) rd ?_ _ fun σ4 Δ4 S4 k1 k2 k3 k4 e4 => ?_
    · obtain ⟨_, _, _, _, _, rfl⟩ := hY
      show _ = X.N.length
      rw [wipe_length]; exact hlen
    subst e4
    refine ⟨wipe_back (σ := σ) (vs := [i1, i2]) k3 (fun j hj => k2 j fun z => hj (by simp at z ⊢; exact .inl z)), ?_⟩
    show bI X scope (.Name y2 py) iter1 σ4 H3 _
    intro Y2 hY2
    have no4 : ∀ (j : Nat) (o : O), ((wipeD Δ [i1, i2]).set i1 (.d x))[j]? ≠ some (Slot.own o) := fun j o z => no j o (by
      have := k4 j o z
      rcases getElem?_set_cases (show ((wipeD Δ [i2]).set i1 Slot.un)[j]? = _ from this) with ⟨_, w⟩ | ⟨_, w⟩
      · cases w
      · rcases getElem?_set_cases (show (Δ.set i2 Slot.un)[j]? = _ from w) with ⟨_, w2⟩ | ⟨_, w2⟩
        · cases w2
        · exact w2)
    refine WI.of (pi_tup (pe_W iter1)) (h1 x hx Y2 (C.blk bk hY2) σ4 B3 H3 S4 _ fun v5 B5 H5 p5 r5 => ?_)
    cases r5 with
    | @tup l5 vs5 _ e5 r5 =>
    refine ⟨l5, rfl, ⟨vs5, SqT.of (p5.sub _ _ e5)⟩, ?_⟩
    have hK2 : Y2.K = E.K := (C.blk bk hY2).hK
    rw [hK2]
    have wk5 : Wk E.K (Itt E.K l5) B5 (its x) := wk_tup e5 r5
    have a5 : Apart E ((wipeD Δ [i1, i2]).set i1 (.d x)) σ4 B1 H1 l B5 H5 ((ls.take i).flatMap fun x => (its x).map (h x)) := by
      obtain ⟨ws, e, r⟩ := a3.at_
      exact Apart.step ⟨S4, a3.rn, a3.nb, ws, e, r⟩ p5
    have unb : ∀ {B6 H6 : Hp} {acc : List D}, Ex B3 B6 → Apart E ((wipeD Δ [i1, i2]).set i1 (.d x)) σ4 B1 H1 l B6 H6 acc → Apart E Δ σ B1 H1 l B6 H6 acc := fun {B6 H6 acc} ex a => by
      refine ⟨⟨a.s.sub, a.s.rn, fun j t hj => ?_, a3.s.ap⟩, a.rn, a.nb, a.at_⟩
      have z := a3.s.sl j t hj
      cases t with
      | un => trivial
      | d y => obtain ⟨v, e1, r1⟩ := z; exact ⟨v, e1, r1.mono ex⟩
      | own o => exact absurd hj (no j o)
    refine ⟨fun j m H' => m = (its x).length - j ∧ j ≤ (its x).length ∧ ∃ B6, Ex B5 B6 ∧ Apart E ((wipeD Δ [i1, i2]).set i1 (.d x)) σ4 B1 H1 l B6 H' (((ls.take i).flatMap fun x => (its x).map (h x)) ++ ((its x).take j).map (h x)), ⟨(its x).length, rfl, Nat.zero_le _, B5, Ex.refl B5, by simpa using a5⟩, ?_⟩
    rintro j m H6 ⟨rfl, hle6, B6, x6, a6⟩
    by_cases hlt6 : j < (its x).length
    · refine .inr ⟨wk5.goes j B6 H6 hlt6 x6 a6.s.sub, fun H' => ∃ B', Ex B5 B' ∧ Apart E ((wipeD Δ [i1, i2]).set i1 (.d x)) σ4 B1 H1 l B' H' (((ls.take i).flatMap fun x => (its x).map (h x)) ++ ((its x).take (j + 1)).map (h x)), fun H' ⟨B', x', a'⟩ => ⟨(its x).length - (j + 1), by omega, rfl, hlt6, B', x', a'⟩, fun u7 H7 y7 => ?_⟩
      obtain ⟨B7, z, pg7, hd7, rd7⟩ := wk5.yields j B6 H6 u7 H7 hlt6 x6 a6.s.sub y7
      have a7 := a6.step pg7
      have hz : z ∈ its x := List.mem_of_getElem? hd7
      have etake7 : ((its x).take (j + 1)).map (h x) = ((its x).take j).map (h x) ++ [h x z] := by rw [List.take_add_one, hd7]; simp
      intro Y3 hY3
      have hl4 : σ4.length = X.N.length := by rw [k3, wipe_length]; exact hlen
      have S7w : Sees E ((wipeD Δ [i1, i2]).set i1 (.d x)) (L2.wipe σ4 [i2]) B7 H7 := by
        refine ⟨a7.s.sub, a7.s.rn, fun jj t hj => ?_, fun a b o p l h1 _ _ _ => absurd h1 (no4 a o)⟩
        have w := a7.s.sl jj t hj
        cases t with
        | un => trivial
        | own o => exact absurd hj (no4 jj o)
        | d y =>
          obtain ⟨v, e1, r1⟩ := w
          refine ⟨v, ?_, r1⟩
          have : jj ≠ i2 := by
            rintro rfl
            rw [List.getElem?_set_ne hne] at hj
            have hj : ((Δ.set jj Slot.un).set i1 Slot.un)[jj]? = some (Slot.d y) := hj
            rw [List.getElem?_set_ne hne] at hj
            rcases getElem?_set_cases hj with ⟨_, w⟩ | ⟨w, _⟩
            · cases w
            · exact w rfl
          show (σ4.set i2 none)[jj]? = _
          rw [List.getElem?_set_ne (Ne.symm this)]; exact e1
      refine (bd_nm (C.blk bk hY3) i2 (ts := [i2]) (P := fun Δ' => Δ' = ((wipeD Δ [i1, i2]).set i1 (.d x)).set i2 (.d z)) rfl (by simp) hw2 hN2 : Bd Y3 E _ [i2] z ((wipeD Δ [i1, i2]).set i1 (.d x)) _) (L2.wipe σ4 [i2]) B7 H7 u7 S7w rd7 ?_ _ fun σ8 Δ8 S8 g1 g2 g3 g4 e8 => ?_
      · obtain ⟨_, _, _, _, _, rfl⟩ := hY3
        show _ = X.N.length
        rw [wipe_length]; exact hl4
      subst e8
      refine ⟨wipe_back (σ := σ4) (vs := [i2]) g3 (fun jj hj => g2 jj fun w => hj (by simp at w ⊢; exact w)), ?_⟩
      show bE X scope elt σ8 H7 _
      intro Y4 hY4
      refine h2 x hx z hz Y4 (C.blk bk hY4) σ8 B7 H7 S8 _ fun v9 B9 H9 p9 r9 => ?_
      have a9 := a7.step p9
      obtain ⟨ws, ew, el, a10⟩ := a9.add no4 nE nl r9
      refine ⟨ws, ew, sz_lt ?_, B9, (x6.trans pg7.eb).trans p9.eb, by rw [etake7, ← List.append_assoc]; exact a10⟩
      rw [el, List.length_append, flen, List.length_map, List.length_take]
      omega
    · have e6 : j = (its x).length := by omega
      subst e6
      rw [List.take_length] at a6
      refine .inl ⟨wk5.stops B6 H6 x6 a6.s.sub, B6, ?_⟩
      rw [elast]
      exact unb (p5.eb.trans x6) a6
  · have e2 : i = ls.length := by omega
    subst e2
    rw [List.take_length] at a2
    refine .inl ⟨wk.stops B2 H2 a2.rn.eb a2.s.sub, q l B2 H2 ⟨p1.rn.trans a2.rn, a2.s.sub⟩ (p1.eh.free nl) a2.nb ?_⟩
    obtain ⟨ws, ew, rw'⟩ := a2.at_
    exact ⟨ws, ew, rw'⟩
end
end Kn
/-! P15: the lines of a text, joined. -/
namespace Kn
open PySem PySem.Spec PyProof.Rows L2
theorem codes_join (xs : List Str) : codes (Txt.join "" xs) = xs.flatMap codes := by
  unfold Txt.join
  rw [StrLaws.glued_eq_join]
  induction xs with
  | nil => rfl
  | cons x r ih =>
    cases r with
    | nil => show codes x = codes x ++ []; rw [List.append_nil]
    | cons y r =>
      show codes (x ++ "" ++ Str.join "" (y :: r)) = codes x ++ (y :: r).flatMap codes
      rw [codes_app, codes_app, ih]
      have : codes ("" : Str) = [] := rfl
      rw [this, List.append_nil]
def sgnS (c : Nat) : Str := ⟨#[c]⟩
def cellsIn : D → List D
  | .tup [_, _, .tup zs] => zs
  | _ => []
def textIn : D → D
  | .tup (.str s :: _) => .str s
  | d => d
theorem cells_text {cs : List Nat} {zs : List D} (h : Cells cs zs) : zs.map textIn = (cs.map sgnS).map D.str := by
  unfold Cells at h
  induction h with
  | nil => rfl
  | cons f r ih => obtain ⟨x, y, z, rfl⟩ := f; rw [List.map_cons, ih]; rfl
theorem lines_text {cs : List (List Nat)} {zs : List D} (h : Paired LineD cs zs) : (zs.flatMap fun x => (cellsIn x).map textIn) = (cs.flatten.map sgnS).map D.str := by
  induction h with
  | nil => rfl
  | cons f r ih =>
    obtain ⟨a, b, ws, rfl, hc⟩ := f
    rw [List.flatMap_cons, ih, List.flatten_cons, List.map_append, List.map_append]
    congr 1
    exact cells_text hc
theorem lines_len {cs : List (List Nat)} {zs : List D} (h : Paired LineD cs zs) : (zs.flatMap cellsIn).length = cs.flatten.length := by
  induction h with
  | nil => rfl
  | cons f r ih =>
    obtain ⟨a, b, ws, rfl, hc⟩ := f
    rw [List.flatMap_cons, List.length_append, ih, List.flatten_cons, List.length_append]
    congr 1
    exact (Paired.length hc).symm
theorem sgnS_sum (c : List Nat) : ((c.map sgnS).map (·.length)).sum = c.length := by
  induction c with
  | nil => rfl
  | cons x r ih => rw [List.map_cons, List.map_cons, List.sum_cons, ih, List.length_cons]; show 1 + _ = _; omega
theorem sgnS_codes (c : List Nat) : (c.map sgnS).flatMap codes = c := by
  induction c with
  | nil => rfl
  | cons x r ih => rw [List.map_cons, List.flatMap_cons, ih]; rfl
structure SpI (K : PySem.W.Frag) (mg : Str → Option Value) (C0 : Addr) : Prop where
  g : mg "Spreader" = some (.ref C0)
  ex : ∃ (f : Addr) (fd : FuncData), Fun K "__init__" "Spreader.__init__" s_Sp_init f fd ∧ Mk K C0 f ∧ Binds K fd P_Sp_init []
section
variable {P : Program} {w : World} {K : PySem.W.Frag} {mg : Str → Option Value} {base : Heap} {C0 : Addr}
theorem ok_joined (T : Tx mg) (A : At K mg "joined" s_joined P_joined) (c : List Nat) (hl : c.length ≤ 3000) : FnD P w K mg base "joined" 1 (spN K (fun ds => ∃ (cs : List (List Nat)) (zs : List D), ds = [.tup zs] ∧ Paired LineD cs zs ∧ cs.flatten = c) fun _ d => d = .str (Txt.join "" (c.map sgnS))) := by
  refine A.n sc_joined dc_joined (fun ds h => by obtain ⟨_, _, rfl, _⟩ := h; rfl) fun X B H ds C hR => ?_
  obtain ⟨cs, zs, rfl, h, hc⟩ := hR
  show Go X _ _ [.d (.tup zs), .un, .un] _
  refine go_cons (gs_ret (Do.of (ev_join C ev_str (EvF.lr (ef_lc2 C 1 2 (bk_by (own := ow_joined_0) (vb := bv_joined_0) (wb := bw_joined_0) (G := bg_joined_0) (by decide +kernel)) (by decide) (fun i o => by
    match i with
    | 0 => simp
    | 1 => simp
    | 2 => simp
    | n + 3 => simp) cellsIn (fun _ y => textIn y) zs (ev_nm C 0 rfl) (fun x hx Y CY => ?_) (fun x hx y hy Y CY => ?_) (by rw [lines_len h, hc]; omega))) (.inl (by rw [lines_text h, hc])) ?_) rfl))
  · obtain ⟨c1, a, b, ws, rfl, hw⟩ := Paired.right h x hx
    exact ev_ix (d1 := .tup [a, b, .tup ws]) CY (ev_nm CY 1 rfl).r ev_int rfl rfl
  · obtain ⟨c1, a, b, ws, rfl, hw⟩ := Paired.right h x hx
    obtain ⟨c2, u1, u2, u3, rfl⟩ := Paired.right hw y hy
    exact ev_ix (d1 := .tup [.str ⟨#[c2]⟩, u1, u2, u3]) CY (ev_nm CY 2 rfl).r ev_int rfl rfl
  · rw [sgnS_sum]
    show _ + _ * 0 ≤ _
    omega
theorem ok_lines_of_text (A : SpT K mg C0) (I : SpI K mg C0) (L : At K mg "lines_of_text" s_lines_of_text P_lines_of_text) (F1 : FnD P w K mg base "starts" 3 (spM K pre_web post_starts)) (F2 : FnD P w K mg base "pieces" 1 (spM K pre_web post_pieces)) (v : List Se) (hw : Whole v) (N : Nat) (g : Hd) (hg : hfind (heads v) g.name = some g) (hgf : g.params = []) (hn : g.name ≠ "") (c : List Nat) (hN : N ≤ 40) (hlay : lay v (N + 1) g.name [] [] = some c) (hc : c.length ≤ 3000) :
    FnD P w K mg base "lines_of_text" 6 (spN K (fun ds => ds = [webD v, .str g.name]) fun _ d => ∃ (cs : List (List Nat)) (zs : List D), d = .tup zs ∧ Paired LineD cs zs ∧ cs.flatten = c ∧ zs.length ≤ 3000) := by
  refine L.n sc_lines_of_text dc_lines_of_text (fun ds h => by subst h; rfl) fun X B H ds C hR => ?_
  subst hR
  obtain ⟨f, fd, FI, M, bi⟩ := I.ex
  show Go X _ _ [.d (webD v), .d (.str g.name)] _
  refine go_cons (gs_ifE (et_cmp co_eqS (ev_nm C 1 rfl).r ev_str.r) (fun h => absurd (of_decide_eq_true h) hn) (fun _ => go_nil ?_))
  have FI2 := ok_init (P := P) (w := w) (mg := mg) (base := base) A.t A.sp FI F1 F2 v hw.ok
  refine go_cons (gs_ret (do_methN C A.sp.cls (ok_spread (P := P) (w := w) (base := base) A v hw N g hg hgf c hN hlay hc) (do_make C 1 M I.g bi FI2 (DoA.of (ea_cons (ev_nm C 0 rfl) ea_nil) ⟨rfl, fun fs hf => ?_⟩))))
  obtain ⟨kds, pds, rfl, hk, hp⟩ := hf
  exact ⟨_, rfl, rfl, DoA.of (ea_cons (ev_nm C 1 rfl) ea_nil) ⟨⟨kds, pds, rfl, hk, hp⟩, fun d hd => hd⟩⟩
end
end Kn
/-! K18: a dict by a comprehension; a walk over what a queue's head leads to. -/
namespace Kn
open PySem PySem.Spec PyProof.Rows L2
structure ApartK (E : En) (Δ : List Slot) (σ : L2.St) (B1 H1 : Hp) (l : Addr) (B H : Hp) (acc : List (Key × D)) : Prop where
  s : Sees E Δ σ B H
  rn : Rn [] B1 H1 B H
  nb : B l = none
  at_ : ∃ ws, H l = some (.dK ws) ∧ DnK E.K B ws acc
theorem ApartK.step {E : En} {Δ : List Slot} {σ : L2.St} {B1 H1 B H B' H' : Hp} {l : Addr} {acc : List (Key × D)} (a : ApartK E Δ σ B1 H1 l B H acc) (p : Pg B H B' H') : ApartK E Δ σ B1 H1 l B' H' acc := by
  obtain ⟨ws, e, r⟩ := a.at_
  exact ⟨a.s.step p, a.rn.trans p.rn, p.rn.fr l (by rw [e]; simp) a.nb, ws, p.eh _ _ e, r.mono p.eb⟩
theorem ApartK.add {E : En} {Δ : List Slot} {σ : L2.St} {B1 H1 B H : Hp} {l : Addr} {acc : List (Key × D)} {v : V} {d : D} (a : ApartK E Δ σ B1 H1 l B H acc) (no : ∀ (i : Nat) (o : O), Δ[i]? ≠ some (Slot.own o)) (nE : E.H l = none) (n1 : H1 l = none) (k : Key) (r : Dn E.K B v d) : ∃ ws, H l = some (.dK ws) ∧ ws.length = acc.length ∧ ApartK E Δ σ B1 H1 l B (upd H l (.dK (putK ws k v))) (putD acc k d) := by
  obtain ⟨ws, e, rr⟩ := a.at_
  refine ⟨ws, e, rr.len, a.s.out no a.nb nE, ⟨a.rn.eb, fun b o n q => ?_, fun b q => ?_, a.rn.fr⟩, a.nb, _, upd_same, rr.putD k r⟩
  · rw [upd_ne (ne_of_none q n1)]; exact a.rn.eh b o n q
  · by_cases na : b = l
    · subst na; exact absurd n1 q
    · rw [upd_ne na]; exact a.rn.th b q
theorem putD_fresh {acc : List (Key × D)} {k : Key} {d : D} (h : k ∉ acc.map (·.1)) : putD acc k d = acc ++ [(k, d)] := by
  have e : (acc.any fun kv => decide (kv.1 = k)) = false := by
    rw [List.any_eq_false]
    rintro kv hkv
    simp only [decide_eq_true_eq]
    intro z
    exact h (List.mem_map.mpr ⟨kv, hkv, z⟩)
  unfold putD
  rw [if_neg (by rw [e]; decide)]
section
variable {X : Cx} {E : En} {N G G' : List Str} {vb wb vb' wb' : List Bool} {sc scope : Scope} {k : Nat} {Δ : List Slot} {iter kx vx tg : Expr} {pos px py : Pos} {y1 y2 : Str}
/-- {kx: vx for y in xs}, the keys apart -/
theorem ef_dc {α : Type} (C : Cz E N vb wb G sc k X) (i1 : Nat) (bk : BkC N sc scope [(y1, i1)] vb' wb' G') (no : ∀ (i : Nat) (o : O), Δ[i]? ≠ some (Slot.own o)) (enc : α → D) (key : α → Str) (val : α → D) (xs : List α) (hi : Ev X E iter Δ (.tup (xs.map enc))) (nd : (xs.map key).Nodup) (len : xs.length ≤ 999999)
    (h1 : ∀ x ∈ xs, ∀ Y, Cz E N vb' wb' G' (relS scope sc) k Y → Ev Y E kx ((wipeD Δ [i1]).set i1 (.d (enc x))) (.str (key x)) ∧ Ev Y E vx ((wipeD Δ [i1]).set i1 (.d (enc x))) (val x))
    (hw1 : wb'[i1]? = some true := by rfl) (hN1 : N[i1]? = some y1 := by rfl) (hs : ∀ x, foldedSetIterable iter X.env x = pure x := by intro _; rfl) : EvF X E (.DictComp kx vx [⟨.Name y1 px, iter, [], 0⟩] scope pos) Δ (.dK (xs.map fun x => (.inr (key x), val x))) := fun σ B H S Q q => by
  intro pins s I
  have hlen : σ.length = X.N.length := I.len
  refine (WE.of (pe_dc (own := [(y1, i1)]) C.calm (by rw [C.hN]; exact C.nd) (pi_tup (pe_W iter)) (by rw [C.hN, C.hsc]; exact bk.ok) (bG_ok _) (fun _ _ _ _ _ => pts_nil) (bE_ok kx) (bE_ok vx) hs) ?_ : WE X _ σ H Q) pins s I
  refine hi σ B H S _ fun v B1 H1 p1 r1 => ?_
  cases r1 with
  | @tup ll vs _ e r =>
  refine ⟨ll, rfl, ⟨vs, SqT.of (p1.sub _ _ e)⟩, fun l nl => ?_⟩
  have S1 := S.step p1
  have nB1 : B1 l = none := p1.sub.free nl
  have nE : E.H l = none := S1.enone nl
  have wk : Wk E.K (Itt E.K ll) B1 (xs.map enc) := wk_tup e r
  rw [C.hK]
  refine ⟨fun i m H' => m = xs.length - i ∧ i ≤ xs.length ∧ ∃ B2, ApartK E Δ σ B1 H1 l B2 H' ((xs.take i).map fun x => (.inr (key x), val x)), ⟨xs.length, rfl, Nat.zero_le _, B1, S1.out no nB1 nE, ⟨Ex.refl B1, fun b o n q => by rw [upd_ne (ne_of_none q nl)]; exact q, fun b q => by
      by_cases na : b = l
      · subst na; rw [upd_same]; simp
      · rw [upd_ne na]; exact q, fun _ _ n => n⟩, nB1, [], upd_same, .nil⟩, ?_⟩
  rintro i m H2 ⟨rfl, hle, B2, a2⟩
  by_cases hlt : i < xs.length
  · refine .inr ⟨wk.goes i B2 H2 (by rw [List.length_map]; exact hlt) a2.rn.eb a2.s.sub, fun H' => ∃ B', ApartK E Δ σ B1 H1 l B' H' ((xs.take (i + 1)).map fun x => (.inr (key x), val x)), fun H' ⟨B', a'⟩ => ⟨xs.length - (i + 1), by omega, rfl, hlt, B', a'⟩, fun u H3 y => ?_⟩
    obtain ⟨B3, d, pg, hd, rd⟩ := wk.yields i B2 H2 u H3 (by rw [List.length_map]; exact hlt) a2.rn.eb a2.s.sub y
    obtain ⟨x, hx1⟩ : ∃ x, xs[i]? = some x := ⟨_, List.getElem?_eq_getElem hlt⟩
    rw [List.getElem?_map, hx1] at hd
    cases hd
    have a3 := a2.step pg
    have hx : x ∈ xs := List.mem_of_getElem? hx1
    have etake : xs.take (i + 1) = xs.take i ++ [x] := by rw [List.take_add_one, hx1]; rfl
    have fresh : (Sum.inr (key x) : Key) ∉ ((xs.take i).map fun x => ((.inr (key x) : Key), val x)).map (·.1) := by
      rw [List.map_map]
      intro z
      obtain ⟨w, hw, e⟩ := List.mem_map.mp z
      have e : key w = key x := Sum.inr.inj e
      obtain ⟨j, hj⟩ := List.mem_iff_getElem?.mp hw
      rw [List.getElem?_take] at hj
      split at hj
      · rename_i hji
        have h1 : (xs.map key)[j]? = some (key x) := by rw [List.getElem?_map, hj, ← e]; rfl
        have h2 : (xs.map key)[i]? = some (key x) := by rw [List.getElem?_map, hx1]; rfl
        obtain ⟨g1, g2⟩ := List.getElem?_eq_some_iff.mp h1
        obtain ⟨g3, g4⟩ := List.getElem?_eq_some_iff.mp h2
        exact absurd (g2.trans g4.symm) (List.pairwise_iff_getElem.mp nd j i g1 g3 hji)
      · cases hj
    intro Y hY
    refine (bd_nm (C.blk bk hY) i1 (ts := [i1]) (P := fun Δ' => Δ' = (wipeD Δ [i1]).set i1 (.d (enc x))) rfl (by simp) hw1 hN1 : Bd Y E _ [i1] (enc x) (wipeD Δ [i1]) _) (L2.wipe σ [i1]) B3 H3 u (a3.s.wipe [i1]) rd ?_ _ fun σ4 Δ4 S4 k1 k2 k3 k4 e4 => ?_
    · obtain ⟨_, _, _, _, _, rfl⟩ := hY
      show _ = X.N.length
      rw [wipe_length]; exact hlen
    subst e4
    refine ⟨wipe_back (σ := σ) (vs := [i1]) k3 (fun j hj => k2 j hj), ?_⟩
    show bE X scope kx σ4 H3 _
    intro Y2 hY2
    refine (h1 x hx Y2 (C.blk bk hY2)).1 σ4 B3 H3 S4 _ fun v5 B5 H5 p5 r5 => ?_
    cases r5
    intro Y3 hY3
    refine (h1 x hx Y3 (C.blk bk hY3)).2 σ4 B5 H5 (S4.step p5) _ fun v6 B6 H6 p6 r6 => ?_
    have a6 := (a3.step p5).step p6
    obtain ⟨ws, ew, el, a7⟩ := a6.add no nE nl (.inr (key x)) r6
    rw [putD_fresh fresh] at a7
    refine ⟨ws, .inr (key x), rfl, ew, sz_lt ?_, B6, ?_⟩
    · rw [el, List.length_map, List.length_take]; omega
    · rw [etake, List.map_append]; exact a7
  · have e2 : i = xs.length := by omega
    subst e2
    rw [List.take_length] at a2
    refine .inl ⟨by have := wk.stops B2 H2 a2.rn.eb a2.s.sub; rwa [List.length_map] at this, q l B2 H2 ⟨p1.rn.trans a2.rn, a2.s.sub⟩ (p1.eh.free nl) a2.nb ?_⟩
    obtain ⟨ws, ew, rw'⟩ := a2.at_
    exact ⟨ws, ew, rw'⟩
/-- a walk whose making changes what names own -/
def DoI2 (X : Cx) (E : En) (tg iter : Expr) (Δ : List Slot) (P : List Slot → List D → Prop) : Prop := ∀ σ B H, Sees E Δ σ B H → ∀ R : It → Hp → Prop, (∀ J B' H' ds Δ1, Ex B B' → Sees E Δ1 σ B' H' → Wk E.K J B' ds → P Δ1 ds → R J H') → WI X tg iter σ H R
theorem gs_for2 (C : Cz E N vb wb G sc k X) {P : Ps} {body : List Stmt} (ts : List Nat)
    (hi : DoI2 X E tg iter Δ fun Δ1 ds => ∃ J : List D → List Slot → Prop, J ds Δ1 ∧ (∀ x r Δ2, J (x :: r) Δ2 → Bd X E tg ts x Δ2 fun Δ3 => Go X E body Δ3 { nx := J r, rt := P.rt, rf := P.rf, bk := P.nx, ct := J r }) ∧ (∀ Δ2, J [] Δ2 → P.nx Δ2))
    (hs : ∀ x, foldedSetIterable iter X.env x = pure x := by intro _; rfl) : GoS X E (.For tg iter body [] pos) Δ P := fun σ B H S D0 M => by
  refine WS.of (ps_for C.pass C.calm (pi_W tg iter) (pg_W tg) (pss_W body) hs) (hi σ B H S _ fun I B1 H1 ds Δ1 x1 S1 wk ⟨J, j0, jt, jd⟩ => ?_)
  refine ⟨fun i m σ' H' => ∃ B' Δ', i ≤ ds.length ∧ m = ds.length - i ∧ Sees E Δ' σ' B' H' ∧ Ex B1 B' ∧ J (ds.drop i) Δ', ⟨ds.length, B1, Δ1, Nat.zero_le _, rfl, S1, Ex.refl B1, j0⟩, ?_⟩
  rintro i m σ2 H2 ⟨B2, Δ2, hle, rfl, S2, x2, j2⟩
  by_cases hlt : i < ds.length
  · refine .inr ⟨wk.goes i B2 H2 hlt x2 S2.sub, fun σ' H' => ∃ B' Δ', Sees E Δ' σ' B' H' ∧ Ex B1 B' ∧ J (ds.drop (i + 1)) Δ', fun σ' H' ⟨B', Δ', S', x', j'⟩ => ⟨ds.length - (i + 1), by omega, B', Δ', hlt, rfl, S', x', j'⟩, fun v H3 y => ?_⟩
    obtain ⟨B3, d, pg, hd, rd⟩ := wk.yields i B2 H2 v H3 hlt x2 S2.sub y
    have ed : ds.drop i = d :: ds.drop (i + 1) := by
      rw [List.drop_eq_getElem_cons hlt]
      congr 1
      rw [List.getElem?_eq_getElem hlt] at hd
      exact Option.some.inj hd
    rw [ed] at j2
    refine WG.len fun hl => jt d _ Δ2 j2 σ2 B3 H3 v (S2.step pg) rd hl _ fun σ4 Δ4 S4 _ _ _ _ hgo => hgo σ4 B3 H3 S4 _ ?_
    have x3 : Ex B1 B3 := x2.trans pg.eb
    exact ⟨fun σ' B' H' Δ' x' S' q => ⟨B', Δ', S', x3.trans x', q⟩, fun σ' B' H' Δ' x' S' q => M.nx σ' B' H' Δ' ((x1.trans x3).trans x') S' q, fun σ' B' H' Δ' x' S' q => ⟨B', Δ', S', x3.trans x', q⟩,
      fun v σ' B' H' d Δ' x' S' r q => M.rt v σ' B' H' d Δ' ((x1.trans x3).trans x') S' r q, fun l σ' B' H' o Δ' x' S' hE hB r q => M.rf l σ' B' H' o Δ' ((x1.trans x3).trans x') S' hE hB r q⟩
  · have e : i = ds.length := by omega
    subst e
    rw [List.drop_length] at j2
    exact .inl ⟨wk.stops B2 H2 x2 S2.sub, M.nx σ2 B2 H2 Δ2 (x1.trans x2) S2 (jd Δ2 j2)⟩
/-- after.get(todo.pop(0), []), the key there -/
theorem di_getPop {ya yt : Str} {p1 p2 p3 p4 p5 p6 p7 : Pos} {kj : Nat} {kds : List (Key × D)} {x : Str} {rest : List Str} {ds : List D} {P : List Slot → List D → Prop} (C : Cz E N vb wb G sc k X) (ia it : Nat) (hne : ia ≠ it) (ha : Δ[ia]? = some (.d (.dic kds))) (ht : Δ[it]? = some (.own (.lst ((x :: rest).map D.str)))) (hx : luK kds (.inr x) = some (.lst ds)) (hP : P (Δ.set it (.own (.lst (rest.map D.str)))) ds)
    (va : vb[ia]? = some true := by rfl) (na : N[ia]? = some ya := by rfl) (vt : vb[it]? = some true := by rfl) (nt : N[it]? = some yt := by rfl)
    (m : M2 X (.Name ya p1) "get" p2 (.Call (.Attribute (.Name yt p3) "pop" p4) [.Constant (.int 0) kj p5] [] p6) (.List [] p7) pos := by exact ⟨rfl, rfl, rfl, rfl⟩)
    (b1 : attributeBase (.Name yt p3) "pop" X.env (eval (.Name yt p3) X.env) = eval (.Name yt p3) X.env := by rfl)
    (b2 : ((backTo p6 (starEach [.Constant (.int 0) kj p5] X.env)).all (fun x => !x.1) && (backToKw p6 (keywordEach [] X.env)).all (fun x => x.1.isSome) && decide (([Expr.Constant (.int 0) kj p5] : List Expr).length + ([] : List Keyword).length + (if ([] : List Keyword).isEmpty then 0 else 1) < 30)) = true := by rfl) (b3 : (p4.endLine == p6.line) = true := by rfl) :
    DoI2 X E tg (.Call (.Attribute (.Name ya p1) "get" p2) [.Call (.Attribute (.Name yt p3) "pop" p4) [.Constant (.int 0) kj p5] [] p6, .List [] p7] [] pos) Δ P := fun σ B H S R q => by
  obtain ⟨w1, w2, w3⟩ := C.vis ia ya va na
  obtain ⟨u1, u2, u3⟩ := C.vis it yt vt nt
  refine WI.of (pi_list (pe_dget2 (hu_of C.room) (pe_var (i := ia) (by rw [C.hN]; exact na) w1 w2 w3) (pe_bm PySem.F.plainAttrs_list PySem.F.slot_list_pop PySem.F.type_list_pop mt_popAt (pe_var (i := it) (by rw [C.hN]; exact nt) u1 u2 u3) (pa_cons pe_int pa_nil rfl) b1 b2 b3 rfl rfl) (pe_lst pa_nil) m)) ?_
  obtain ⟨va', ea, ra⟩ := S.get ha
  obtain ⟨l, el, hB, hE, ho⟩ := S.own ht
  obtain ⟨ws, hws, rws⟩ := ho
  cases ra with
  | @dic a vs _ hrd rk =>
  have rdH : Rd H a (.dK vs) := S.sub.rd hrd
  cases rws with
  | @cons v0 _ vs0 _ r0 rr =>
  cases r0
  refine ⟨.ref a, ea, a, rfl, .inl ⟨_, rdH⟩, ?_⟩
  refine ⟨.ref l, el, .inl ⟨rfl, _, SqL.of hws⟩, l, .str x :: vs0, 0, 0, .str x, rfl, rfl, hws, by decide, by decide, ?_, rfl, ?_⟩
  · show seqIndex? 0 (vs0.length + 1) = some 0
    unfold seqIndex?
    simp
  have e1 : (V.str x :: vs0).eraseIdx 0 = vs0 := rfl
  rw [e1]
  have S2 : Sees E (Δ.set it (.own (.lst (rest.map D.str)))) σ B (upd H l (.lst vs0)) := own_upd S ht el rr
  refine ⟨Nat.zero_le _, fun p np => ?_⟩
  have pg : Pg B (upd H l (.lst vs0)) B (upd (upd H l (.lst vs0)) p (.lst [])) := Pg.apart S2.sub np
  have S3 := S2.step pg
  have dk := DnK.lu (.inr x) rk
  rw [hx] at dk
  cases hv : valV vs (.inr x) with
  | none => rw [hv] at dk; exact dk.elim
  | some u =>
    rw [hv] at dk
    have dk : Dn E.K B u (.lst ds) := dk
    refine ⟨some u, .inl ⟨vs, .inr x, S3.sub.rd hrd, rfl, hv.symm⟩, ?_⟩
    cases dk with
    | @lst b us _ hb rb =>
      refine ⟨b, rfl, ⟨us, SqL.of (S3.sub _ _ hb)⟩, ?_⟩
      rw [C.hK]
      exact q _ B _ ds _ (Ex.refl B) S3 (wk_list hb rb) hP
end
end Kn
/-! P16: what names lead to. -/
namespace Kn
open PySem PySem.Spec PyProof.Rows L2
def nextOf (v : List Se) (x : Str) : List Str := (usesIn v x).filter fun y => decide (y ∈ names v)
inductive Rch (nx : Str → List Str) : Str → Str → Prop
  | refl (x : Str) : Rch nx x x
  | step {x y z : Str} : Rch nx x y → z ∈ nx y → Rch nx x z
def nextK (v : List Se) : List (Key × D) := (names v).map fun x => (.inr x, .lst ((nextOf v x).map D.str))
theorem nextK_lu {v : List Se} {x : Str} (h : x ∈ names v) : luK (nextK v) (.inr x) = some (.lst ((nextOf v x).map D.str)) := by
  unfold nextK
  have : ∀ xs : List Str, x ∈ xs → luK (xs.map fun x => ((.inr x : Key), D.lst ((nextOf v x).map D.str))) (.inr x) = some (.lst ((nextOf v x).map D.str)) := fun xs => by
    induction xs with
    | nil => intro h; cases h
    | cons y ys ih =>
      intro h
      rw [List.map_cons, luK_cons]
      by_cases e : y = x
      · subst e; rw [if_pos rfl]
      · rw [if_neg (fun z => e (Sum.inr.inj z))]
        exact ih ((List.mem_cons.mp h).resolve_left fun z => e z.symm)
  exact this _ h
theorem addUse_keep {x : Str} {acc : List Str} {e : Nat × Nat × Ln} (h : x ∈ acc) : x ∈ addUse acc e := by
  unfold addUse
  split
  · exact h
  · split
    · exact h
    · exact List.mem_append_left _ h
theorem uses_fold {x : Str} : ∀ {es : List (Nat × Nat × Ln)} {acc : List Str}, x ∈ es.foldl addUse acc ↔ x ∈ acc ∨ ∃ e ∈ es, useOf e.2.2 = some x
  | [], acc => by simp
  | e :: es, acc => by
    rw [List.foldl_cons, uses_fold]
    unfold addUse
    constructor
    · rintro (h | ⟨e', h1, h2⟩)
      · split at h
        · exact .inl h
        · rename_i y hy
          split at h
          · exact .inl h
          · rcases List.mem_append.mp h with q | q
            · exact .inl q
            · rw [List.mem_singleton] at q; subst q; exact .inr ⟨e, List.mem_cons_self, hy⟩
      · exact .inr ⟨e', List.mem_cons_of_mem _ h1, h2⟩
    · rintro (h | ⟨e', h1, h2⟩)
      · left
        split
        · exact h
        · split
          · exact h
          · exact List.mem_append_left _ h
      · rcases List.mem_cons.mp h1 with q | q
        · subst q
          left
          rw [h2]
          show x ∈ (if x ∈ acc then acc else acc ++ [x])
          split
          · assumption
          · simp
        · exact .inr ⟨e', q, h2⟩
theorem uses_nd : ∀ {es : List (Nat × Nat × Ln)} {acc : List Str}, acc.Nodup → (es.foldl addUse acc).Nodup
  | [], _, h => h
  | e :: es, acc, h => by
    rw [List.foldl_cons]
    refine uses_nd ?_
    unfold addUse
    split
    · exact h
    · split
      · exact h
      · rename_i n
        refine List.nodup_append.mpr ⟨h, by simp, ?_⟩
        intro a ha b hb e
        simp at hb
        subst hb e
        exact n ha
theorem nextOf_nd (v : List Se) (x : Str) : (nextOf v x).Nodup := List.Pairwise.filter _ (uses_nd (by simp))
theorem nextOf_sub {v : List Se} {x y : Str} (h : y ∈ nextOf v x) : y ∈ names v := by
  unfold nextOf at h
  have := (List.mem_filter.mp h).2
  exact of_decide_eq_true this
theorem nd_len {xs ys : List Str} (nd : xs.Nodup) (h : ∀ x ∈ xs, x ∈ ys) : xs.length ≤ ys.length := by
  induction xs generalizing ys with
  | nil => exact Nat.zero_le _
  | cons x xs ih =>
    rw [List.nodup_cons] at nd
    have hx := h x List.mem_cons_self
    have := ih (ys := ys.erase x) nd.2 fun y hy => by
      have hne : y ≠ x := fun e => nd.1 (e ▸ hy)
      exact (List.mem_erase_of_ne hne).mpr (h y (List.mem_cons_of_mem _ hy))
    rw [List.length_erase_of_mem hx] at this
    have hp : 0 < ys.length := List.length_pos_of_mem hx
    rw [List.length_cons]
    omega
theorem usesIn_len {v : List Se} (hv : WebOk v) (x : Str) : (usesIn v x).length ≤ 96 := by
  have : ∀ (es : List (Nat × Nat × Ln)) (acc : List Str), (es.foldl addUse acc).length ≤ acc.length + es.length := fun es => by
    induction es with
    | nil => intro acc; simp
    | cons e es ih =>
      intro acc
      have h1 := ih (addUse acc e)
      have h2 := addUse_len acc e
      rw [List.foldl_cons, List.length_cons]
      omega
  have h1 := this (codeIn v x) []
  have h2 := codeFrom_len x 0 v fun s hs => (hv.se s hs).short
  have h3 := hv.few
  have h4 : (codeIn v x).length ≤ 8 * v.length := h2
  rw [List.length_nil] at h1
  show ((codeIn v x).foldl addUse []).length ≤ 96
  omega
section
variable {P : Program} {w : World} {K : PySem.W.Frag} {mg : Str → Option Value} {base : Heap}
def R_next_of : List D → O → Prop := fun ds o => ∃ v, ds = [webD v] ∧ WebOk v ∧ o = .dK (nextK v)
theorem ok_next_of (T : Tx mg) (A : At K mg "next_of" s_next_of P_next_of) (F1 : FnD P w K mg base "names_in" 2 (spR K R_names_in)) (F2 : FnD P w K mg base "uses_in" 2 (spR K R_uses_in)) : FnD P w K mg base "next_of" 3 (spL K R_next_of) := by
  refine A.l sc_next_of dc_next_of (fun ds d h => by obtain ⟨_, rfl, _⟩ := h; rfl) fun X B H ds o C hR => ?_
  obtain ⟨v, rfl, hv, rfl⟩ := hR
  have few := hv.few
  have nl := names_len v
  show Go X _ _ [.d (webD v), .un, .un, .un] _
  refine go_cons (gs_set C 1 (Do.of (ev_call C 0 F1 (ea_cons (ev_nm C 0 rfl) ea_nil) ⟨v, rfl, by omega, rfl⟩) ?_))
  refine go_cons (gs_retF (DoF.of (ef_dc C 2 (bk_by (own := ow_next_of_0) (vb := bv_next_of_0) (wb := bw_next_of_0) (G := bg_next_of_0) (by decide +kernel)) (fun i o => by
    match i with
    | 0 => simp
    | 1 => simp
    | 2 => simp
    | 3 => simp
    | n + 4 => simp) D.str (fun x => x) (fun x => .lst ((nextOf v x).map D.str)) (names v) (ev_nm C 1 rfl) (by simpa using names_nd v) (by omega) (fun x hx Y CY => ⟨ev_nm CY 2 rfl, EvF.ld (ef_lcG CY (.one _) (bk_by (own := ow_next_of_1) (vb := bv_next_of_1) (wb := bw_next_of_1) (G := bg_next_of_1) (by decide +kernel)) (by exact ⟨trivial, trivial⟩) (by trivial) D.str (fun y => [.d (webD v), .d (.tup ((names v).map D.str)), .d (.str x), .d (.str y)]) (fun y => decide (y ∈ names v)) D.str (usesIn v x) (di_tup CY (Do.of (ev_call CY 0 F2 (ea_cons (ev_nm CY 0 rfl) (ea_cons (ev_nm CY 2 rfl) ea_nil)) ⟨v, x, rfl, hv, rfl⟩) ⟨_, rfl, rfl⟩)) (by have := usesIn_len hv x; omega) (fun y hy Z CZ => ⟨bd_nm CZ 3 rfl, DoT.of (et_cmp (co_in CZ (.inr rfl)) (ev_nm CZ 3 rfl).r (ev_nm CZ 1 rfl).r) rfl, fun _ => ev_nm CZ 3 rfl⟩))⟩)) ?_))
  rfl
theorem ok_reached_from (T : Tx mg) (A : At K mg "reached_from" s_reached_from P_reached_from) (v : List Se) (hv : WebOk v) (start : List Str) (nd : start.Nodup) (sub : ∀ x ∈ start, x ∈ names v) :
    FnD P w K mg base "reached_from" 1 (spM K (fun ds => ds = [.dic (nextK v), .lst (start.map D.str)]) fun _ o => ∃ zs : List Str, o = .lst (zs.map D.str) ∧ ∀ z, z ∈ zs ↔ ∃ s ∈ start, Rch (nextOf v) s z) := by
  refine A.m sc_reached_from dc_reached_from (fun ds h => by subst h; rfl) fun X B H ds C hR => ?_
  subst hR
  have few := hv.few
  have nl := names_len v
  show Go X _ _ [.d (.dic (nextK v)), .d (.lst (start.map D.str)), .un, .un, .un] _
  refine go_cons (gs_new C 2 (DoF.of (ef_list C 0 (ev_nm C 1 rfl).r rfl T.list) ?_))
  refine go_cons (gs_new C 3 (DoF.of (ef_list C 0 (ev_nm C 1 rfl).r rfl T.list) ?_))
  refine go_cons (gs_while C (fun m Δ => ∃ (found todo : List Str) (a : Slot), Δ = [.d (.dic (nextK v)), .d (.lst (start.map D.str)), .own (.lst (found.map D.str)), .own (.lst (todo.map D.str)), a] ∧ found.Nodup ∧ (∀ y ∈ found, y ∈ names v) ∧ (∀ y ∈ todo, y ∈ found) ∧ (∀ y ∈ start, y ∈ found) ∧ (∀ y ∈ found, ∃ s ∈ start, Rch (nextOf v) s y) ∧ (∀ y ∈ found, y ∈ todo ∨ ∀ z ∈ nextOf v y, z ∈ found) ∧ m = 2 * ((names v).length - found.length) + todo.length ∧ todo.length ≤ found.length)
    (m0 := 2 * ((names v).length - start.length) + start.length) ⟨start, start, _, rfl, nd, sub, fun y h => h, fun y h => h, fun y h => ⟨y, h, .refl y⟩, fun y h => .inl h, rfl, Nat.le_refl _⟩ ?_)
  rintro m _ ⟨found, todo, sa, rfl, h1, h2, h3, h4, h5, h6, rfl, h7⟩
  have fl := nd_len h1 h2
  refine ⟨_, et_cmp co_gt (ev_len C 1 (er_own C 3 rfl rfl) (.lst _) T.len).r ev_int.r, fun hb => ?_, fun hb => ?_⟩
  · cases todo with
    | nil => cases hb
    | cons x todo =>
      have hx : x ∈ names v := h2 x (h3 x List.mem_cons_self)
      refine go_cons (gs_for2 C [4] (di_getPop C 0 3 (by decide) rfl rfl (nextK_lu hx) ?_))
      refine ⟨fun r Δ => ∃ (left done : List Str) (f2 t2 : List Str) (a : Slot), r = left.map D.str ∧ done ++ left = nextOf v x ∧ Δ = [.d (.dic (nextK v)), .d (.lst (start.map D.str)), .own (.lst (f2.map D.str)), .own (.lst (t2.map D.str)), a] ∧ f2.Nodup ∧ (∀ y ∈ f2, y ∈ names v) ∧ (∀ y ∈ t2, y ∈ f2) ∧ (∀ y ∈ start, y ∈ f2) ∧ (∀ y ∈ f2, ∃ s ∈ start, Rch (nextOf v) s y) ∧ (∀ y ∈ f2, y ∈ t2 ∨ y = x ∨ ∀ z ∈ nextOf v y, z ∈ f2) ∧ (∀ z ∈ done, z ∈ f2) ∧ x ∈ f2 ∧ 2 * ((names v).length - f2.length) + t2.length ≤ 2 * ((names v).length - found.length) + todo.length ∧ t2.length + found.length ≤ todo.length + f2.length,
        ⟨nextOf v x, [], found, todo, _, rfl, rfl, rfl, h1, h2, fun y hy => h3 y (List.mem_cons_of_mem _ hy), h4, h5, fun y hy => ?_, by simp, h3 x List.mem_cons_self, Nat.le_refl _, Nat.le_refl _⟩, fun y r Δ2 hJ => ?_, fun Δ2 hJ => ?_⟩
      · rcases h6 y hy with q | q
        · rcases List.mem_cons.mp q with q | q
          · exact .inr (.inl q)
          · exact .inl q
        · exact .inr (.inr q)
      · obtain ⟨left, done, f2, t2, sa2, hr, he, rfl, g1, g2, g3, g4, g5, g6, g7, g8, g9, g10⟩ := hJ
        cases left with
        | nil => cases hr
        | cons z left =>
          injection hr with e1 e2
          subst e1 e2
          have hz : z ∈ nextOf v x := by rw [← he]; simp
          have f2l := nd_len g1 g2
          refine bd_nm C 4 ?_
          refine go_cons (gs_ifE (et_cmp (co_notin C (.inl rfl)) (ev_nm C 4 rfl).r (er_own C 2 rfl rfl)) (fun hb => ?_) (fun hb => ?_))
          · have hn : z ∉ f2 := by simpa using hb
            have nd2 : (f2 ++ [z]).Nodup := List.nodup_append.mpr ⟨g1, by simp, fun a ha b hb e => by simp at hb; subst hb e; exact hn ha⟩
            have sub2 : ∀ y ∈ f2 ++ [z], y ∈ names v := fun y hy => by
              rcases List.mem_append.mp hy with q | q
              · exact g2 y q
              · rw [List.mem_singleton] at q; subst q; exact nextOf_sub hz
            have f3l := nd_len nd2 sub2
            rw [List.length_append] at f3l
            have f3l : f2.length + 1 ≤ (names v).length := f3l
            rw [List.length_cons] at h7
            refine go_cons (gs_append C 2 rfl (Do.of (ev_nm C 4 rfl) ⟨by rw [List.length_map]; omega, ?_⟩))
            refine go_cons (gs_append C 3 rfl (Do.of (ev_nm C 4 rfl) ⟨by rw [List.length_map]; omega, go_nil ?_⟩))
            refine go_nil ⟨left, done ++ [z], f2 ++ [z], t2 ++ [z], .d (.str z), rfl, by rw [← he]; simp, ?_, nd2, sub2, fun y hy => ?_, fun y hy => List.mem_append_left _ (g4 y hy), fun y hy => ?_, fun y hy => ?_, fun y hy => ?_, List.mem_append_left _ g8, ?_, ?_⟩
            · rw [List.map_append, List.map_append]; rfl
            · rcases List.mem_append.mp hy with q | q
              · exact List.mem_append_left _ (g3 y q)
              · exact List.mem_append_right _ q
            · rcases List.mem_append.mp hy with q | q
              · exact g5 y q
              · rw [List.mem_singleton] at q
                subst q
                obtain ⟨s, hs, hr⟩ := g5 x g8
                exact ⟨s, hs, .step hr hz⟩
            · rcases List.mem_append.mp hy with q | q
              · rcases g6 y q with w | w | w
                · exact .inl (List.mem_append_left _ w)
                · exact .inr (.inl w)
                · exact .inr (.inr fun u hu => List.mem_append_left _ (w u hu))
              · exact .inl (List.mem_append_right _ q)
            · rcases List.mem_append.mp hy with q | q
              · exact List.mem_append_left _ (g7 y q)
              · exact List.mem_append_right _ q
            · rw [List.length_append, List.length_append]
              show 2 * ((names v).length - (f2.length + 1)) + (t2.length + 1) ≤ _
              omega
            · rw [List.length_append, List.length_append]
              show t2.length + 1 + _ ≤ _ + (f2.length + 1)
              omega
          · have hin : z ∈ f2 := by simpa using hb
            refine go_nil (go_nil ⟨left, done ++ [z], f2, t2, .d (.str z), rfl, by rw [← he]; simp, rfl, g1, g2, g3, g4, g5, g6, fun y hy => ?_, g8, g9, g10⟩)
            rcases List.mem_append.mp hy with q | q
            · exact g7 y q
            · rw [List.mem_singleton] at q; subst q; exact hin
      · obtain ⟨left, done, f2, t2, sa2, hr, he, rfl, g1, g2, g3, g4, g5, g6, g7, g8, g9, g10⟩ := hJ
        cases left with
        | cons z left => cases hr
        | nil =>
          rw [List.append_nil] at he
          subst he
          have f2l := nd_len g1 g2
          rw [List.length_cons] at h7
          refine go_nil ⟨_, ?_, f2, t2, _, rfl, g1, g2, g3, g4, g5, fun y hy => ?_, rfl, ?_⟩
          · rw [List.length_cons]; omega
          · rcases g6 y hy with w | w | w
            · exact .inl w
            · subst w; exact .inr g7
            · exact .inr w
          · omega
  · have e : todo = [] := by
      cases todo with
      | nil => rfl
      | cons x t =>
        have : decide ((0 : Int) < (((x :: t).map D.str).length : Int)) = false := hb
        rw [List.length_map, List.length_cons] at this
        have := of_decide_eq_false this
        omega
    subst e
    have key : ∀ a b, Rch (nextOf v) a b → a ∈ found → b ∈ found := fun a b hr => by
      induction hr with
      | refl => exact fun h => h
      | step r hz ih =>
        intro h
        rcases h6 _ (ih h) with q | q
        · cases q
        · exact q _ hz
    exact go_cons (gs_retO C 2 rfl rfl ⟨found, rfl, fun z => ⟨fun hz => h5 z hz, fun ⟨s, hs, hr⟩ => key s z hr (h4 s hs)⟩⟩)
end
end Kn
/-! P17: faults. -/
namespace Kn
open PySem PySem.Spec PyProof.Rows L2
noncomputable def circ (v : List Se) (x : Str) : Bool := @decide (∃ s ∈ nextOf v x, Rch (nextOf v) s x) (Classical.propDecidable _)
inductive Flt where
  | missing (i k : Nat) (x : Str) | count (i k : Nat) (x : Str) | file (i k : Nat) (x : Str) | circle (x : Str)
def Flt.d : Flt → D
  | .missing i k x => .tup [.str "missing", .int (i : Nat), .int (k : Nat), .str x]
  | .count i k x => .tup [.str "count", .int (i : Nat), .int (k : Nat), .str x]
  | .file i k x => .tup [.str "file", .int (i : Nat), .int (k : Nat), .str x]
  | .circle x => .tup [.str "circle", .str x]
def fltUse (hs : List (Str × Hd)) (i k : Nat) (x : Str) (as : List Str) : List Flt := match hfind hs x with
  | none => [.missing i k x]
  | some h => (if as.length ≠ h.params.length then [.count i k x] else []) ++ (if h.file = true then [.file i k x] else [])
def fltLine (hs : List (Str × Hd)) (i k : Nat) : Ln → List Flt
  | .plain _ => []
  | .use _ x as => fltUse hs i k x as
def fltLs (hs : List (Str × Hd)) (i : Nat) : Nat → List Ln → List Flt
  | _, [] => []
  | k, l :: r => fltLine hs i k l ++ fltLs hs i (k + 1) r
def fltSs (hs : List (Str × Hd)) : Nat → List Se → List Flt
  | _, [] => []
  | i, s :: r => fltLs hs i 0 s.code ++ fltSs hs (i + 1) r
noncomputable def flts (v : List Se) : List Flt := fltSs (heads v) 0 v ++ ((names v).filter (circ v)).map Flt.circle
theorem fltUse_len (hs : List (Str × Hd)) (i k : Nat) (x : Str) (as : List Str) : (fltUse hs i k x as).length ≤ 2 := by
  unfold fltUse
  split
  · exact Nat.le_of_ble_eq_true rfl
  · rw [List.length_append]
    split <;> split <;> simp
section
variable {P : Program} {w : World} {K : PySem.W.Frag} {mg : Str → Option Value} {base : Heap}
def R_in_circles : List D → O → Prop := fun ds o => ∃ v, ds = [webD v] ∧ WebOk v ∧ o = .lst (((names v).filter (circ v)).map D.str)
theorem ok_in_circles (T : Tx mg) (A : At K mg "in_circles" s_in_circles P_in_circles) (A2 : At K mg "reached_from" s_reached_from P_reached_from) (F1 : FnD P w K mg base "names_in" 2 (spR K R_names_in)) (F2 : FnD P w K mg base "next_of" 3 (spL K R_next_of)) : FnD P w K mg base "in_circles" 4 (spL K R_in_circles) := by
  refine A.l sc_in_circles dc_in_circles (fun ds d h => by obtain ⟨_, rfl, _⟩ := h; rfl) fun X B H ds o C hR => ?_
  obtain ⟨v, rfl, hv, rfl⟩ := hR
  have few := hv.few
  have nl := names_len v
  show Go X _ _ [.d (webD v), .un, .un] _
  refine go_cons (gs_set C 1 (Do.of (EvF.kn (ef_call C 0 F2 (ea_cons (ev_nm C 0 rfl) ea_nil) ⟨v, rfl, hv, rfl⟩) rfl) ?_))
  refine go_cons (gs_retF (df_lcG C (.one _) (bk_by (own := ow_in_circles_0) (vb := bv_in_circles_0) (wb := bw_in_circles_0) (G := bg_in_circles_0) (by decide +kernel)) (by exact ⟨trivial, trivial⟩) D.str (fun x => [.d (webD v), .d (.dic (nextK v)), .d (.str x)]) (circ v) (fun x d => d = .str x) (di_tup C (Do.of (ev_call C 1 F1 (ea_cons (ev_nm C 0 rfl) ea_nil) ⟨v, rfl, by omega, rfl⟩) ⟨_, rfl, names v, rfl, by omega, fun x hx Y CY => ⟨bd_nm CY 2 rfl, ?_, fun _ => Do.of (ev_nm CY 2 rfl) rfl⟩, fun zs hz => ?_⟩))))
  · have fr := ok_reached_from (P := P) (w := w) (base := base) T A2 v hv (nextOf v x) (nextOf_nd v x) fun y hy => nextOf_sub hy
    refine dt_cmp op_in_seq (Do.of (ev_nm CY 2 rfl) (DoF.kn (df_callM CY 0 (P := fun o => ∃ zs : List Str, o = .lst (zs.map D.str) ∧ ∀ z, z ∈ zs ↔ ∃ s ∈ nextOf v x, Rch (nextOf v) s z) fr (DoA.of (ea_cons (ev_nm CY 1 rfl) (ea_cons (ev_dget (d := .lst ((nextOf v x).map D.str)) CY (ev_nm CY 1 rfl).r (ev_nm CY 2 rfl) (.inr (.inl ⟨_, x, rfl, rfl, (nextK_lu hx).symm⟩))) ea_nil)) ⟨rfl, fun o h => h⟩)) ?_))
    rintro _ ⟨zs, rfl, hz⟩
    refine ⟨_, rfl, decide (x ∈ zs), ?_, ?_⟩
    · intro B' H' v' u e h1 h2 Q q
      obtain ⟨p, hp, hs⟩ := seq_in e h2 (.inl rfl)
      rw [h1.str_inv]
      exact ⟨p, _, hp, by rw [CY.hK]; exact hs, rfl, flat_strs zs, by rw [inV_strs]; exact q _ B' H' (Pg.refl e) (.bl _)⟩
    · unfold circ
      rw [Bool.eq_iff_iff]
      simp [hz x]
  · show O.lst _ = O.lst _
    rw [paired_map (g := D.str) hz]
def R_faults_of_use : List D → O → Prop := fun ds o => ∃ (hs : List (Str × Hd)) (i k n : Nat) (x : Str) (as : List Str), ds = [.dic (hdK hs), .int (i : Nat), .int (k : Nat), (Ln.use n x as).d] ∧ (∀ p ∈ hs, p.2.params.length ≤ 1000) ∧ o = .lst ((fltUse hs i k x as).map Flt.d)
theorem ok_faults_of_use (T : Tx mg) (A : At K mg "faults_of_use" s_faults_of_use P_faults_of_use) : FnD P w K mg base "faults_of_use" 1 (spL K R_faults_of_use) := by
  refine A.l sc_faults_of_use dc_faults_of_use (fun ds d h => by obtain ⟨_, _, _, _, _, _, rfl, _⟩ := h; rfl) fun X B H ds o C hR => ?_
  obtain ⟨hs, i, k, n, x, as, rfl, hp, rfl⟩ := hR
  show Go X _ _ [.d (.dic (hdK hs)), .d (.int (i : Nat)), .d (.int (k : Nat)), .d (.tup [.str "use", .int (n : Nat), .str x, .tup (as.map D.str)]), .un, .un] _
  refine go_cons (gs_set C 4 (Do.of (ev_ix C (ev_nm C 3 rfl).r ev_int rfl rfl) ?_))
  unfold fltUse
  cases hf : hfind hs x with
  | none =>
    refine go_cons (gs_ifE (et_cmp (co_notind C lu_str) (ev_nm C 4 rfl).r (ev_nm C 0 rfl).r) (fun _ => ?_) (fun h => ?_))
    · refine go_cons (gs_retF (DoF.of (ef_lst (ea_cons (ev_tup (ea_cons ev_str (ea_cons (ev_nm C 1 rfl) (ea_cons (ev_nm C 2 rfl) (ea_cons (ev_nm C 4 rfl) ea_nil))))) ea_nil)) ?_))
      rfl
    · rw [lu_hdK, hf] at h; cases h
  | some g =>
    have hlu : luK (hdK hs) (.inr x) = some g.d := by rw [lu_hdK, hf]; rfl
    have gl := hp _ (hfind_mem hf)
    refine go_cons (gs_ifE (et_cmp (co_notind C lu_str) (ev_nm C 4 rfl).r (ev_nm C 0 rfl).r) (fun h => ?_) (fun _ => go_nil ?_))
    · rw [lu_hdK, hf] at h; cases h
    refine go_cons (gs_new C 5 (DoF.of (ef_lst ea_nil) ?_))
    refine go_cons (gs_via (fun Δ' => Δ' = [.d (.dic (hdK hs)), .d (.int (i : Nat)), .d (.int (k : Nat)), .d (.tup [.str "use", .int (n : Nat), .str x, .tup (as.map D.str)]), .d (.str x), .own (.lst ((if as.length ≠ g.params.length then [Flt.count i k x] else []).map Flt.d))]) (gs_ifE (et_cmp co_neI (ev_len C 0 (ev_ix (d := .tup (as.map D.str)) C (ev_nm C 3 rfl).r ev_int rfl rfl).r (.tup _) T.len).r (ev_len C 0 (ev_ix (d := .tup (g.params.map D.str)) (d1 := g.d) C (ev_dget (d := g.d) C (ev_nm C 0 rfl).r (ev_nm C 4 rfl) (.inr (.inl ⟨_, x, rfl, rfl, hlu.symm⟩))).r ev_int rfl rfl).r (.tup _) T.len).r) (fun h => ?_) (fun h => ?_)) ?_)
    · have hne : as.length ≠ g.params.length := fun e => by
        rw [strs_len, strs_len, e] at h
        simp at h
      rw [if_pos hne]
      refine go_cons (gs_append C 5 rfl (Do.of (ev_tup (ea_cons ev_str (ea_cons (ev_nm C 1 rfl) (ea_cons (ev_nm C 2 rfl) (ea_cons (ev_nm C 4 rfl) ea_nil))))) ⟨by show 0 < _; decide, go_nil rfl⟩))
    · have he : as.length = g.params.length := by
        rw [strs_len, strs_len] at h
        simp at h
        omega
      rw [if_neg (fun z => z he)]
      exact go_nil rfl
    rintro _ rfl
    refine go_cons (gs_via (fun Δ' => Δ' = [.d (.dic (hdK hs)), .d (.int (i : Nat)), .d (.int (k : Nat)), .d (.tup [.str "use", .int (n : Nat), .str x, .tup (as.map D.str)]), .d (.str x), .own (.lst (((if as.length ≠ g.params.length then [Flt.count i k x] else []) ++ (if g.file = true then [Flt.file i k x] else [])).map Flt.d))]) (gs_ifE (et_val (x := g.file) (ev_ix (d := .bl g.file) (d1 := g.d) C (ev_dget (d := g.d) C (ev_nm C 0 rfl).r (ev_nm C 4 rfl) (.inr (.inl ⟨_, x, rfl, rfl, hlu.symm⟩))).r ev_int rfl rfl)) (fun h => ?_) (fun h => ?_)) ?_)
    · rw [if_pos h]
      refine go_cons (gs_append C 5 rfl (Do.of (ev_tup (ea_cons ev_str (ea_cons (ev_nm C 1 rfl) (ea_cons (ev_nm C 2 rfl) (ea_cons (ev_nm C 4 rfl) ea_nil))))) ⟨by rw [List.length_map]; split <;> simp, go_nil ?_⟩))
      show _ = _
      rw [List.map_append]
      rfl
    · have e : (if g.file = true then [Flt.file i k x] else []) = [] := if_neg (by rw [h]; decide)
      rw [e, List.append_nil]
      exact go_nil rfl
    rintro _ rfl
    exact go_cons (gs_retO C 5 rfl rfl rfl)
theorem fltLs_len (hs : List (Str × Hd)) (i : Nat) : ∀ (k : Nat) (ls : List Ln), (fltLs hs i k ls).length ≤ 2 * ls.length
  | _, [] => Nat.zero_le _
  | k, l :: r => by
    have h1 := fltLs_len hs i (k + 1) r
    have h2 : (fltLine hs i k l).length ≤ 2 := by
      cases l with
      | plain s => exact Nat.zero_le _
      | use n x as => exact fltUse_len hs i k x as
    rw [fltLs, List.length_append, List.length_cons]
    omega
theorem fltSs_len (hs : List (Str × Hd)) : ∀ (i : Nat) (ss : List Se), (∀ s ∈ ss, s.code.length ≤ 8) → (fltSs hs i ss).length ≤ 16 * ss.length
  | _, [], _ => Nat.zero_le _
  | i, s :: r, h => by
    have h1 := fltLs_len hs i 0 s.code
    have h2 := fltSs_len hs (i + 1) r fun t ht => h t (List.mem_cons_of_mem _ ht)
    have h3 := h s List.mem_cons_self
    rw [fltSs, List.length_append, List.length_cons]
    omega
def R_faults : List D → D → Prop := fun ds d => ∃ v, ds = [webD v] ∧ WebOk v ∧ d = .tup ((flts v).map Flt.d)
theorem ok_faults_in (T : Tx mg) (A : At K mg "faults_in" s_faults_in P_faults_in) (F1 : FnD P w K mg base "heads_of" 1 (spL K R_heads_of)) (F2 : FnD P w K mg base "faults_of_use" 1 (spL K R_faults_of_use)) (F3 : FnD P w K mg base "in_circles" 4 (spL K R_in_circles)) : FnD P w K mg base "faults_in" 5 (spR K R_faults) := by
  refine A.r sc_faults_in dc_faults_in (fun ds d h => by obtain ⟨_, rfl, _⟩ := h; rfl) fun X B H ds d C hR => ?_
  obtain ⟨v, rfl, hv, rfl⟩ := hR
  have few := hv.few
  have nl := names_len v
  have hpar : ∀ p ∈ heads v, p.2.params.length ≤ 1000 := fun p hp => by
    obtain ⟨t, ht, e1, e2⟩ := heads_mem hp
    have := ((hv.se t ht).head _ e1).few
    omega
  show Go X _ _ [.d (webD v), .un, .un, .un, .un, .un, .un, .un, .un] _
  refine go_cons (gs_set C 1 (Do.of (EvF.kn (ef_call C 0 F1 (ea_cons (ev_nm C 0 rfl) ea_nil) ⟨v, rfl, by omega, rfl⟩) rfl) ?_))
  refine go_cons (gs_new C 2 (DoF.of (ef_lst ea_nil) ?_))
  refine go_cons (gs_for C [3, 4, 5, 6, 7] (di_enumT C 1 (Do.of (ev_nm C 0 rfl) ⟨_, rfl, ?_⟩) T.enumerate))
  refine ⟨fun r Δ => ∃ (i : Nat) (ss : List Se) (acc : List Flt) (a b c d e : Slot), r = enumF i (ss.map Se.d) ∧ Δ = [.d (webD v), .d (.dic (hdK (heads v))), .own (.lst (acc.map Flt.d)), a, b, c, d, e, .un] ∧ (∀ s ∈ ss, s.code.length ≤ 8) ∧ acc.length + 16 * ss.length ≤ 192 ∧ acc ++ fltSs (heads v) i ss = fltSs (heads v) 0 v,
    ⟨0, v, [], _, _, _, _, _, rfl, rfl, fun s hs => (hv.se s hs).short, by simp; omega, rfl⟩, fun y r Δ2 hJ => ?_, fun Δ2 hJ => ?_⟩
  · obtain ⟨i, ss, acc, sa, sb, scc, sd, se, hr, rfl, hs, hl, hq⟩ := hJ
    cases ss with
    | nil => cases hr
    | cons s ss =>
      injection hr with h1 h2
      subst h1 h2
      have h8 := hs s List.mem_cons_self
      rw [List.length_cons] at hl
      rw [fltSs] at hq
      refine bd_tup C (bs_cons (bd_nm C 3 (bs_cons (bd_tup C (bs_cons (bd_nm C 4 (bs_cons (bd_nm C 4 (bs_cons (bd_nm C 5 (bs_nil (bs_nil ?_))))))))))))
      show Go X _ _ [.d (webD v), .d (.dic (hdK (heads v))), .own (.lst (acc.map Flt.d)), .d (.int (i : Nat)), .d (hdD s.head), .d (.tup (s.code.map Ln.d)), sd, se, .un] _
      refine go_cons (gs_for C [6, 7] (di_enumT C 1 (Do.of (ev_nm C 5 rfl) ⟨_, rfl, ?_⟩) T.enumerate))
      refine ⟨fun r Δ => ∃ (k : Nat) (ls : List Ln) (acc2 : List Flt) (a b : Slot), r = enumF k (ls.map Ln.d) ∧ Δ = [.d (webD v), .d (.dic (hdK (heads v))), .own (.lst (acc2.map Flt.d)), .d (.int (i : Nat)), .d (hdD s.head), .d (.tup (s.code.map Ln.d)), a, b, .un] ∧ acc2.length + 2 * ls.length ≤ acc.length + 16 ∧ acc2 ++ (fltLs (heads v) i k ls ++ fltSs (heads v) (i + 1) ss) = fltSs (heads v) 0 v,
        ⟨0, s.code, acc, _, _, rfl, rfl, by omega, hq⟩, fun y r Δ2 hJ => ?_, fun Δ2 hJ => ?_⟩
      · obtain ⟨k, ls, acc2, sa2, sb2, hr, rfl, hl2, hq2⟩ := hJ
        cases ls with
        | nil => cases hr
        | cons l ls =>
          injection hr with h1 h2
          subst h1 h2
          rw [List.length_cons] at hl2
          rw [fltLs] at hq2
          refine bd_tup C (bs_cons (bd_nm C 6 (bs_cons (bd_nm C 7 (bs_nil ?_)))))
          cases l with
          | plain z =>
            refine go_cons (gs_ifE (et_cmp co_eqS (ev_ix (d := .str "plain") C (ev_nm C 7 rfl).r ev_int rfl rfl).r ev_str.r) (fun h => by cases h) (fun _ => go_nil (go_nil ?_)))
            exact ⟨k + 1, ls, acc2, _, _, rfl, rfl, by omega, hq2⟩
          | use n x as =>
            have ful := fltUse_len (heads v) i k x as
            refine go_cons (gs_ifE (et_cmp co_eqS (ev_ix (d := .str "use") C (ev_nm C 7 rfl).r ev_int rfl rfl).r ev_str.r) (fun _ => ?_) (fun h => by cases h))
            refine go_cons (gs_extend C 2 rfl (Do.of (EvF.ld (ef_call C 2 F2 (ea_cons (ev_nm C 1 rfl) (ea_cons (ev_nm C 3 rfl) (ea_cons (ev_nm C 6 rfl) (ea_cons (ev_nm C 7 rfl) ea_nil)))) ⟨heads v, i, k, n, x, as, rfl, hpar, rfl⟩)) ⟨_, rfl, by rw [List.length_map, List.length_map]; omega, go_nil (go_nil ?_)⟩))
            refine ⟨k + 1, ls, acc2 ++ fltUse (heads v) i k x as, .d (.int (k : Nat)), .d (Ln.use n x as).d, rfl, ?_, by rw [List.length_append]; omega, ?_⟩
            · rw [List.map_append]; rfl
            · rw [List.append_assoc, ← List.append_assoc (fltUse (heads v) i k x as)]; exact hq2
      · obtain ⟨k, ls, acc2, sa2, sb2, hr, rfl, hl2, hq2⟩ := hJ
        cases ls with
        | cons l ls => cases hr
        | nil =>
          exact go_nil ⟨i + 1, ss, acc2, _, _, _, _, _, rfl, rfl, fun t ht => hs t (List.mem_cons_of_mem _ ht), by rw [List.length_nil] at hl2; omega, hq2⟩
  · obtain ⟨i, ss, acc, sa, sb, scc, sd, se, hr, rfl, hs, hl, hq⟩ := hJ
    cases ss with
    | cons s ss => cases hr
    | nil =>
      have hq : acc = fltSs (heads v) 0 v := by rw [← hq, fltSs, List.append_nil]
      have hl2 : acc.length ≤ 192 := by rw [List.length_nil] at hl; omega
      have e2 : ((((names v).filter (circ v)).filter fun _ => true).map fun x => (Flt.circle x).d) = (((names v).filter (circ v)).map Flt.circle).map Flt.d := by rw [List.filter_eq_self.mpr (fun _ _ => rfl), List.map_map]; rfl
      have hcl := List.length_filter_le (circ v) (names v)
      refine go_less 3 (go_less 4 (go_less 5 (go_less 6 (go_less 7 ?_))))
      show Go X _ _ [.d (webD v), .d (.dic (hdK (heads v))), .own (.lst (acc.map Flt.d)), .un, .un, .un, .un, .un, .un] _
      refine go_cons (gs_ret (Do.of (ev_tuple C 3 (EvF.lr (ef_cat (er_own C 2 rfl rfl) (EvF.lr (e2 ▸ ef_lcG C .no (bk_by (own := ow_faults_in_0) (vb := bv_faults_in_0) (wb := bw_faults_in_0) (G := bg_faults_in_0) (by decide +kernel)) (by exact ⟨trivial, trivial⟩) (by trivial) D.str (fun x => [.d (webD v), .d (.dic (hdK (heads v))), .own (.lst (acc.map Flt.d)), .un, .un, .un, .un, .un, .d (.str x)]) (fun _ => true) (fun x => (Flt.circle x).d) ((names v).filter (circ v)) (di_list C (Do.of (EvF.ld (ef_call C 4 F3 (ea_cons (ev_nm C 0 rfl) ea_nil) ⟨v, rfl, hv, rfl⟩)) ⟨_, rfl, rfl⟩)) (by omega) (fun x hx Y CY => ⟨bd_nm CY 8 rfl, rfl, fun _ => ev_tup (ea_cons ev_str (ea_cons (ev_nm CY 8 rfl) ea_nil))⟩))) (by rw [List.length_map, List.length_map, List.length_map]; omega))) rfl T.tuple) ?_))
      show D.tup _ = D.tup _
      unfold flts
      rw [hq, List.map_append]
theorem ok_faults (T : Tx mg) (A : At K mg "faults" s_faults P_faults) (F1 : FnD P w K mg base "faults_in" 5 (spR K R_faults)) (F2 : FnD P w K mg base "need_web" 7 (spR K R_need_web)) : FnD P w K mg base "faults" 8 (spR K R_faults) := by
  refine A.r sc_faults dc_faults (fun ds d h => by obtain ⟨_, rfl, _⟩ := h; rfl) fun X B H ds d C hR => ?_
  obtain ⟨v, rfl, hv, rfl⟩ := hR
  show Go X _ _ [.d (webD v)] _
  exact go_cons (gs_ret (Do.of (ev_call C 0 F1 (ea_cons (ev_call C 1 F2 (ea_cons (ev_nm C 0 rfl) ea_nil) ⟨v, rfl, hv, rfl⟩) ea_nil) ⟨v, rfl, hv, rfl⟩) rfl))
end
end Kn
/-! K19: try with several clauses that name the exception. -/
namespace Kn
open PySem PySem.Spec PyProof.Rows L2
/-- behind a suite the name is gone -/
def gone (i : Nat) (D : Ends) : Ends := { nx := fun σ' H' => D.nx (σ'.set i none) H', rt := D.rt, bk := fun σ' H' => D.bk (σ'.set i none) H', ct := fun σ' H' => D.ct (σ'.set i none) H' }
def wAsN (K : PySem.W.Frag) (i : Nat) (D : Ends) : List (Value × (Addr → Value → Option Addr → TS)) → WX
  | [] => fun _ _ _ _ => False
  | (c, ts) :: r => fun cls d σ H => ∃ b, PySem.W.exmOne K cls c = some b ∧ (b = true → ∀ a, H a = none → ts a cls d (gone i D) (σ.set i (some (.ref a))) H) ∧ (b = false → wAsN K i D r cls d σ H)
inductive HdsN (X : Cx) (n : Str) : List ExceptHandler → List (Value × (Addr → Value → Option Addr → TS)) → Prop
  | nil : HdsN X n [] []
  | cons {x : Str} {c : Value} {ts : Addr → Value → Option Addr → TS} {s0 : Stmt} {more : List Stmt} {np hp : Pos} {hds : List ExceptHandler} {l : List (Value × (Addr → Value → Option Addr → TS))} (names : Names X x c)
      (suite : ∀ (a : Addr) (oe : Obj) (cls : Value) (d : Option Addr) (pn : List (Addr × Obj)), Zc cls d oe → (∃ vs, oe.data = .fields vs) → PSs (X.suite a ((a, oe) :: pn)) (s0 :: more) (ts a cls d)) (r : HdsN X n hds l) : HdsN X n (.ExceptHandler (some (.Name x np)) (some n) (s0 :: more) hp :: hds) ((c, ts) :: l)
section
variable {X : Cx} {n : Str} {i : Nat} {body : List Stmt} {h0 : ExceptHandler} {hds : List ExceptHandler} {l : List (Value × (Addr → Value → Option Addr → TS))} {pos : Pos} {tb : WX → TS}
theorem ps_try_asN (hs : X.stack = X.env :: X.outer) (hf : X.env.frame = some X.env.locals) (nd : X.N.Nodup) (hi : X.N[i]? = some n) (hln : X.env.kindOf n = some .local)
    (hb : ∀ (W : WX) (pn : List (Addr × Obj)) (xe : Value → Shared → Prop), Takes (X.tr pn xe) W → PassesOwn (model X.prog X.w) X.A X.env xe → PSs (X.tr pn xe) body (tb W)) (hh : HdsN X n (h0 :: hds) l) : PS X (.Try body (h0 :: hds) [] [] pos) (fun D σ H => tb (wAsN X.K i D l) D σ H) := by
  refine ⟨fun pins s σ H D I h => ?_⟩
  have ok := I.ok; have hfr : X.A.frames = some (X.env :: X.outer) := by rw [ok.frames, hs]
  have hlc9 : Loc X.env.scope n := .inl hln
  refine wpAny_Try_except ?_
  refine wpAny_mono ((hb (wAsN X.K i D l) (X.pn ++ pins) (fun e u1 => wpAny (model X.prog X.w) X.A (noteFrame e X.env) (fun _ u2 => wpAny (model X.prog X.w) X.A (setFlight e none) (fun _ u3 => wpAny (model X.prog X.w) X.A (handleBy e X.env (h0 :: hds)) (SP X pins D) X.xe u3) X.xe u2) X.xe u1) (fun u s' caught => ?_) PassesOwn.looking).run [] s σ H D (I.toTry _) h) (fun fl s1 done => ?_) (fun e s1 he => he)
  · obtain ⟨a, G, sI, pins', σ', H', cls, d, rfl, J', nb, up, sky, na, os, ag, wish⟩ := caught
    have J : Inv X pins σ' H' sI := J'.ofTry ok; have sky' : Sky G (X.env :: X.outer) a (Zc cls d) X.env.locals s'.heap := by rw [← hs]; exact sky
    show wpAny (model X.prog X.w) X.A (noteFrame (.ref a) X.env) _ _ _; refine Sky.land Zc.steady hfr hf sky' fun h3 fl3 up3 => ?_
    have J3 : Inv X pins σ' H' { s' with heap := h3 } := J.landed nb fl3.1 (up.trans up3) os ag; obtain ⟨oe3, vs3, he3, hz3, hd3⟩ := fl3.there
    have apart : ∀ {h : Heap} {o : Obj} {vs : Array Value}, h.FunFrames G (X.env :: X.outer) → h.get? a = some o → o.data = .fields vs → a ∉ frs (X.env :: X.outer) := fun {h o vs} ff e dd hm => by
      obtain ⟨_, o', e', hnf⟩ := ff.mem hm; rw [e] at e'; cases e'; exact hnf _ dd
    have nfr := apart fl3.2.2.1 he3 hd3
    have nLoc : a ≠ X.env.locals := fun z => nfr (List.mem_filterMap.mpr ⟨X.env, List.mem_cons_self, by rw [hf, z]⟩)
    have nF : a ∉ X.fs := fun hm => by obtain ⟨e, he, q⟩ := List.mem_filterMap.mp hm; exact nfr (List.mem_filterMap.mpr ⟨e, List.mem_cons_of_mem _ he, q⟩)
    have su3 := J3.suite he3 hd3 na nLoc nF
    have go : ∀ {hds' : List ExceptHandler} {l' : List (Value × (Addr → Value → Option Addr → TS))}, HdsN X n hds' l' → wAsN X.K i D l' cls d σ' H' → wpAny (model X.prog X.w) X.A (handleBy (.ref a) X.env hds') (SP X pins D) X.xe { s' with heap := h3 } := by
      intro hds' l' hk
      induction hk with
      | nil => intro no; exact no.elim
      | @cons x c ts s0 more np hp hds2 l2 hc suite r ih =>
        intro yes
        obtain ⟨b, hb1, hyes, hno⟩ := yes
        refine wpAny_handleBy_cons (codeAny_handlers_test ?_) (by intro q; cases q)
        have look1 : PySem.W.Looks (model X.prog X.w) h3 (typeOf (.ref a)) cls := fun A Q E s k q => wpAny_typeOf_ref (k _ _ he3) (by rw [hz3.1]; exact q)
        have look2 := PySem.W.exm_one (M := model X.prog X.w) (J3.kIn) look1 hb1
        have name : ∀ {Q : Value → Shared → Prop} {E : Value → Shared → Prop}, Q c { s' with heap := h3 } → wpAny (model X.prog X.w) (X.A.mark (some (.ref a))) (eval (.Name x np) X.env) Q E { s' with heap := h3 } := fun {Q E} q => by
          obtain ⟨hg, hdb9, hm | ⟨hm, hv, hn9⟩⟩ := hc
          · exact ld_glob (X := X.suite a ((a, oe3) :: (X.pn ++ pins))) su3 hg hm q hdb9
          · exact ld_blt (X := X.suite a ((a, oe3) :: (X.pn ++ pins))) su3 hg hm hv q hn9 hdb9
        refine name (look2.here ?_)
        cases b with
        | true =>
          refine codeAny_handlers_suite_as ?_; refine HandSPX.lands_againZ fl3 fun h4 fl4 up4 => ?_
          have J4 : Inv X pins σ' H' { s' with heap := h4 } := J.landed nb fl4.1 ((up.trans up3).trans up4) os ag; obtain ⟨oe4, vs4, he4, hz4, hd4⟩ := fl4.there
          have su4 := J4.suite he4 hd4 na nLoc nF
          refine store_ok (X := X.suite a ((a, oe4) :: (X.pn ++ pins))) (v := .ref a) su4 nd hi hlc9 rfl (fun s5 S5 => ?_) (.inr hln)
          refine wpAny_mono ((suite a oe4 cls d (X.pn ++ pins) hz4 ⟨_, hd4⟩).run [] s5 _ H' _ S5 (hyes rfl a na)) (fun fl s6 done => ?_) (fun _ _ z => False.elim z)
          have leave : ∀ {σ6 : L2.St} {H6 : Hp} {Q : Shared → Prop}, Inv (X.suite a ((a, oe4) :: (X.pn ++ pins))) [] σ6 H6 s6 → (∀ s7, Inv X pins (σ6.set i none) H6 s7 → Q s7) → wpAny (model X.prog X.w) X.A (do bindName X.env n .none; unbindBehindTheSuite X.env n hp) (fun _ s7 => Q s7) X.xe s6 := fun {σ6 H6 Q} S6 hq => gone_ok (S6.unsuite ok) nd hi hln hq
          cases fl with
          | next => obtain ⟨σ6, H6, S6, q6⟩ := done; exact leave S6 fun s7 J7 => ⟨_, _, J7, q6⟩
          | brk => obtain ⟨σ6, H6, S6, q6⟩ := done; exact leave S6 fun s7 J7 => ⟨_, _, J7, q6⟩
          | cont => obtain ⟨σ6, H6, S6, q6⟩ := done; exact leave S6 fun s7 J7 => ⟨_, _, J7, q6⟩
          | ret u => obtain ⟨v6, σ6, H6, S6, r6, q6⟩ := done; exact leave S6 fun s7 J7 => ⟨_, _, _, J7, r6, q6⟩
        | false => show wpAny _ X.A (handleBy (.ref a) X.env hds2) _ _ _; exact ih (hno rfl)
    exact go hh wish
  · cases fl with
    | next => obtain ⟨σ', H', J', q⟩ := done; exact wpAny_execs_nil ⟨σ', H', J'.ofTry ok, q⟩
    | brk => obtain ⟨σ', H', J', q⟩ := done; exact ⟨σ', H', J'.ofTry ok, q⟩
    | cont => obtain ⟨σ', H', J', q⟩ := done; exact ⟨σ', H', J'.ofTry ok, q⟩
    | ret u => obtain ⟨v, σ', H', J', r, q⟩ := done; exact ⟨v, σ', H', J'.ofTry ok, r, q⟩
end
end Kn
/-! K20: defs that raise. -/
namespace Kn
open PySem PySem.Spec PyProof.Rows L2
def spX (K : PySem.W.Frag) (pre : List D → Prop) (post : List D → D → Prop) (err : List D → Addr → Str → D → Prop) : Sp := fun vs H Q E0 => ∃ B ds, Ex B H ∧ DnL K B vs ds ∧ pre ds ∧ (∀ v B' H' d, post ds d → Pg B H B' H' → Dn K B' v d → Q v H') ∧
  ∀ C dd B' H' f v y, err ds C f y → Pg B H B' H' → H' dd = some (.xd [(f, v)]) → Dn K B' v y → E0 (.ref C) (some dd) H'
structure FnX (P : Program) (w : World) (K : PySem.W.Frag) (mg : Str → Option Value) (base : Heap) (x : Str) (j : Nat) (sp : Sp) : Prop where
  ex : ∃ (f : Addr) (fd : FuncData) (ps : List Str), mg x = some (.ref f) ∧ PySem.W.keepIn K (.ref f) = true ∧ Binds K fd ps [] ∧ FnOk P w K mg base (L2.CX P w) j f fd ps sp
/-- an exception's __init__ -/
def spE (C0 : Addr) (f : Str) : Sp := fun vs H Q _ => ∃ a v, vs = [.ref a, v] ∧ H a = some (exo a C0 none) ∧ ∀ dx, H dx = none → dx ≠ a → Q .non (upd (upd H dx (exd dx [(f, v)])) a (exo a C0 (some dx)))
/-- an own error's class -/
structure ErC (K : PySem.W.Frag) (mg : Str → Option Value) (x f : Str) (C0 : Addr) (qual : Str) (st : Stmt) : Prop where
  g : mg x = some (.ref C0)
  t : OexC K C0
  no : PySem.W.findIn K (.ref C0) f = some none
  ex : ∃ (fI : Addr) (fd : FuncData), PySem.W.findIn K (.ref C0) "__init__" = some (some (.ref fI)) ∧ PySem.W.typeIn K (.ref fI) = some (.type "function") ∧ Fun K "__init__" qual st fI fd ∧ Binds K fd ["self", f] []
section
variable {P : Program} {w : World} {K : PySem.W.Frag} {mg : Str → Option Value} {base : Heap} {N G ps : List Str} {vb wb : List Bool} {qual : Str} {st : Stmt} {k : Nat} {C0 f0 : Addr} {x f : Str}
theorem cz_ofX {f1 : Addr} (S : FnScope N ps (defScope st)) (dc : DfC N (defScope st) vb wb G) {cdv : Value} {A : Around} {outer : List Env} {s : Shared} {H : Hp} {E0 : XK} {W : List Addr} {B H2 : Hp} (hr : Room k (A.deeper (envOfC qual (defScope st) s.heap.objs.size f1 cdv))) :
    Cz ⟨P, w, K, mg, base, W, B, H2⟩ N vb wb G (defScope st) k (cxOf (L2.CX P w) P w K mg base N qual (defScope st) f1 cdv A outer s H E0) :=
  ⟨rfl, rfl, rfl, rfl, rfl, rfl, rfl, S.nd, rfl, passes_of rfl, hr, dc.vis, fun i x h1 h2 => ⟨dc.loc i x h1 h2, .inl rfl⟩, dc.gl⟩
theorem At.raises {pre : List D → Prop} {post : List D → D → Prop} {err : List D → Addr → Str → D → Prop} (A : At K mg x st ps) (S : FnScope N ps (defScope st)) (dc : DfC N (defScope st) vb wb G) (len : ∀ ds, pre ds → ds.length = ps.length)
    (body : ∀ X B H ds (E0 : XK), Cz ⟨P, w, K, mg, base, [], B, H⟩ N vb wb G (defScope st) k X → Takes X (fun cls d _ H => E0 cls d H) → pre ds → (∀ C dd B' H' f v y, err ds C f y → Pg B H B' H' → H' dd = some (.xd [(f, v)]) → Dn K B' v y → E0 (.ref C) (some dd) H') →
      Go X ⟨P, w, K, mg, base, [], B, H⟩ (defBody st) (startD N ds) { nx := fun _ => post ds .non, rt := fun d _ => post ds d }) : FnX P w K mg base x (k + 1) (spX K pre post err) := by
  obtain ⟨f1, fd, F, g, b⟩ := A.ex
  refine ⟨f1, fd, ps, g, F.kp, b, F.okX S (fun vs H Q E h => ?_) fun cdv A2 outer s H vs Q E0 hr h => ?_⟩
  · obtain ⟨B, ds, _, r, hR, _⟩ := h
    rw [r.length]; exact len ds hR
  · obtain ⟨B, ds, hs, r, hR, q, qe⟩ := h
    exact ⟨_, pss_W _, body _ B H ds E0 (cz_ofX S dc hr) (takes_of rfl rfl rfl rfl) hR qe _ B H (startD_sees hs r) _ ⟨fun σ' B' H' Δ' x S' h => q .non B' H' .non h ⟨S'.rn, S'.sub⟩ .non, fun _ _ _ _ _ _ h => h.elim, fun _ _ _ _ _ _ h => h.elim, fun v σ' B' H' d' Δ' x S' rv h => q v B' H' d' h ⟨S'.rn, S'.sub⟩ rv, fun l σ' B' H' o' Δ' x S' hE hB r h => h.elim⟩⟩
theorem ok_einit {f1 : Addr} {fd : FuncData} (F : Fun K "__init__" qual st f1 fd) (S : FnScope ["self", f] ["self", f] (defScope st)) (dc : DfC ["self", f] (defScope st) vb wb G) (T : OexC K C0) (no : PySem.W.findIn K (.ref C0) f = some none) {p1 p2 p3 p4 : Pos} (hst : defBody st = [.Assign [.Attribute (.Name "self" p1) f p2] (.Name f p3) p4]) (hv0 : vb[0]? = some true) (hv1 : vb[1]? = some true) :
    FnOk P w K mg base CX0 1 f1 fd ["self", f] (spE C0 f) := by
  refine F.ok S (fun vs H Q E h => by obtain ⟨_, _, rfl, _⟩ := h; rfl) fun cdv A outer s H vs Q E0 hr h => ?_
  obtain ⟨a, v, rfl, ha, q⟩ := h
  have C := cz_of (P := P) (w := w) (K := K) (mg := mg) (base := base) (W := []) (B := H) (H2 := H) (qual := qual) (f := f1) (cdv := cdv) (A := A) (outer := outer) (s := s) (H := H) (E0 := E0) S dc hr
  obtain ⟨v1, v2, v3⟩ := C.vis 0 "self" hv0 rfl
  obtain ⟨u1, u2, u3⟩ := C.vis 1 f hv1 rfl
  refine ⟨_, by rw [hst]; exact pss_cons (ps_ost (pe_var (i := 0) rfl v1 v2 v3) (pe_var (i := 1) rfl u1 u2 u3)) pss_nil, ?_⟩
  exact ⟨v, rfl, .ref a, rfl, a, C0, rfl, T, no, .inl ⟨ha, fun dx n1 n2 => q dx n1 n2⟩⟩
end
section
variable {X : Cx} {E : En} {N G : List Str} {vb wb : List Bool} {sc : Scope} {k : Nat} {Δ Δ' : List Slot} {d d1 d2 d3 : D} {a b c e o : Expr} {pos p apos cpos : Pos} {j : Nat} {es : List Expr} {ds : List D} {C0 : Addr} {m f x : Str}
/-- raise C(e) -/
theorem gs_raise {P : Ps} {Pe : D → Prop} {E0 : XK} {fI : Addr} {fd : FuncData} (C : Cz E N vb wb G sc k X) (i : Nat) (T : OexC E.K C0) (iC : PySem.W.findIn E.K (.ref C0) "__init__" = some (some (.ref fI))) (tI : PySem.W.typeIn E.K (.ref fI) = some (.type "function")) (F1 : FnOk E.P E.w E.K E.mg E.base CX0 j fI fd ["self", f] (spE C0 f)) (bi : Binds E.K fd ["self", f] []) (hm : E.mg x = some (.ref C0)) (hW : E.W = [])
    (tk : Takes X (fun cls d _ H => E0 cls d H)) (he : Do X E e Δ Pe) (hq : ∀ B' H' dd v y, Pg E.B E.H B' H' → H' dd = some (.xd [(f, v)]) → Dn E.K B' v y → Pe y → E0 (.ref C0) (some dd) H') (hj : j + 1 ≤ k := by decide) (hG : G[i]? = some x := by rfl)
    (hs : starEach [e] X.env = (false, eval e X.env) :: starEach [] X.env := by rfl) : GoS X E (.Raise (some (.Call (.Name x p) [e] [] cpos)) none pos) Δ P := fun σ B H S D0 M => by
  obtain ⟨h1, h2⟩ := C.gl i x hG
  rw [← C.hK] at T iC tI bi
  rw [← C.hP, ← C.hw, ← C.hK, ← C.hm, ← C.hb] at F1
  refine WS.of (ps_raise C.calm tk (pmk_oex T iC tI F1 (C.room.mono hj) bi .nil pass0 h1 (by rw [C.hm]; exact hm) (pa_cons (pe_W e) pa_nil hs) h2 hs rfl)) (he σ B H S _ fun v B1 H1 y x1 S1 r1 hP => ⟨by show 1 ≤ 1000; decide, fun a na => ?_⟩)
  refine ⟨a, v, rfl, upd_same, fun dx nd ne => ⟨rfl, dx, [(f, v)], upd_same, ?_, ?_, hq B1 _ dx v y ⟨⟨S1.rn.eb, fun b u nb hb => ?_, fun b hb => ?_, S1.rn.fr⟩, fun b u hb => ?_⟩ upd_same r1 hP⟩⟩
  · rw [upd_ne ne]; exact upd_same
  · rw [upd_ne ne] at nd; exact nd
  · have hb1 : H1 b = some u := S1.rn.eh b u (by rw [hW]; exact nb) hb
    have e1 : b ≠ a := by rintro rfl; rw [na] at hb1; cases hb1
    have e2 : b ≠ dx := by rintro rfl; rw [upd_ne e1, hb1] at nd; cases nd
    rw [upd_ne e2, del_ne e1, upd_ne e1, upd_ne e2, upd_ne e1]; exact hb1
  · have hb1 := S1.rn.th b hb
    cases hu : H1 b with
    | none => exact absurd hu hb1
    | some u =>
      have e1 : b ≠ a := by rintro rfl; rw [na] at hu; cases hu
      have e2 : b ≠ dx := by rintro rfl; rw [upd_ne e1, hu] at nd; cases nd
      rw [upd_ne e2, del_ne e1, upd_ne e1, upd_ne e2, upd_ne e1, hu]; simp
  · have hb1 := S1.sub b u hb
    have e1 : b ≠ a := by rintro rfl; rw [na] at hb1; cases hb1
    have e2 : b ≠ dx := by rintro rfl; rw [upd_ne e1, hb1] at nd; cases nd
    rw [upd_ne e2, del_ne e1, upd_ne e1, upd_ne e2, upd_ne e1]; exact hb1
/-- a call that may raise -/
theorem do_callX (C : Cz E N vb wb G sc k X) (i : Nat) {pre : List D → Prop} {post : List D → D → Prop} {err : List D → Addr → Str → D → Prop} {P : D → Prop} {W : WX} (F : FnX E.P E.w E.K E.mg E.base x j (spX E.K pre post err)) (tk : Takes X W)
    (ha : DoA X E (a :: es) Δ fun ds => pre ds ∧ (∀ d, post ds d → P d) ∧ ∀ C f y, err ds C f y → ∀ σ B' H' dd v, Sees E Δ σ B' H' → H' dd = some (.xd [(f, v)]) → Dn E.K B' v y → W (.ref C) (some dd) σ H') (hj : j ≤ k := by decide) (hG : G[i]? = some x := by rfl)
    (he : starEach (a :: es) X.env = (false, eval a X.env) :: starEach es X.env := by rfl) (hpl : (backTo pos (starEach es X.env)).any (·.1) = false := by rfl) : Do X E (.Call (.Name x p) (a :: es) [] pos) Δ P := fun σ B H S Q q => by
  obtain ⟨h1, h2⟩ := C.gl i x hG
  obtain ⟨f, fd, ps, g1, g2, g3, g4⟩ := F.ex
  rw [← C.hK] at g2 g3
  rw [← C.hP, ← C.hw, ← C.hK, ← C.hm, ← C.hb] at g4
  refine WE.of (pe_callS g4 (C.room.mono hj) h1 (by rw [C.hm]; exact g1) g2 g3 (fun σ => passAt tk σ) (pa_W _) h2 he hpl) (ha σ B H S _ fun vs B1 H1 ds x1 S1 r1 ⟨hpre, hpost, herr⟩ => ?_)
  rw [C.hK]
  exact ⟨B1, ds, S1.sub, r1, hpre, fun v B2 H2 d hd p2 r2 => q v B2 H2 d (x1.trans (.of p2)) (S1.step p2) r2 (hpost d hd), fun C1 dd B2 H2 f1 v y hy p2 hdd ry => herr C1 f1 y hy σ B2 H2 dd v (S1.step p2) hdd ry⟩
/-- an expression as a statement -/
theorem gs_expr {P : Ps} {e : Expr} (he : Do X E e Δ fun _ => P.nx Δ) (hs : swapsWith e none pos.line X.env = pure false := by rfl) : GoS X E (.Expr e pos) Δ P := fun σ B H S D0 M => WS.of (ps_expr (pe_W e) hs) (he σ B H S _ fun v B' H' d x S' r h => M.nx σ B' H' Δ x.eb S' h)
end
end Kn
/-! P18: tangled. -/
namespace Kn
open PySem PySem.Spec PyProof.Rows L2
/-- the error classes -/
structure Ers (K : PySem.W.Frag) (mg : Str → Option Value) (Cw Ct Cn : Addr) : Prop where
  w : ErC K mg "InvalidWeb" "value" Cw "InvalidWeb.__init__" s_E_InvalidWeb
  t : ErC K mg "NoText" "name" Ct "NoText.__init__" s_E_NoText
  n : ErC K mg "NotWhole" "fault" Cn "NotWhole.__init__" s_E_NotWhole
theorem fltLs_use {hs : List (Str × Hd)} {i : Nat} {l : Ln} : ∀ {k : Nat} {ls : List Ln}, l ∈ ls → fltLs hs i k ls = [] → ∃ k', fltLine hs i k' l = []
  | k, m :: r, h, e => by
    rw [fltLs] at e
    obtain ⟨e1, e2⟩ := List.append_eq_nil_iff.mp e
    rcases List.mem_cons.mp h with q | q
    · subst q; exact ⟨k, e1⟩
    · exact fltLs_use q e2
theorem fltSs_use {hs : List (Str × Hd)} {s : Se} {l : Ln} : ∀ {i : Nat} {ss : List Se}, s ∈ ss → l ∈ s.code → fltSs hs i ss = [] → ∃ i' k', fltLine hs i' k' l = []
  | i, t :: r, h, hl, e => by
    rw [fltSs] at e
    obtain ⟨e1, e2⟩ := List.append_eq_nil_iff.mp e
    rcases List.mem_cons.mp h with q | q
    · subst q; obtain ⟨k', q⟩ := fltLs_use hl e1; exact ⟨i, k', q⟩
    · exact fltSs_use q hl e2
theorem whole_use {v : List Se} (h : flts v = []) {s : Se} (hs : s ∈ v) {n : Nat} {x : Str} {as : List Str} (hl : Ln.use n x as ∈ s.code) : ∃ g, hfind (heads v) x = some g ∧ as.length = g.params.length ∧ g.file = false := by
  unfold flts at h
  obtain ⟨h1, h2⟩ := List.append_eq_nil_iff.mp h
  obtain ⟨i, k, q⟩ := fltSs_use hs hl h1
  have q : fltUse (heads v) i k x as = [] := q
  unfold fltUse at q
  cases hf : hfind (heads v) x with
  | none => rw [hf] at q; cases q
  | some g =>
    rw [hf] at q
    obtain ⟨q1, q2⟩ := List.append_eq_nil_iff.mp q
    refine ⟨g, rfl, ?_, ?_⟩
    · refine Classical.byContradiction fun z => ?_
      rw [if_pos z] at q1
      cases q1
    · cases hg : g.file with
      | false => rfl
      | true => rw [if_pos hg] at q2; cases q2
theorem whole_of {v : List Se} (ok : WebOk v) (h : flts v = []) : Whole v := ⟨ok, fun s hs n x as hl => by obtain ⟨g, h1, h2, _⟩ := whole_use h hs hl; exact ⟨g, h1, h2⟩⟩
theorem files_mem {v : List Se} (ok : WebOk v) {x : Str} (h : x ∈ files v) : ∃ g, hfind (heads v) x = some g ∧ g.name = x ∧ g.file = true ∧ g.params = [] ∧ x ≠ "" := by
  unfold files at h
  obtain ⟨p, hp, e⟩ := List.mem_map.mp h
  obtain ⟨h1, h2⟩ := List.mem_filter.mp hp
  obtain ⟨t, ht, e1, e2⟩ := heads_mem h1
  have hok := (ok.se t ht).head _ e1
  refine ⟨p.2, by rw [← e, e2]; exact hfind_head ok ht e1, e2.symm.trans e, h2, hok.file h2, ?_⟩
  rintro rfl
  have := hok.name.pos
  rw [← e2, e] at this
  cases this
/-- a text's signs -/
def Lays (v : List Se) (x : Str) (c : List Nat) : Prop := lay v 13 x [] [] = some c ∧ c.length ≤ 3000
section
variable {P : Program} {w : World} {K : PySem.W.Frag} {mg : Str → Option Value} {base : Heap} {C0 Cw Ct Cn : Addr}
theorem ok_needX (T : Tx mg) (R : Ers K mg Cw Ct Cn) (A : At K mg "need_web" s_need_web P_need_web) (F1 : FnD P w K mg base "is_web" 6 (spR K R_is_web)) (x : Vl) : FnX P w K mg base "need_web" 7 (spX K (fun ds => ds = [x.d] ∧ x.Ok) (fun _ d => d = x.d ∧ x.good = true) fun _ C f y => C = Cw ∧ f = "value" ∧ y = x.d ∧ x.good = false) := by
  refine A.raises sc_need_web dc_need_web (fun ds h => by obtain ⟨rfl, _⟩ := h; rfl) fun X B H ds E0 C tk hR hq => ?_
  obtain ⟨rfl, hx⟩ := hR
  obtain ⟨fI, fd, i1, i2, F, i3⟩ := R.w.ex
  have FI := ok_einit (P := P) (w := w) (mg := mg) (base := base) F sc_E_InvalidWeb dc_E_InvalidWeb R.w.t R.w.no rfl rfl rfl
  show Go X _ _ [.d x.d] _
  refine go_cons (gs_ifE (et_not (et_val (ev_call C 0 F1 (ea_cons (ev_nm C 0 rfl) ea_nil) ⟨x, rfl, hx, rfl⟩))) (fun h => ?_) (fun h => go_nil ?_))
  · exact go_cons (gs_raise (Pe := fun d => d = x.d) C 1 R.w.t i1 i2 FI i3 R.w.g rfl tk (Do.of (ev_nm C 0 rfl) rfl) fun B' H' dd v y pg hdd ry hy => hq Cw dd B' H' "value" v y ⟨rfl, rfl, hy, by simpa using h⟩ pg hdd ry)
  · exact go_cons (gs_ret (Do.of (ev_nm C 0 rfl) ⟨rfl, by simpa using h⟩))
theorem ok_need_whole (T : Tx mg) (R : Ers K mg Cw Ct Cn) (A : At K mg "need_whole" s_need_whole P_need_whole) (F1 : FnD P w K mg base "faults" 8 (spR K R_faults)) (v : List Se) (hv : WebOk v) : FnX P w K mg base "need_whole" 9 (spX K (fun ds => ds = [webD v]) (fun _ d => flts v = []) fun _ C f y => C = Cn ∧ f = "fault" ∧ ∃ fl r, flts v = fl :: r ∧ y = fl.d) := by
  refine A.raises sc_need_whole dc_need_whole (fun ds h => by subst h; rfl) fun X B H ds E0 C tk hR hq => ?_
  subst hR
  obtain ⟨fI, fd, i1, i2, F, i3⟩ := R.n.ex
  have FI := ok_einit (P := P) (w := w) (mg := mg) (base := base) F sc_E_NotWhole dc_E_NotWhole R.n.t R.n.no rfl rfl rfl
  show Go X _ _ [.d (webD v), .un] _
  refine go_cons (gs_set C 1 (Do.of (ev_call C 0 F1 (ea_cons (ev_nm C 0 rfl) ea_nil) ⟨v, rfl, hv, rfl⟩) ?_))
  refine go_cons (gs_ifE (et_cmp co_gt (ev_len C 1 (ev_nm C 1 rfl).r (.tup _) T.len).r ev_int.r) (fun h => ?_) (fun h => go_nil ?_))
  · cases hf : flts v with
    | nil => rw [hf] at h; cases h
    | cons fl r =>
      exact go_cons (gs_raise (Pe := fun d => d = fl.d) C 2 R.n.t i1 i2 FI i3 R.n.g rfl tk (Do.of (ev_ix (d := fl.d) C (ev_nm C 1 rfl).r ev_int rfl (by exact atI_nat rfl)) rfl) fun B' H' dd v' y pg hdd ry hy => hq Cn dd B' H' "fault" v' y ⟨rfl, rfl, fl, r, hf, hy⟩ pg hdd ry)
  · cases hf : flts v with
    | nil => exact go_cons (gs_ret (Do.of (ev_nm C 0 rfl) rfl))
    | cons fl r =>
      exfalso
      rw [hf, List.length_map, List.length_cons] at h
      have := of_decide_eq_false h
      omega
def errT (x : Vl) (n : Str) (Cw Ct Cn : Addr) (C : Addr) (f : Str) (y : D) : Prop := (C = Cw ∧ f = "value" ∧ y = x.d ∧ x.good = false) ∨ ∃ v, x = .web v ∧ ((C = Cn ∧ f = "fault" ∧ ∃ fl r, flts v = fl :: r ∧ y = fl.d) ∨ (C = Ct ∧ f = "name" ∧ y = .str n ∧ flts v = [] ∧ n ∉ files v))
theorem good_web {x : Vl} (h : x.good = true) : ∃ v, x = .web v := by cases x <;> first | exact ⟨_, rfl⟩ | cases h
theorem ok_need_file (T : Tx mg) (R : Ers K mg Cw Ct Cn) (A : At K mg "need_file" s_need_file P_need_file) (A1 : At K mg "need_web" s_need_web P_need_web) (A2 : At K mg "need_whole" s_need_whole P_need_whole) (F1 : FnD P w K mg base "is_web" 6 (spR K R_is_web)) (F2 : FnD P w K mg base "faults" 8 (spR K R_faults)) (F3 : FnD P w K mg base "file_names" 8 (spR K R_file_names)) (x : Vl) (n : Str) :
    FnX P w K mg base "need_file" 10 (spX K (fun ds => ds = [x.d, .str n] ∧ x.Ok) (fun _ _ => ∃ v, x = .web v ∧ flts v = [] ∧ n ∈ files v) fun _ => errT x n Cw Ct Cn) := by
  refine A.raises sc_need_file dc_need_file (fun ds h => by obtain ⟨rfl, _⟩ := h; rfl) fun X B H ds E0 C tk hR hq => ?_
  obtain ⟨rfl, hx⟩ := hR
  obtain ⟨fI, fd, i1, i2, F, i3⟩ := R.t.ex
  have FI := ok_einit (P := P) (w := w) (mg := mg) (base := base) F sc_E_NoText dc_E_NoText R.t.t R.t.no rfl rfl rfl
  show Go X _ _ [.d x.d, .d (.str n)] _
  refine go_cons (gs_expr (do_callX C 0 (ok_needX (P := P) (w := w) (base := base) T R A1 F1 x) tk (DoA.of (ea_cons (ev_nm C 0 rfl) ea_nil) ⟨⟨rfl, hx⟩, fun d hd => ?_, fun C1 f y he σ B' H' dd v S' hdd ry => hq C1 dd B' H' f v y (.inl he) ⟨S'.rn, S'.sub⟩ hdd ry⟩)))
  obtain ⟨v, rfl⟩ := good_web hd.2
  refine go_cons (gs_expr (do_callX C 1 (ok_need_whole (P := P) (w := w) (base := base) T R A2 F2 v hx) tk (DoA.of (ea_cons (ev_nm C 0 rfl) ea_nil) ⟨rfl, fun d hd => ?_, fun C1 f y he σ B' H' dd v' S' hdd ry => hq C1 dd B' H' f v' y (.inr ⟨v, rfl, .inl he⟩) ⟨S'.rn, S'.sub⟩ hdd ry⟩)))
  refine go_cons (gs_ifE (ew_or (et_not (et_val (ev_isi C 2 3 (T := "str") (ev_nm C 1 rfl).r rfl T.isinstance T.str rfl))) fun _ => ew_or1 (et_cmp (co_notin C (.inr rfl)) (ev_nm C 1 rfl).r (ev_call C 4 F3 (ea_cons (ev_nm C 0 rfl) ea_nil) ⟨v, rfl, hx, rfl⟩).r)).t (fun h => ?_) (fun h => go_nil (go_nil ?_)))
  · have hn : n ∉ files v := by
      have : (!decide (n ∈ files v)) = true := h
      simpa using this
    exact go_cons (gs_raise (Pe := fun d => d = .str n) C 5 R.t.t i1 i2 FI i3 R.t.g rfl tk (Do.of (ev_nm C 1 rfl) rfl) fun B' H' dd v' y pg hdd ry hy => hq Ct dd B' H' "name" v' y (.inr ⟨v, rfl, .inr ⟨rfl, rfl, hy, hd, hn⟩⟩) pg hdd ry)
  · have hn : n ∈ files v := by
      have : (!decide (n ∈ files v)) = false := h
      simpa using this
    exact ⟨v, rfl, hd, hn⟩
/-- what tangled leans on -/
structure TgT (P : Program) (w : World) (K : PySem.W.Frag) (mg : Str → Option Value) (base : Heap) (C0 Cw Ct Cn : Addr) : Prop where
  st : SpT K mg C0
  si : SpI K mg C0
  er : Ers K mg Cw Ct Cn
  need_web : At K mg "need_web" s_need_web P_need_web
  need_whole : At K mg "need_whole" s_need_whole P_need_whole
  need_file : At K mg "need_file" s_need_file P_need_file
  tangled : At K mg "tangled" s_tangled P_tangled
  joined : At K mg "joined" s_joined P_joined
  lines_of_text : At K mg "lines_of_text" s_lines_of_text P_lines_of_text
  is_web : FnD P w K mg base "is_web" 6 (spR K R_is_web)
  faults : FnD P w K mg base "faults" 8 (spR K R_faults)
  file_names : FnD P w K mg base "file_names" 8 (spR K R_file_names)
  starts : FnD P w K mg base "starts" 3 (spM K pre_web post_starts)
  pieces : FnD P w K mg base "pieces" 1 (spM K pre_web post_pieces)
theorem ok_tangled (A : TgT P w K mg base C0 Cw Ct Cn) (x : Vl) (n : Str) (hc : ∀ v, x = .web v → flts v = [] → n ∈ files v → ∃ c, Lays v n c) :
    FnX P w K mg base "tangled" 11 (spX K (fun ds => ds = [x.d, .str n] ∧ x.Ok) (fun _ d => ∃ v c, x = .web v ∧ flts v = [] ∧ n ∈ files v ∧ Lays v n c ∧ d = .str (Txt.join "" (c.map sgnS))) fun _ => errT x n Cw Ct Cn) := by
  have T := A.st.t
  refine A.tangled.raises sc_tangled dc_tangled (fun ds h => by obtain ⟨rfl, _⟩ := h; rfl) fun X B H ds E0 C tk hR hq => ?_
  obtain ⟨rfl, hx⟩ := hR
  show Go X _ _ [.d x.d, .d (.str n)] _
  refine go_cons (gs_expr (do_callX C 0 (ok_need_file (P := P) (w := w) (base := base) T A.er A.need_file A.need_web A.need_whole A.is_web A.faults A.file_names x n) tk (DoA.of (ea_cons (ev_nm C 0 rfl) (ea_cons (ev_nm C 1 rfl) ea_nil)) ⟨⟨rfl, hx⟩, fun d hd => ?_, fun C1 f y he σ B' H' dd v S' hdd ry => hq C1 dd B' H' f v y he ⟨S'.rn, S'.sub⟩ hdd ry⟩)))
  obtain ⟨v, rfl, hf, hn⟩ := hd
  obtain ⟨c, hl, hcl⟩ := hc v rfl hf hn
  obtain ⟨g, hg, hgn, hgf, hgp, hne⟩ := files_mem hx hn
  subst hgn
  have Fl := ok_lines_of_text (P := P) (w := w) (base := base) A.st A.si A.lines_of_text A.starts A.pieces v (whole_of hx hf) 12 g hg hgp hne c (by omega) hl hcl
  refine go_cons (gs_ret (do_callN C 1 (ok_joined (P := P) (w := w) (base := base) T A.joined c hcl) (da_cons ((do_callN C 2 Fl (DoA.of (ea_cons (ev_nm C 0 rfl) (ea_cons (ev_nm C 1 rfl) ea_nil)) ⟨rfl, fun d hd => hd⟩)).mono fun d hd => ?_))))
  obtain ⟨cs, zs, rfl, h1, h2, h3⟩ := hd
  exact da_nil ⟨⟨cs, zs, rfl, h1, h2⟩, fun d hd => ⟨v, c, rfl, hf, hn, ⟨hl, hcl⟩, hd⟩⟩
end
end Kn
/-! L11: names, heads, code, uses as the law sees them. -/
namespace Kn
open PySem PySem.Spec PyProof.Rows L2
theorem upto_num {α : Type} : ∀ (k : Nat) (xs : List α), upto (k : Int) xs.length = (num k xs).map fun q => D.int (q.1 : Nat)
  | _, [] => rfl
  | k, x :: r => by
    show D.int (k : Int) :: upto ((k : Int) + 1) r.length = D.int (k : Nat) :: (num (k + 1) r).map _
    rw [← upto_num (k + 1) r]
    rfl
theorem num_get {α : Type} {q : Nat × α} : ∀ {k : Nat} {xs : List α}, q ∈ num k xs → ∃ m, q.1 = k + m ∧ xs[m]? = some q.2
  | k, x :: r, h => by
    rcases List.mem_cons.mp h with e | e
    · subst e; exact ⟨0, rfl, rfl⟩
    · obtain ⟨m, h1, h2⟩ := num_get e
      exact ⟨m + 1, by omega, by simpa using h2⟩
theorem num_numb (i : Nat) : ∀ (k : Nat) (ls : List Ln), (num k ls).map (fun q => D.tup [.int (i : Nat), .int (q.1 : Nat), q.2.d]) = (numb i k ls).map lineD
  | _, [] => rfl
  | k, l :: r => by
    show _ :: _ = _ :: _
    rw [num_numb i (k + 1) r]
    rfl
def R_lnames : List D → D → Prop := fun ds d => ∃ v, ds = [webD v] ∧ v.length ≤ 100 ∧ d = .lst ((names v).map D.str)
def R_lhead : List D → D → Prop := fun ds d => ∃ v x, ds = [webD v, .str x] ∧ WebOk v ∧ d = hdD (hfind (heads v) x)
def R_lcode : List D → D → Prop := fun ds d => ∃ v x, ds = [webD v, .str x] ∧ WebOk v ∧ d = .lst ((codeIn v x).map lineD)
def R_lused : List D → D → Prop := fun ds d => ∃ v x, ds = [webD v, .str x] ∧ WebOk v ∧ d = .lst ((usesIn v x).map D.str)
section
variable {P : Program} {w : World} {K : PySem.W.Frag} {mg : Str → Option Value} {base : Heap}
theorem ok_lnames (T : Tx mg) (A : At K mg "_law_names" s_l_names P_l_names) : FnD P w K mg base "_law_names" 1 (spR K R_lnames) := by
  refine A.r sc_l_names dc_l_names (fun ds d h => by obtain ⟨_, rfl, _⟩ := h; rfl) fun X B H ds d C hR => ?_
  obtain ⟨v, rfl, hv, rfl⟩ := hR
  show Go X _ _ [.d (webD v), .un, .un, .un, .un] _
  refine go_cons (gs_new C 1 (DoF.of (ef_lst ea_nil) ?_))
  refine go_cons (gs_for C [2, 3, 4] (di_tup C (Do.of (ev_nm C 0 rfl) ⟨_, rfl, ?_⟩)))
  refine ⟨fun r Δ => ∃ (ss : List Se) (hs : List (Str × Hd)) (a b c : Slot), r = ss.map Se.d ∧ Δ = [.d (webD v), .own (.lst ((hs.map (·.1)).map D.str)), a, b, c] ∧ hs.length + ss.length ≤ 100 ∧ ss.foldl hput hs = heads v, ⟨v, [], _, _, _, rfl, rfl, by simpa using hv, rfl⟩, fun y r Δ2 hJ => ?_, fun Δ2 hJ => ?_⟩
  · obtain ⟨ss, hs, sa, sb, sc, hr, rfl, hl, hq⟩ := hJ
    cases ss with
    | nil => cases hr
    | cons s ss =>
      injection hr with h1 h2
      subst h1 h2
      refine bd_tup C (bs_cons (bd_nm C 2 (bs_cons (bd_nm C 3 (bs_cons (bd_nm C 4 (bs_nil ?_)))))))
      rw [List.length_cons] at hl
      rw [List.foldl_cons] at hq
      have hl2 := hput_len hs s
      unfold hput at hq hl2
      cases hh : s.head with
      | none =>
        rw [hh] at hq
        refine go_cons (gs_ifE (ew_andf (et_cmp co_isnot (ev_nm C 3 rfl).r ev_non.r)).t (fun h => by cases h) (fun _ => ?_))
        exact go_nil (go_nil ⟨ss, hs, _, _, _, rfl, rfl, by omega, hq⟩)
      | some h =>
        rw [hh] at hq
        refine go_cons (gs_ifE (ew_and (et_cmp co_isnot (ev_nm C 3 rfl).r ev_non.r) fun _ => ew_and1 (et_cmp (co_notin C (.inl rfl)) (ev_ix C (ev_nm C 3 rfl).r ev_int rfl rfl).r (er_own C 1 rfl rfl))).t (fun hb => ?_) (fun hb => ?_))
        · have hn : h.name ∉ hs.map (·.1) := by
            have : (!decide (h.name ∈ hs.map (·.1))) = true := hb
            intro z
            rw [decide_eq_true z] at this
            cases this
          simp only [if_neg hn] at hq
          refine go_cons (gs_append C 1 rfl (Do.of (ev_ix C (ev_nm C 3 rfl).r ev_int rfl rfl) ⟨by rw [List.length_map, List.length_map]; omega, go_nil (go_nil ?_)⟩))
          refine ⟨ss, hs ++ [(h.name, h)], .d (.tup (s.prose.map D.str)), .d h.d, .d (.tup (s.code.map Ln.d)), rfl, ?_, by rw [List.length_append]; show hs.length + 1 + _ ≤ _; omega, hq⟩
          rw [List.map_append, List.map_append]
          rfl
        · have hn : h.name ∈ hs.map (·.1) := by
            have : (!decide (h.name ∈ hs.map (·.1))) = false := hb
            refine Classical.byContradiction fun z => ?_
            rw [decide_eq_false z] at this
            cases this
          simp only [if_pos hn] at hq
          exact go_nil (go_nil ⟨ss, hs, _, _, _, rfl, rfl, by omega, hq⟩)
  · obtain ⟨ss, hs, sa, sb, sc, hr, rfl, hl, hq⟩ := hJ
    cases ss with
    | cons s ss => cases hr
    | nil =>
      refine go_cons (gs_kn 1 rfl rfl (gs_ret (Do.of (ev_nm C 1 rfl) ?_)))
      show D.lst _ = D.lst _
      unfold names
      rw [← hq]
      rfl
theorem ok_lhead (T : Tx mg) (A : At K mg "_law_head" s_l_head P_l_head) : FnD P w K mg base "_law_head" 1 (spR K R_lhead) := by
  refine A.r sc_l_head dc_l_head (fun ds d h => by obtain ⟨_, _, rfl, _⟩ := h; rfl) fun X B H ds d C hR => ?_
  obtain ⟨v, x, rfl, hv, rfl⟩ := hR
  show Go X _ _ [.d (webD v), .d (.str x), .un, .un, .un] _
  refine go_cons (gs_for C [2, 3, 4] (di_tup C (Do.of (ev_nm C 0 rfl) ⟨_, rfl, ?_⟩)))
  refine ⟨fun r Δ => ∃ (ss : List Se) (a b c : Slot), r = ss.map Se.d ∧ Δ = [.d (webD v), .d (.str x), a, b, c] ∧ (∀ s ∈ ss, s ∈ v) ∧ (∀ s ∈ v, s ∈ ss ∨ ∀ h, s.head = some h → h.name ≠ x), ⟨v, _, _, _, rfl, rfl, fun s hs => hs, fun s hs => .inl hs⟩, fun y r Δ2 hJ => ?_, fun Δ2 hJ => ?_⟩
  · obtain ⟨ss, sa, sb, sc, hr, rfl, hin, hq⟩ := hJ
    cases ss with
    | nil => cases hr
    | cons s ss =>
      injection hr with h1 h2
      subst h1 h2
      refine bd_tup C (bs_cons (bd_nm C 2 (bs_cons (bd_nm C 3 (bs_cons (bd_nm C 4 (bs_nil ?_)))))))
      have next : (∀ h, s.head = some h → h.name ≠ x) → ∃ (ss2 : List Se) (a b c : Slot), ss.map Se.d = ss2.map Se.d ∧ ([.d (webD v), .d (.str x), .d (.tup (s.prose.map D.str)), .d (hdD s.head), .d (.tup (s.code.map Ln.d))] : List Slot) = [.d (webD v), .d (.str x), a, b, c] ∧ (∀ s ∈ ss2, s ∈ v) ∧ (∀ s ∈ v, s ∈ ss2 ∨ ∀ h, s.head = some h → h.name ≠ x) := fun hne => ⟨ss, _, _, _, rfl, rfl, fun t ht => hin t (List.mem_cons_of_mem _ ht), fun t ht => by
        rcases hq t ht with q | q
        · rcases List.mem_cons.mp q with q | q
          · exact .inr (q ▸ hne)
          · exact .inl q
        · exact .inr q⟩
      cases hh : s.head with
      | none =>
        rw [hh] at next
        refine go_cons (gs_ifE (ew_andf (et_cmp co_isnot (ev_nm C 3 rfl).r ev_non.r)).t (fun h => by cases h) (fun _ => ?_))
        exact go_nil (go_nil (next fun h e => by cases e))
      | some h =>
        rw [hh] at next
        refine go_cons (gs_ifE (ew_and (et_cmp co_isnot (ev_nm C 3 rfl).r ev_non.r) fun _ => ew_and1 (et_cmp co_eqS (ev_ix C (ev_nm C 3 rfl).r ev_int rfl rfl).r (ev_nm C 1 rfl).r)).t (fun hb => ?_) (fun hb => ?_))
        · have hx : h.name = x := of_decide_eq_true hb
          have hf := hfind_head hv (hin s List.mem_cons_self) hh
          rw [hx] at hf
          refine go_cons (gs_ret (Do.of (ev_nm C 3 rfl) ?_))
          show _ = hdD _
          rw [hf]
        · have hx : ¬ h.name = x := of_decide_eq_false hb
          exact go_nil (go_nil (next fun g e => by cases e; exact hx))
  · obtain ⟨ss, sa, sb, sc, hr, rfl, hin, hq⟩ := hJ
    cases ss with
    | cons s ss => cases hr
    | nil =>
      refine go_cons (gs_ret (Do.of ev_non ?_))
      have hn : hfind (heads v) x = none := by
        rw [hfind_none]
        intro z
        obtain ⟨t, ht, g, e, e2⟩ := names_mem (v := v) z
        rcases hq t ht with q | q
        · cases q
        · exact q g e e2
      show _ = hdD _
      rw [hn]
      rfl
theorem ok_lcode (T : Tx mg) (A : At K mg "_law_code_of" s_l_code_of P_l_code_of) : FnD P w K mg base "_law_code_of" 1 (spR K R_lcode) := by
  refine A.r sc_l_code_of dc_l_code_of (fun ds d h => by obtain ⟨_, _, rfl, _⟩ := h; rfl) fun X B H ds d C hR => ?_
  obtain ⟨v, x, rfl, hv, rfl⟩ := hR
  have few := hv.few
  show Go X _ _ [.d (webD v), .d (.str x), .un, .un, .un] _
  refine go_cons (gs_new C 2 (DoF.of (ef_lst ea_nil) ?_))
  have hlen : LenD (webD v) (v.map Se.d).length := .tup _
  refine go_cons (gs_for C [3] (di_range C 0 (Do.of (ev_len C 1 (ev_nm C 0 rfl).r hlen T.len) ⟨v.length, by rw [List.length_map], by omega, ?_⟩) T.range))
  refine ⟨fun r Δ => ∃ (ss pre : List Se) (acc : List (Nat × Nat × Ln)) (a : Slot), r = upto (pre.length : Nat) ss.length ∧ v = pre ++ ss ∧ Δ = [.d (webD v), .d (.str x), .own (.lst (acc.map lineD)), a, .un] ∧ acc.length + 8 * ss.length ≤ 96 ∧ acc ++ codeFrom x pre.length ss = codeIn v x, ⟨v, [], [], _, rfl, rfl, rfl, by show 0 + _ ≤ _; omega, rfl⟩, fun y r Δ2 hJ => ?_, fun Δ2 hJ => ?_⟩
  · obtain ⟨ss, pre, acc, sa, hr, hv2, rfl, hl, hq⟩ := hJ
    cases ss with
    | nil => cases hr
    | cons s ss =>
      rw [List.length_cons, upto_succ] at hr
      injection hr with h1 h2
      subst h1 h2
      have hat : v[pre.length]? = some s := by rw [hv2, List.getElem?_append_right (Nat.le_refl _), Nat.sub_self]; rfl
      have hs : s ∈ v := by rw [hv2]; simp
      have h8 := (hv.se s hs).short
      rw [List.length_cons] at hl
      rw [codeFrom] at hq
      unfold codeAt at hq
      refine bd_nm C 3 ?_
      show Go X _ _ [.d (webD v), .d (.str x), .own (.lst (acc.map lineD)), .d (.int (pre.length : Nat)), .un] _
      have hsd : atI (v.map Se.d) (pre.length : Int) = some s.d := atI_nat (by rw [List.getElem?_map, hat]; rfl)
      have step : ∀ ls : List (Nat × Nat × Ln), ls.length ≤ 8 → acc ++ (ls ++ codeFrom x (pre.length + 1) ss) = codeIn v x → ∃ (ss2 pre2 : List Se) (acc2 : List (Nat × Nat × Ln)) (a : Slot), upto ((pre.length : Int) + 1) ss.length = upto (pre2.length : Nat) ss2.length ∧ v = pre2 ++ ss2 ∧ ([.d (webD v), .d (.str x), .own (.lst ((acc ++ ls).map lineD)), .d (.int (pre.length : Nat)), .un] : List Slot) = [.d (webD v), .d (.str x), .own (.lst (acc2.map lineD)), a, .un] ∧ acc2.length + 8 * ss2.length ≤ 96 ∧ acc2 ++ codeFrom x pre2.length ss2 = codeIn v x := fun ls h1 h2 => ⟨ss, pre ++ [s], acc ++ ls, _, by rw [List.length_append]; rfl, by rw [hv2, List.append_assoc]; rfl, rfl, by rw [List.length_append]; omega, by rw [List.length_append, List.append_assoc]; exact h2⟩
      cases hh : s.head with
      | none =>
        rw [hh] at hq
        have hq' := step [] (by decide) hq
        rw [List.append_nil] at hq'
        refine go_cons (gs_ifE (ew_andf (et_cmp co_isnot (ev_ix (d := hdD s.head) C (ev_ix C (ev_nm C 0 rfl).r (ev_nm C 3 rfl) rfl hsd).r ev_int rfl rfl).r ev_non.r) (by rw [hh]; rfl)).t (fun h => by cases h) (fun _ => ?_))
        exact go_nil (go_nil hq')
      | some h =>
        rw [hh] at hq
        have ehd : s.d = .tup [.tup (s.prose.map D.str), h.d, .tup (s.code.map Ln.d)] := by unfold Se.d; rw [hh]; rfl
        rw [ehd] at hsd
        refine go_cons (gs_ifE (ew_and (et_cmp (co_isnot (d1 := h.d)) (ev_ix C (ev_ix C (ev_nm C 0 rfl).r (ev_nm C 3 rfl) rfl hsd).r ev_int rfl rfl).r ev_non.r) fun _ => ew_and1 (et_cmp co_eqS (ev_ix C (ev_ix (d := h.d) C (ev_ix C (ev_nm C 0 rfl).r (ev_nm C 3 rfl) rfl hsd).r ev_int rfl rfl).r ev_int rfl rfl).r (ev_nm C 1 rfl).r)).t (fun hb => ?_) (fun hb => ?_))
        · have hx : h.name = x := of_decide_eq_true hb
          simp only [if_pos hx] at hq
          have hq' := step (numb pre.length 0 s.code) (by rw [numb_len]; exact h8) hq
          have e2 : (acc ++ numb pre.length 0 s.code).map lineD = acc.map lineD ++ (((num 0 s.code).filter fun _ => true).map fun q => D.tup [.int (pre.length : Nat), .int (q.1 : Nat), q.2.d]) := by
            rw [List.map_append, List.filter_eq_self.mpr (fun _ _ => rfl), num_numb]
          have nl := num_len 0 s.code
          rw [e2] at hq'
          have hlen2 : LenD (D.tup (s.code.map Ln.d)) (s.code.map Ln.d).length := .tup _
          refine go_cons (gs_new C 2 (DoF.of (ef_cat (er_own C 2 rfl rfl) (EvF.lr (ef_lcG C .no (bk_by (own := ow_l_code_of_0) (vb := bv_l_code_of_0) (wb := bw_l_code_of_0) (G := bg_l_code_of_0) (by decide +kernel)) (by exact ⟨trivial, trivial⟩) (by trivial) (fun q : Nat × Ln => D.int (q.1 : Nat)) (fun q => [.d (webD v), .d (.str x), .own (.lst (acc.map lineD)), .d (.int (pre.length : Nat)), .d (.int (q.1 : Nat))]) (fun _ => true) (fun q => D.tup [.int (pre.length : Nat), .int (q.1 : Nat), q.2.d]) (num 0 s.code) (di_range C 0 (Do.of (ev_len C 1 (ev_ix (d := .tup (s.code.map Ln.d)) C (ev_ix C (ev_nm C 0 rfl).r (ev_nm C 3 rfl) rfl hsd).r ev_int rfl rfl).r hlen2 T.len) ⟨s.code.length, by rw [List.length_map], by omega, upto_num 0 s.code⟩) T.range) (by omega) (fun q hm Y CY => ⟨bd_nm CY 4 rfl, rfl, fun _ => ?_⟩))) (by rw [List.length_map, List.length_map, List.filter_eq_self.mpr (fun _ _ => rfl)]; omega)) (go_nil (go_nil hq'))))
          obtain ⟨m, hm1, hm2⟩ := num_get hm
          rw [Nat.zero_add] at hm1
          exact ev_tup (ea_cons (ev_nm CY 3 rfl) (ea_cons (ev_nm CY 4 rfl) (ea_cons (ev_ix CY (ev_ix (d := .tup (s.code.map Ln.d)) CY (ev_ix CY (ev_nm CY 0 rfl).r (ev_nm CY 3 rfl) rfl hsd).r ev_int rfl rfl).r (ev_nm CY 4 rfl) rfl (by rw [hm1]; exact atI_nat (by rw [List.getElem?_map, hm2]; rfl))) ea_nil)))
        · have hx : ¬ h.name = x := of_decide_eq_false hb
          simp only [if_neg hx] at hq
          have hq' := step [] (by decide) hq
          rw [List.append_nil] at hq'
          exact go_nil (go_nil hq')
  · obtain ⟨ss, pre, acc, sa, hr, hv2, rfl, hl, hq⟩ := hJ
    cases ss with
    | cons s ss => cases hr
    | nil =>
      refine go_cons (gs_kn 2 rfl rfl (gs_ret (Do.of (ev_nm C 2 rfl) ?_)))
      rw [codeFrom, List.append_nil] at hq
      rw [hq]
theorem ok_lused (T : Tx mg) (A : At K mg "_law_used" s_l_used P_l_used) (F1 : FnD P w K mg base "_law_code_of" 1 (spR K R_lcode)) : FnD P w K mg base "_law_used" 2 (spR K R_lused) := by
  refine A.r sc_l_used dc_l_used (fun ds d h => by obtain ⟨_, _, rfl, _⟩ := h; rfl) fun X B H ds d C hR => ?_
  obtain ⟨v, x, rfl, hv, rfl⟩ := hR
  have few := hv.few
  have cl := codeFrom_len x 0 v fun s hs => (hv.se s hs).short
  show Go X _ _ [.d (webD v), .d (.str x), .un, .un, .un, .un] _
  refine go_cons (gs_new C 2 (DoF.of (ef_lst ea_nil) ?_))
  refine go_cons (gs_for C [3, 4, 5] (di_list C (Do.of (ev_call C 0 F1 (ea_cons (ev_nm C 0 rfl) (ea_cons (ev_nm C 1 rfl) ea_nil)) ⟨v, x, rfl, hv, rfl⟩) ⟨_, rfl, ?_⟩)))
  refine ⟨fun r Δ => ∃ (es : List (Nat × Nat × Ln)) (acc : List Str) (a b c : Slot), r = es.map lineD ∧ Δ = [.d (webD v), .d (.str x), .own (.lst (acc.map D.str)), a, b, c] ∧ acc.length + es.length ≤ 96 ∧ es.foldl addUse acc = usesIn v x,
    ⟨codeIn v x, [], _, _, _, rfl, rfl, by show 0 + (codeFrom x 0 v).length ≤ _; omega, rfl⟩, fun y r Δ2 hJ => ?_, fun Δ2 hJ => ?_⟩
  · obtain ⟨es, acc, sa, sb, sc, hr, rfl, hl, hq⟩ := hJ
    cases es with
    | nil => cases hr
    | cons e es =>
      injection hr with h1 h2
      subst h1 h2
      obtain ⟨i, k, l⟩ := e
      rw [List.length_cons] at hl
      rw [List.foldl_cons] at hq
      refine bd_tup C (bs_cons (bd_nm C 3 (bs_cons (bd_nm C 4 (bs_cons (bd_nm C 5 (bs_nil ?_)))))))
      cases l with
      | plain z =>
        refine go_cons (gs_ifE (ew_andf (et_cmp co_eqS (ev_ix C (ev_nm C 5 rfl).r ev_int rfl rfl).r ev_str.r)).t (fun h => by cases h) (fun _ => go_nil (go_nil ?_)))
        exact ⟨es, acc, _, _, _, rfl, rfl, by omega, hq⟩
      | use n z as =>
        have hq2 : es.foldl addUse (if z ∈ acc then acc else acc ++ [z]) = usesIn v x := hq
        refine go_cons (gs_ifE (ew_and (et_cmp co_eqS (ev_ix C (ev_nm C 5 rfl).r ev_int rfl rfl).r ev_str.r) fun _ => ew_and1 (et_cmp (co_notin C (.inl rfl)) (ev_ix C (ev_nm C 5 rfl).r ev_int rfl rfl).r (er_own C 2 rfl rfl))).t (fun hb => ?_) (fun hb => ?_))
        · have hz : z ∉ acc := by
            have : (!decide (z ∈ acc)) = true := hb
            simpa using this
          rw [if_neg hz] at hq2
          refine go_cons (gs_append C 2 rfl (Do.of (ev_ix C (ev_nm C 5 rfl).r ev_int rfl rfl) ⟨by rw [List.length_map]; omega, go_nil (go_nil ?_)⟩))
          refine ⟨es, acc ++ [z], .d (.int (i : Nat)), .d (.int (k : Nat)), .d (Ln.use n z as).d, rfl, ?_, by rw [List.length_append]; show acc.length + 1 + _ ≤ _; omega, hq2⟩
          rw [List.map_append]; rfl
        · have hz : z ∈ acc := by
            have : (!decide (z ∈ acc)) = false := hb
            simpa using this
          rw [if_pos hz] at hq2
          exact go_nil (go_nil ⟨es, acc, _, _, _, rfl, rfl, by omega, hq2⟩)
  · obtain ⟨es, acc, sa, sb, sc, hr, rfl, hl, hq⟩ := hJ
    cases es with
    | cons s ss => cases hr
    | nil =>
      refine go_cons (gs_kn 2 rfl rfl (gs_ret (Do.of (ev_nm C 2 rfl) ?_)))
      show D.lst _ = D.lst _
      rw [← hq]
      rfl
end
end Kn
/-! L12: what is reached, the first fault as the law sees it. -/
namespace Kn
open PySem PySem.Spec PyProof.Rows L2
def rstep (v : List Se) : Nat → List Str → Nat → List Str
  | 0, fs, _ => fs
  | m + 1, fs, n => match fs[n]? with
    | none => fs
    | some z => rstep v m (fs ++ (usesIn v z).filter fun y => !decide (y ∈ fs)) (n + 1)
def rchL (v : List Se) (x : Str) : List Str := rstep v 13 (usesIn v x) 0
theorem usesIn_nd (v : List Se) (x : Str) : (usesIn v x).Nodup := uses_nd List.nodup_nil
theorem grow_nd {fs us : List Str} (h1 : fs.Nodup) (h2 : us.Nodup) : (fs ++ us.filter fun y => !decide (y ∈ fs)).Nodup := by
  rw [List.nodup_append]
  refine ⟨h1, h2.filter _, fun a ha b hb e => ?_⟩
  subst e
  have := (List.mem_filter.mp hb).2
  rw [decide_eq_true ha] at this
  cases this
theorem grow_mem {fs us : List Str} {y : Str} : y ∈ (fs ++ us.filter fun y => !decide (y ∈ fs)) ↔ y ∈ fs ∨ y ∈ us := by
  rw [List.mem_append, List.mem_filter]
  by_cases h : y ∈ fs
  · simp [h]
  · simp [h]
theorem rstep_ok {v : List Se} {x : Str} (hu : ∀ a y, y ∈ usesIn v a → y ∈ names v) (hn : (names v).length ≤ 12) : ∀ (m n : Nat) (fs : List Str), m + n = 13 → fs.Nodup → (∀ y ∈ fs, y ∈ names v) → (∀ y ∈ usesIn v x, y ∈ fs) → (∀ y ∈ fs, ∃ s ∈ usesIn v x, Rch (usesIn v) s y) → (∀ i z, i < n → fs[i]? = some z → ∀ y ∈ usesIn v z, y ∈ fs) → ∀ y, y ∈ rstep v m fs n ↔ ∃ s ∈ usesIn v x, Rch (usesIn v) s y := by
  have fin : ∀ (n : Nat) (fs : List Str), fs.length ≤ n → (∀ y ∈ usesIn v x, y ∈ fs) → (∀ y ∈ fs, ∃ s ∈ usesIn v x, Rch (usesIn v) s y) → (∀ i z, i < n → fs[i]? = some z → ∀ y ∈ usesIn v z, y ∈ fs) → ∀ y, y ∈ fs ↔ ∃ s ∈ usesIn v x, Rch (usesIn v) s y := fun n fs hl h3 h4 h5 y => by
    refine ⟨h4 y, ?_⟩
    rintro ⟨s, hs, hr⟩
    induction hr with
    | refl => exact h3 _ hs
    | step a b ih =>
      obtain ⟨i, hi, e⟩ := List.getElem_of_mem ih
      exact h5 i _ (by omega) (by rw [List.getElem?_eq_getElem hi, e]) _ b
  intro m
  induction m with
  | zero =>
    intro n fs hm h1 h2 h3 h4 h5
    have := nd_len h1 h2
    exact fin n fs (by omega) h3 h4 h5
  | succ m ih =>
    intro n fs hm h1 h2 h3 h4 h5
    rw [rstep]
    cases hz : fs[n]? with
    | none =>
      exact fin n fs (by rw [List.getElem?_eq_none_iff] at hz; exact hz) h3 h4 h5
    | some z =>
      refine ih (n + 1) _ (by omega) (grow_nd h1 (usesIn_nd v z)) (fun y hy => ?_) (fun y hy => grow_mem.mpr (.inl (h3 y hy))) (fun y hy => ?_) fun i a hi ha y hy => ?_
      · rcases grow_mem.mp hy with q | q
        · exact h2 y q
        · exact hu _ _ q
      · rcases grow_mem.mp hy with q | q
        · exact h4 y q
        · obtain ⟨s, hs, hr⟩ := h4 z (List.mem_of_getElem? hz)
          exact ⟨s, hs, hr.step q⟩
      · have hnl : n < fs.length := (List.getElem?_eq_some_iff.mp hz).1
        rw [List.getElem?_append_left (by omega)] at ha
        rcases Nat.lt_or_ge i n with q | q
        · exact grow_mem.mpr (.inl (h5 i a q ha y hy))
        · have : i = n := by omega
          subst this
          rw [hz] at ha
          cases ha
          exact grow_mem.mpr (.inr hy)
theorem rchL_mem {v : List Se} (hu : ∀ a y, y ∈ usesIn v a → y ∈ names v) (hn : (names v).length ≤ 12) (x y : Str) : y ∈ rchL v x ↔ ∃ s ∈ usesIn v x, Rch (usesIn v) s y :=
  rstep_ok hu hn 13 0 _ rfl (usesIn_nd v x) (fun y hy => hu _ _ hy) (fun y hy => hy) (fun y hy => ⟨y, hy, .refl y⟩) (fun i z hi => by omega) y
theorem next_uses {v : List Se} (hu : ∀ a y, y ∈ usesIn v a → y ∈ names v) : nextOf v = usesIn v := by
  funext a
  exact List.filter_eq_self.mpr fun y hy => decide_eq_true (hu a y hy)
theorem circ_rchL {v : List Se} (hu : ∀ a y, y ∈ usesIn v a → y ∈ names v) (hn : (names v).length ≤ 12) (x : Str) : circ v x = decide (x ∈ rchL v x) := by
  unfold circ
  rw [next_uses hu]
  by_cases h : x ∈ rchL v x
  · rw [decide_eq_true h]
    exact @decide_eq_true _ (Classical.propDecidable _) ((rchL_mem hu hn x x).mp h)
  · rw [decide_eq_false h]
    exact @decide_eq_false _ (Classical.propDecidable _) fun z => h ((rchL_mem hu hn x x).mpr z)
theorem uses_names {v : List Se} (h : fltSs (heads v) 0 v = []) : ∀ a y, y ∈ usesIn v a → y ∈ names v := fun a y hy => by
  rcases uses_fold.mp (show y ∈ (codeIn v a).foldl addUse [] from hy) with q | ⟨e, he, hu⟩
  · cases q
  · obtain ⟨s, g, h1, h2, h3, h4⟩ := codeIn_mem he
    have hm := List.mem_of_getElem? h2
    cases hl : e.2.2 with
    | plain z => rw [hl] at hu; cases hu
    | use n z as =>
      rw [hl] at hu hm
      have hz : z = y := Option.some.inj hu
      subst hz
      obtain ⟨i', k', q⟩ := fltSs_use (List.mem_of_getElem? h1) hm h
      have q : fltUse (heads v) i' k' z as = [] := q
      unfold fltUse at q
      cases hf : hfind (heads v) z with
      | none => rw [hf] at q; cases q
      | some g => exact Classical.byContradiction fun w => by rw [hfind_none.mpr w] at hf; cases hf
/-- known or owned: known from now on -/
theorem go_know {X : Cx} {E : En} {Δ : List Slot} {P : Ps} {sts : List Stmt} {ds : List D} {o : Slot} (i : Nat) (ho : o = .d (.lst ds) ∨ o = .own (.lst ds)) (hi : Δ[i]? = some o) (h : Go X E sts (Δ.set i (.d (.lst ds))) P) : Go X E sts Δ P := by
  rcases ho with rfl | rfl
  · have e : Δ.set i (.d (.lst ds)) = Δ := by
      refine List.ext_getElem? fun j => ?_
      by_cases q : i = j
      · subst q; rw [set_has hi, hi]
      · rw [List.getElem?_set_ne q]
    rw [e] at h
    exact h
  · exact go_kn i hi rfl h
def fltO : Option Flt → D
  | none => .non
  | some f => f.d
def R_lreached : List D → D → Prop := fun ds d => ∃ v x, ds = [webD v, .str x] ∧ WebOk v ∧ fltSs (heads v) 0 v = [] ∧ d = .lst ((rchL v x).map D.str)
def R_lfault : List D → D → Prop := fun ds d => ∃ v, ds = [webD v] ∧ WebOk v ∧ d = fltO (flts v).head?
section
variable {P : Program} {w : World} {K : PySem.W.Frag} {mg : Str → Option Value} {base : Heap}
theorem ok_lreached (T : Tx mg) (A : At K mg "_law_reached" s_l_reached P_l_reached) (F1 : FnD P w K mg base "_law_used" 2 (spR K R_lused)) : FnD P w K mg base "_law_reached" 3 (spR K R_lreached) := by
  refine A.r sc_l_reached dc_l_reached (fun ds d h => by obtain ⟨_, _, rfl, _⟩ := h; rfl) fun X B H ds d C hR => ?_
  obtain ⟨v, x, rfl, hv, hF, rfl⟩ := hR
  have few := hv.few
  have hu := uses_names hF
  have hn : (names v).length ≤ 12 := by have := names_len v; omega
  show Go X _ _ [.d (webD v), .d (.str x), .un, .un, .un] _
  refine go_cons (gs_set C 2 (Do.of (ev_call C 0 F1 (ea_cons (ev_nm C 0 rfl) (ea_cons (ev_nm C 1 rfl) ea_nil)) ⟨v, x, rfl, hv, rfl⟩) ?_))
  refine go_cons (gs_set C 3 (Do.of ev_int ?_))
  refine go_cons (gs_while C (fun m Δ => ∃ (fs : List Str) (n : Nat) (o : Slot), (o = .d (.lst (fs.map D.str)) ∨ o = .own (.lst (fs.map D.str))) ∧ Δ = [.d (webD v), .d (.str x), o, .d (.int (n : Nat)), .un] ∧ m + n = 13 ∧ fs.Nodup ∧ (∀ y ∈ fs, y ∈ names v) ∧ rstep v m fs n = rchL v x) (m0 := 13) ⟨usesIn v x, 0, _, .inl rfl, rfl, rfl, usesIn_nd v x, fun y hy => hu _ _ hy, rfl⟩ ?_)
  rintro m _ ⟨fs, n, o, ho, rfl, hm, hnd, hin, hq⟩
  have hlen := nd_len hnd hin
  have er : ∀ {p : Pos}, EvR X ⟨P, w, K, mg, base, [], B, H⟩ (.Name "_law_found" p) [.d (webD v), .d (.str x), o, .d (.int (n : Nat)), .un] (.lst (fs.map D.str)) := fun {p} => by
    rcases ho with rfl | rfl
    · exact (ev_nm C 2 rfl).r
    · exact er_own C 2 rfl rfl
  refine ⟨decide ((n : Int) < ((fs.map D.str).length : Int)), et_cmp co_lt (ev_nm C 3 rfl).r (ev_len C 1 er (.lst _) T.len).r, fun hb => ?_, fun hb => ?_⟩
  · have hlt : n < fs.length := by
      have := of_decide_eq_true hb
      rw [List.length_map] at this
      omega
    obtain ⟨m, rfl⟩ : ∃ m', m = m' + 1 := ⟨m - 1, by omega⟩
    have hz : fs[n]? = some fs[n] := List.getElem?_eq_getElem hlt
    generalize fs[n] = z at hz
    rw [rstep, hz] at hq
    have hq : rstep v m (fs ++ (usesIn v z).filter fun y => !decide (y ∈ fs)) (n + 1) = rchL v x := hq
    have hnd2 := grow_nd hnd (usesIn_nd v z)
    have hin2 : ∀ y ∈ fs ++ (usesIn v z).filter (fun y => !decide (y ∈ fs)), y ∈ names v := fun y hy => by
      rcases grow_mem.mp hy with q | q
      · exact hin y q
      · exact hu _ _ q
    have hlen2 := nd_len hnd2 hin2
    rw [List.length_append] at hlen2
    have us := usesIn_len hv z
    have e1 : (fs ++ (usesIn v z).filter fun y => !decide (y ∈ fs)).map D.str = fs.map D.str ++ ((usesIn v z).filter fun y => !decide (y ∈ fs)).map D.str := List.map_append
    refine go_know 2 ho rfl ?_
    show Go X _ _ [.d (webD v), .d (.str x), .d (.lst (fs.map D.str)), .d (.int (n : Nat)), .un] _
    refine go_cons (gs_new C 2 (DoF.of (ef_cat (ev_nm C 2 rfl).r (EvF.lr (ef_lcG C (.one _) (bk_by (own := ow_l_reached_0) (vb := bv_l_reached_0) (wb := bw_l_reached_0) (G := bg_l_reached_0) (by decide +kernel)) (by exact ⟨trivial, trivial⟩) (by trivial) D.str (fun y => [.d (webD v), .d (.str x), .d (.lst (fs.map D.str)), .d (.int (n : Nat)), .d (.str y)]) (fun y => !decide (y ∈ fs)) D.str (usesIn v z) (di_list C (Do.of (ev_call C 0 F1 (ea_cons (ev_nm C 0 rfl) (ea_cons (ev_ix (d := .str z) C (ev_nm C 2 rfl).r (ev_nm C 3 rfl) rfl (atI_nat (by rw [List.getElem?_map, hz]; rfl))) ea_nil)) ⟨v, z, rfl, hv, rfl⟩) ⟨_, rfl, rfl⟩)) (by omega) (fun y hy Y CY => ⟨bd_nm CY 4 rfl, DoT.of (et_cmp (co_notin CY (.inl rfl)) (ev_nm CY 4 rfl).r (ev_nm CY 2 rfl).r) rfl, fun _ => ev_nm CY 4 rfl⟩))) (by rw [List.length_map, List.length_map]; omega)) ?_))
    refine go_cons (gs_set C 3 (Do.of (ev_add (ev_nm C 3 rfl) ev_int) (go_nil ?_)))
    refine ⟨m, Nat.lt_succ_self _, fs ++ (usesIn v z).filter (fun y => !decide (y ∈ fs)), n + 1, _, .inr rfl, ?_, by omega, hnd2, hin2, hq⟩
    rw [e1]
    rfl
  · have hge : fs.length ≤ n := by
      have := of_decide_eq_false hb
      rw [List.length_map] at this
      omega
    have he : rstep v m fs n = fs := by
      cases m with
      | zero => rfl
      | succ m => rw [rstep, List.getElem?_eq_none hge]
    rw [he] at hq
    rw [← hq]
    rcases ho with rfl | rfl
    · exact go_cons (gs_ret (Do.of (ev_nm C 2 rfl) rfl))
    · exact go_cons (gs_kn 2 rfl rfl (gs_ret (Do.of (ev_nm C 2 rfl) rfl)))
theorem ok_lfault (T : Tx mg) (A : At K mg "_law_first_fault" s_l_first_fault P_l_first_fault) (F1 : FnD P w K mg base "_law_names" 1 (spR K R_lnames)) (F2 : FnD P w K mg base "_law_head" 1 (spR K R_lhead)) (F3 : FnD P w K mg base "_law_reached" 3 (spR K R_lreached)) : FnD P w K mg base "_law_first_fault" 4 (spR K R_lfault) := by
  refine A.r sc_l_first_fault dc_l_first_fault (fun ds d h => by obtain ⟨_, rfl, _⟩ := h; rfl) fun X B H ds d C hR => ?_
  obtain ⟨v, rfl, hv, rfl⟩ := hR
  have few := hv.few
  have hn : (names v).length ≤ 12 := by have := names_len v; omega
  show Go X _ _ [.d (webD v), .un, .un, .un, .un, .un, .un] _
  refine go_cons (gs_set C 1 (Do.of (ev_call C 0 F1 (ea_cons (ev_nm C 0 rfl) ea_nil) ⟨v, rfl, by omega, rfl⟩) ?_))
  have hlen : LenD (webD v) (v.map Se.d).length := .tup _
  have ret : ∀ (fl : Flt) (r : List Flt), fl :: r = fltSs (heads v) 0 v → fl.d = fltO (flts v).head? := fun fl r e => by
    unfold flts
    rw [← e]
    rfl
  refine go_cons (gs_via (fun Δ' => ∃ a b c d : Slot, fltSs (heads v) 0 v = [] ∧ Δ' = [.d (webD v), .d (.lst ((names v).map D.str)), a, b, c, d, .un]) (gs_for C [2] (di_range C 1 (Do.of (ev_len C 2 (ev_nm C 0 rfl).r hlen T.len) ⟨v.length, by rw [List.length_map], by omega, ?_⟩) T.range)) ?_)
  · refine ⟨fun r Δ => ∃ (ss pre : List Se) (a b c d : Slot), r = upto (pre.length : Nat) ss.length ∧ v = pre ++ ss ∧ Δ = [.d (webD v), .d (.lst ((names v).map D.str)), a, b, c, d, .un] ∧ fltSs (heads v) pre.length ss = fltSs (heads v) 0 v, ⟨v, [], _, _, _, _, rfl, rfl, rfl, rfl⟩, fun y r Δ2 hJ => ?_, fun Δ2 hJ => ?_⟩
    · obtain ⟨ss, pre, sa, sb, sc, sd, hr, hv2, rfl, hq⟩ := hJ
      cases ss with
      | nil => cases hr
      | cons s ss =>
        rw [List.length_cons, upto_succ] at hr
        injection hr with h1 h2
        subst h1 h2
        have hat : v[pre.length]? = some s := by rw [hv2, List.getElem?_append_right (Nat.le_refl _), Nat.sub_self]; rfl
        have hs : s ∈ v := by rw [hv2]; simp
        have h8 := (hv.se s hs).short
        have hsd : atI (v.map Se.d) (pre.length : Int) = some s.d := atI_nat (by rw [List.getElem?_map, hat]; rfl)
        rw [fltSs] at hq
        refine bd_nm C 2 ?_
        show Go X _ _ [.d (webD v), .d (.lst ((names v).map D.str)), .d (.int (pre.length : Nat)), sb, sc, sd, .un] _
        have hlen2 : LenD (D.tup (s.code.map Ln.d)) (s.code.map Ln.d).length := .tup _
        refine go_cons (gs_for C [3] (di_range C 1 (Do.of (ev_len C 2 (ev_ix (d := .tup (s.code.map Ln.d)) C (ev_ix C (ev_nm C 0 rfl).r (ev_nm C 2 rfl) rfl hsd).r ev_int rfl rfl).r hlen2 T.len) ⟨s.code.length, by rw [List.length_map], by omega, ?_⟩) T.range))
        refine ⟨fun r Δ => ∃ (ls kp : List Ln) (b c d : Slot), r = upto (kp.length : Nat) ls.length ∧ s.code = kp ++ ls ∧ Δ = [.d (webD v), .d (.lst ((names v).map D.str)), .d (.int (pre.length : Nat)), b, c, d, .un] ∧ fltLs (heads v) pre.length kp.length ls ++ fltSs (heads v) (pre.length + 1) ss = fltSs (heads v) 0 v, ⟨s.code, [], _, _, _, rfl, rfl, rfl, hq⟩, fun y r Δ2 hJ => ?_, fun Δ2 hJ => ?_⟩
        · obtain ⟨ls, kp, sb, sc, sd, hr, hc2, rfl, hq⟩ := hJ
          cases ls with
          | nil => cases hr
          | cons l ls =>
            rw [List.length_cons, upto_succ] at hr
            injection hr with h1 h2
            subst h1 h2
            have hcat : s.code[kp.length]? = some l := by rw [hc2, List.getElem?_append_right (Nat.le_refl _), Nat.sub_self]; rfl
            have hl : l ∈ s.code := by rw [hc2]; simp
            have hld : atI (s.code.map Ln.d) (kp.length : Int) = some l.d := atI_nat (by rw [List.getElem?_map, hcat]; rfl)
            rw [fltLs, List.append_assoc] at hq
            refine bd_nm C 3 ?_
            refine go_cons (gs_set C 4 (Do.of (ev_ix C (ev_ix (d := .tup (s.code.map Ln.d)) C (ev_ix C (ev_nm C 0 rfl).r (ev_nm C 2 rfl) rfl hsd).r ev_int rfl rfl).r (ev_nm C 3 rfl) rfl hld) ?_))
            show Go X _ _ [.d (webD v), .d (.lst ((names v).map D.str)), .d (.int (pre.length : Nat)), .d (.int (kp.length : Nat)), .d l.d, sd, .un] _
            have step : ∀ d : Slot, fltLine (heads v) pre.length kp.length l = [] → ∃ (ls2 kp2 : List Ln) (b c e : Slot), upto ((kp.length : Int) + 1) ls.length = upto (kp2.length : Nat) ls2.length ∧ s.code = kp2 ++ ls2 ∧ ([.d (webD v), .d (.lst ((names v).map D.str)), .d (.int (pre.length : Nat)), .d (.int (kp.length : Nat)), .d l.d, d, .un] : List Slot) = [.d (webD v), .d (.lst ((names v).map D.str)), .d (.int (pre.length : Nat)), b, c, e, .un] ∧ fltLs (heads v) pre.length kp2.length ls2 ++ fltSs (heads v) (pre.length + 1) ss = fltSs (heads v) 0 v := fun d h => ⟨ls, kp ++ [l], _, _, _, by rw [List.length_append]; rfl, by rw [hc2, List.append_assoc]; rfl, rfl, by rw [h, List.nil_append] at hq; rw [List.length_append]; exact hq⟩
            cases l with
            | plain z =>
              exact go_cons (gs_ifE (et_cmp co_eqS (ev_ix (d := .str "plain") C (ev_nm C 4 rfl).r ev_int rfl rfl).r ev_str.r) (fun h => by cases h) (fun _ => go_nil (go_nil (step _ rfl))))
            | use n x as =>
              have hq : fltUse (heads v) pre.length kp.length x as ++ _ = _ := hq
              have step' : ∀ d : Slot, fltUse (heads v) pre.length kp.length x as = [] → _ := step
              show Go X _ _ [.d (webD v), .d (.lst ((names v).map D.str)), .d (.int (pre.length : Nat)), .d (.int (kp.length : Nat)), .d (.tup [.str "use", .int (n : Nat), .str x, .tup (as.map D.str)]), sd, .un] _
              refine go_cons (gs_ifE (et_cmp co_eqS (ev_ix (d := .str "use") C (ev_nm C 4 rfl).r ev_int rfl rfl).r ev_str.r) (fun _ => ?_) (fun h => by cases h))
              unfold fltUse at hq step'
              refine go_cons (gs_ifE (et_cmp (co_notin C (.inl rfl)) (ev_ix (d := .str x) C (ev_nm C 4 rfl).r ev_int rfl rfl).r (ev_nm C 1 rfl).r) (fun hb => ?_) (fun hb => go_nil ?_))
              · have hx : x ∉ names v := by
                  have : (!decide (x ∈ names v)) = true := hb
                  simpa using this
                rw [hfind_none.mpr hx] at hq
                refine go_cons (gs_ret (Do.of (ev_tup (ea_cons ev_str (ea_cons (ev_nm C 2 rfl) (ea_cons (ev_nm C 3 rfl) (ea_cons (ev_ix (d := .str x) C (ev_nm C 4 rfl).r ev_int rfl rfl) ea_nil))))) ?_))
                exact ret (.missing pre.length kp.length x) _ hq
              · have hx : x ∈ names v := by
                  have : (!decide (x ∈ names v)) = false := hb
                  simpa using this
                obtain ⟨g, hf⟩ := hfind_some (hs := heads v) hx
                rw [hf] at hq step'
                refine go_cons (gs_set C 5 (Do.of (ev_call C 3 F2 (ea_cons (ev_nm C 0 rfl) (ea_cons (ev_ix (d := .str x) C (ev_nm C 4 rfl).r ev_int rfl rfl) ea_nil)) ⟨v, x, rfl, hv, rfl⟩) ?_))
                rw [hf]
                show Go X _ _ [.d (webD v), .d (.lst ((names v).map D.str)), .d (.int (pre.length : Nat)), .d (.int (kp.length : Nat)), .d (.tup [.str "use", .int (n : Nat), .str x, .tup (as.map D.str)]), .d g.d, .un] _
                have lp : LenD (D.tup (g.params.map D.str)) (g.params.map D.str).length := .tup _
                have la : LenD (D.tup (as.map D.str)) (as.map D.str).length := .tup _
                refine go_cons (gs_ifE (et_cmp co_neI (ev_len C 2 (ev_ix (d := .tup (g.params.map D.str)) C (ev_nm C 5 rfl).r ev_int rfl rfl).r lp T.len).r (ev_len C 2 (ev_ix (d := .tup (as.map D.str)) C (ev_nm C 4 rfl).r ev_int rfl rfl).r la T.len).r) (fun h => ?_) (fun h => go_nil ?_))
                · have hne : as.length ≠ g.params.length := fun e => by
                    rw [strs_len, strs_len, e] at h
                    simp at h
                  refine go_cons (gs_ret (Do.of (ev_tup (ea_cons ev_str (ea_cons (ev_nm C 2 rfl) (ea_cons (ev_nm C 3 rfl) (ea_cons (ev_ix (d := .str x) C (ev_nm C 4 rfl).r ev_int rfl rfl) ea_nil))))) ?_))
                  simp only [if_pos hne] at hq
                  exact ret (.count pre.length kp.length x) _ hq
                · have he : as.length = g.params.length := by
                    rw [strs_len, strs_len] at h
                    simp at h
                    omega
                  have hne : ¬ as.length ≠ g.params.length := fun z => z he
                  simp only [if_neg hne, List.nil_append] at hq step'
                  refine go_cons (gs_ifE (et_val (x := g.file) (ev_ix (d := .bl g.file) C (ev_nm C 5 rfl).r ev_int rfl rfl)) (fun h => ?_) (fun h => go_nil (go_nil ?_)))
                  · refine go_cons (gs_ret (Do.of (ev_tup (ea_cons ev_str (ea_cons (ev_nm C 2 rfl) (ea_cons (ev_nm C 3 rfl) (ea_cons (ev_ix (d := .str x) C (ev_nm C 4 rfl).r ev_int rfl rfl) ea_nil))))) ?_))
                    simp only [if_pos h] at hq
                    exact ret (.file pre.length kp.length x) _ hq
                  · have hg : ¬ g.file = true := by rw [h]; decide
                    exact go_nil (step' _ (if_neg hg))
        · obtain ⟨ls, kp, sb, sc, sd, hr, hc2, rfl, hq⟩ := hJ
          cases ls with
          | cons l ls => cases hr
          | nil =>
            exact go_nil ⟨ss, pre ++ [s], _, _, _, _, by rw [List.length_append]; rfl, by rw [hv2, List.append_assoc]; rfl, rfl, by rw [List.length_append]; exact hq⟩
    · obtain ⟨ss, pre, sa, sb, sc, sd, hr, hv2, rfl, hq⟩ := hJ
      cases ss with
      | cons s ss => cases hr
      | nil => exact ⟨_, _, _, _, hq.symm, rfl⟩
  rintro _ ⟨sa, sb, sc, sd, hF, rfl⟩
  have hu := uses_names hF
  refine go_cons (gs_for C [6] (di_list C (Do.of (ev_nm C 1 rfl) ⟨_, rfl, ?_⟩)))
  refine ⟨fun r Δ => ∃ (ns : List Str) (e : Slot), r = ns.map D.str ∧ Δ = [.d (webD v), .d (.lst ((names v).map D.str)), sa, sb, sc, sd, e] ∧ ns.filter (circ v) = (names v).filter (circ v), ⟨names v, _, rfl, rfl, rfl⟩, fun y r Δ2 hJ => ?_, fun Δ2 hJ => ?_⟩
  · obtain ⟨ns, se, hr, rfl, hq⟩ := hJ
    cases ns with
    | nil => cases hr
    | cons x ns =>
      injection hr with h1 h2
      subst h1 h2
      refine bd_nm C 6 ?_
      show Go X _ _ [.d (webD v), .d (.lst ((names v).map D.str)), sa, sb, sc, sd, .d (.str x)] _
      have hc := circ_rchL hu hn x
      refine go_cons (gs_ifE (et_cmp (co_in C (.inl rfl)) (ev_nm C 6 rfl).r (ev_call C 4 F3 (ea_cons (ev_nm C 0 rfl) (ea_cons (ev_nm C 6 rfl) ea_nil)) ⟨v, x, rfl, hv, hF, rfl⟩).r) (fun h => ?_) (fun h => go_nil (go_nil ?_)))
      · rw [← hc] at h
        refine go_cons (gs_ret (Do.of (ev_tup (ea_cons ev_str (ea_cons (ev_nm C 6 rfl) ea_nil))) ?_))
        rw [List.filter_cons, if_pos h] at hq
        unfold flts
        rw [hF, List.nil_append, ← hq]
        rfl
      · rw [← hc] at h
        rw [List.filter_cons, if_neg (by rw [h]; decide)] at hq
        exact ⟨ns, _, rfl, rfl, hq⟩
  · obtain ⟨ns, se, hr, rfl, hq⟩ := hJ
    cases ns with
    | cons x ns => cases hr
    | nil =>
      refine go_cons (gs_ret (Do.of ev_non ?_))
      unfold flts
      rw [hF, List.nil_append, ← hq]
      rfl
end
end Kn
/-! L13: parts as the law sees them. -/
namespace Kn
open PySem PySem.Spec PyProof.Rows L2
theorem cut_mid (x : Str) (i n : Nat) : codes (cutS x (some (i : Int)) (some ((i + n : Nat) : Int))) = ((codes x).drop i).take n := by
  have hl : x.cps.toList.length = x.length := codes_len x
  unfold cutS codes
  rw [HT.sIx_nat, HT.sIx_nat]
  show (x.cps.toList.drop (min i x.length)).take (min (i + n) x.length - min i x.length) = _
  by_cases h : i ≤ x.length
  · rw [Nat.min_eq_left h]
    by_cases h2 : i + n ≤ x.length
    · rw [Nat.min_eq_left h2, Nat.add_sub_cancel_left]
    · rw [Nat.min_eq_right (by omega), List.take_of_length_le (by rw [List.length_drop]; omega), List.take_of_length_le (by rw [List.length_drop]; omega)]
  · rw [Nat.min_eq_right (by omega : x.length ≤ i), List.drop_eq_nil_of_le (by omega), List.drop_eq_nil_of_le (by omega), List.take_nil, List.take_nil]
theorem codes_same {x y : Str} (h : codes x = codes y) : x = y := by
  cases x with
  | mk a =>
    cases y with
    | mk b =>
      have h : a.toList = b.toList := h
      rw [Array.toList_inj.mp h]
def matchB (l : List Nat) (i : Nat) (p : Str) : Bool := decide ((l.drop i).take (pat p).length = pat p)
theorem match_cut (x : Str) (i : Nat) (p : Str) : decide (cutS x (some (i : Int)) (some ((i : Int) + (p.length : Nat) + 2)) = "{" ++ p ++ "}") = matchB (codes x) i p := by
  have e : ((i : Int) + (p.length : Nat) + 2) = ((i + (pat p).length : Nat) : Int) := by rw [pat_len]; omega
  rw [e]
  unfold matchB
  have h := cut_mid x i (pat p).length
  exact decide_eq_decide.mpr ⟨fun z => by rw [← h, z, codes_pat], fun z => codes_same (by rw [h, z, codes_pat])⟩
theorem slotL_found (l : List Nat) (i : Nat) : ∀ (ps : List Str) (n : Nat), slotL l i ps n = match (num n ps).filter (fun q => matchB l i q.2) with
    | [] => none
    | q :: _ => some (i + (pat q.2).length, q.1)
  | [], _ => rfl
  | p :: r, n => by
    show (if (l.drop i).take (pat p).length = pat p then some (i + (pat p).length, n) else slotL l i r (n + 1)) = match ((n, p) :: num (n + 1) r).filter _ with | [] => none | q :: _ => some (i + (pat q.2).length, q.1)
    rw [List.filter_cons]
    by_cases h : (l.drop i).take (pat p).length = pat p
    · have hb : matchB l i p = true := decide_eq_true h
      rw [if_pos h, if_pos hb]
    · have hb : ¬ matchB l i p = true := by unfold matchB; rw [decide_eq_false h]; decide
      rw [if_neg h, if_neg hb]
      exact slotL_found l i r (n + 1)
def R_lparts : List D → D → Prop := fun ds d => ∃ (line : Str) (ps : List Str), ds = [.str line, .tup (ps.map D.str)] ∧ line.length ≤ 1000 ∧ (∀ p ∈ ps, p.length ≤ 1000) ∧ ps.length ≤ 1000 ∧ d = .tup ((partsOf (codes line) ps).map Part.d)
theorem evo_some {X : Cx} {E : En} {e : Expr} {Δ : List Slot} {i : Int} (h : Ev X E e Δ (.int i)) : EvO X E (some e) Δ (some i) := h
section
variable {P : Program} {w : World} {K : PySem.W.Frag} {mg : Str → Option Value} {base : Heap}
theorem ok_lparts (T : Tx mg) (A : At K mg "_law_parts" s_l_parts P_l_parts) : FnD P w K mg base "_law_parts" 1 (spR K R_lparts) := by
  refine A.r sc_l_parts dc_l_parts (fun ds d h => by obtain ⟨_, _, rfl, _⟩ := h; rfl) fun X B H ds d C hR => ?_
  obtain ⟨line, ps, rfl, hl, hp, hpl, rfl⟩ := hR
  show Go X _ _ [.d (.str line), .d (.tup (ps.map D.str)), .un, .un, .un, .un, .un, .un, .un] _
  have lln : LenD (.str line) line.length := .str _ (by omega)
  have lps : LenD (.tup (ps.map D.str)) (ps.map D.str).length := .tup _
  have npl := num_len 0 ps
  refine go_cons (gs_new C 2 (DoF.of (ef_lst ea_nil) ?_))
  refine go_cons (gs_set C 3 (Do.of ev_int ?_))
  refine go_cons (gs_set C 4 (Do.of ev_int ?_))
  refine go_cons (gs_via (fun Δ' => ∃ (done : List Part) (b : Nat) (s5 s6 s7 : Slot), Δ' = [.d (.str line), .d (.tup (ps.map D.str)), .own (.lst (done.map Part.d)), .d (.int (b : Nat)), .d (.int (line.length : Nat)), s5, s6, s7, .un] ∧ done.length ≤ 2 * line.length ∧ done ++ (if b < line.length then [Part.text b line.length] else []) = partsOf (codes line) ps) (gs_for C [5] (di_range C 0 (Do.of (ev_len C 1 (ev_nm C 0 rfl).r lln T.len) ⟨line.length, rfl, by omega, ?_⟩) T.range)) ?_)
  · refine ⟨fun r Δ => ∃ (done : List Part) (b i : Nat) (s5 s6 s7 : Slot), Δ = [.d (.str line), .d (.tup (ps.map D.str)), .own (.lst (done.map Part.d)), .d (.int (b : Nat)), .d (.int (i : Nat)), s5, s6, s7, .un] ∧ b ≤ i ∧ i ≤ line.length ∧ line.length ≤ i + r.length ∧ done.length ≤ 2 * i ∧ done ++ partsGo (codes line) ps (r.length + 1) b i = partsOf (codes line) ps, ⟨[], 0, 0, _, _, _, rfl, Nat.le_refl _, Nat.zero_le _, by rw [upto_len]; omega, Nat.le_refl _, by rw [upto_len, ← codes_len]; rfl⟩, fun y r Δ2 hJ => ?_, fun Δ2 hJ => ?_⟩
    · obtain ⟨done, b, i, s5, s6, s7, rfl, hbi, hil, hr, hd, hq⟩ := hJ
      rw [List.length_cons] at hr hq
      refine bd_nm C 5 ?_
      show Go X _ _ [.d (.str line), .d (.tup (ps.map D.str)), .own (.lst (done.map Part.d)), .d (.int (b : Nat)), .d (.int (i : Nat)), .d y, s6, s7, .un] _
      rw [partsGo] at hq
      refine go_cons (gs_ifE (et_cmp co_ge (ev_nm C 4 rfl).r (ev_len C 1 (ev_nm C 0 rfl).r lln T.len).r) (fun hb => ?_) (fun hb => go_nil ?_))
      · have hge : line.length ≤ i := by simpa using hb
        have he : i = line.length := by omega
        subst he
        rw [if_neg (by rw [codes_len]; omega)] at hq
        exact go_cons (gs_break ⟨done, b, _, _, _, rfl, hd, hq⟩)
      have hlt : i < line.length := by simpa using hb
      rw [if_pos (by rw [codes_len]; exact hlt), slotL_found] at hq
      refine go_cons (gs_lcG C 6 (.one _) (bk_by (own := ow_l_parts_0) (vb := bv_l_parts_0) (wb := bw_l_parts_0) (G := bg_l_parts_0) (by decide +kernel)) (by exact ⟨trivial, trivial⟩) (fun q : Nat × Str => D.int (q.1 : Nat)) (fun q => [.d (.str line), .d (.tup (ps.map D.str)), .own (.lst (done.map Part.d)), .d (.int (b : Nat)), .d (.int (i : Nat)), .d y, s6, s7, .d (.int (q.1 : Nat))]) (fun q => matchB (codes line) i q.2) (fun q d => d = .int (q.1 : Nat)) (di_range C 0 (Do.of (ev_len C 1 (ev_nm C 1 rfl).r lps T.len) ⟨ps.length, by rw [List.length_map], by omega, num 0 ps, upto_num 0 ps, by omega, fun q hqm Y CY => ⟨bd_nm CY 8 rfl, ?_, fun _ => Do.of (ev_nm CY 8 rfl) rfl⟩, fun zs hzs => ?_⟩) T.range))
      · obtain ⟨m, hm1, hm2⟩ := num_get hqm
        rw [Nat.zero_add] at hm1
        have h1 := hp q.2 (List.mem_of_getElem? hm2)
        have hat : atI (ps.map D.str) (q.1 : Int) = some (.str q.2) := by rw [hm1]; exact atI_nat (by rw [List.getElem?_map, hm2]; rfl)
        exact DoT.of (et_cmp co_eqS (ev_slS (l := some (i : Int)) (u := some ((i : Int) + (q.2.length : Nat) + 2)) (ev_nm CY 0 rfl) (evo_some (ev_nm CY 4 rfl)) (evo_some (ev_add (ev_add (ev_nm CY 4 rfl) (ev_len CY 0 (ev_ix (d1 := .tup (ps.map D.str)) CY (ev_nm CY 1 rfl).r (ev_nm CY 8 rfl) rfl hat).r (.str _ (by omega)) T.len)) ev_int)) (by omega)).r (ev_cats (ev_cats ev_str (ev_ix (d1 := .tup (ps.map D.str)) CY (ev_nm CY 1 rfl).r (ev_nm CY 8 rfl) rfl hat) (by show 1 + q.2.length ≤ _; omega)) ev_str (by rw [len_app]; show 1 + q.2.length + 1 ≤ _; omega)).r) (match_cut line i q.2)
      rw [paired_map hzs]
      have hmem : ∀ q ∈ (num 0 ps).filter (fun q => matchB (codes line) i q.2), ∃ m, q.1 = 0 + m ∧ ps[m]? = some q.2 := fun q h => num_get (List.mem_filter.mp h).1
      have hmat : ∀ q ∈ (num 0 ps).filter (fun q => matchB (codes line) i q.2), matchB (codes line) i q.2 = true := fun q h => (List.mem_filter.mp h).2
      generalize (num 0 ps).filter (fun q => matchB (codes line) i q.2) = fs at hq hmem hmat
      show Go X _ _ [.d (.str line), .d (.tup (ps.map D.str)), .own (.lst (done.map Part.d)), .d (.int (b : Nat)), .d (.int (i : Nat)), .d y, .own (.lst (fs.map fun q => D.int (q.1 : Nat))), s7, .un] _
      refine go_kn 6 rfl rfl ?_
      show Go X _ _ [.d (.str line), .d (.tup (ps.map D.str)), .own (.lst (done.map Part.d)), .d (.int (b : Nat)), .d (.int (i : Nat)), .d y, .d (.lst (fs.map fun q => D.int (q.1 : Nat))), s7, .un] _
      cases fs with
      | nil =>
        refine go_cons (gs_ifE (et_cmp co_gt (ev_len C 1 (ev_nm C 6 rfl).r (.lst _) T.len).r ev_int.r) (fun h => by cases h) (fun _ => ?_))
        refine go_cons (gs_set C 4 (Do.of (ev_add (ev_nm C 4 rfl) ev_int) (go_nil (go_nil ?_))))
        exact ⟨done, b, i + 1, _, _, _, rfl, by omega, by omega, by omega, by omega, hq⟩
      | cons q qs =>
        obtain ⟨m, hm1, hm2⟩ := hmem q List.mem_cons_self
        have hmt : ((codes line).drop i).take (pat q.2).length = pat q.2 := of_decide_eq_true (hmat q List.mem_cons_self)
        rw [Nat.zero_add] at hm1
        have h1 := hp q.2 (List.mem_of_getElem? hm2)
        have hat : atI (ps.map D.str) (q.1 : Int) = some (.str q.2) := by rw [hm1]; exact atI_nat (by rw [List.getElem?_map, hm2]; rfl)
        have hend : i + (q.2.length + 2) ≤ line.length := by
          have h2 := congrArg List.length hmt
          rw [List.length_take, List.length_drop, pat_len, codes_len] at h2
          omega
        have hq : done ++ ((if b < i then [Part.text b i] else []) ++ Part.slot i (i + (pat q.2).length) q.1 :: partsGo (codes line) ps (r.length + 1) (i + (pat q.2).length) (i + (pat q.2).length)) = partsOf (codes line) ps := hq
        rw [pat_len] at hq
        have e7 : ((i : Int) + (q.2.length : Nat) + 2) = ((i + (q.2.length + 2) : Nat) : Int) := by omega
        refine go_cons (gs_ifE (et_cmp co_gt (ev_len C 1 (ev_nm C 6 rfl).r (.lst _) T.len).r ev_int.r) (fun _ => ?_) (fun h => ?_))
        rotate_left
        · exfalso
          have := of_decide_eq_false h
          rw [List.length_map, List.length_cons] at this
          omega
        refine go_cons (gs_set C 7 (Do.of ((ev_add (ev_add (ev_nm C 4 rfl) (ev_len C 1 (ev_ix C (ev_nm C 1 rfl).r (ev_ix (d := .int (q.1 : Nat)) C (ev_nm C 6 rfl).r ev_int rfl (by exact atI_nat rfl)) rfl hat).r (.str _ (by omega)) T.len)) ev_int).is (congrArg D.int e7)) ?_))
        show Go X _ _ [.d (.str line), .d (.tup (ps.map D.str)), .own (.lst (done.map Part.d)), .d (.int (b : Nat)), .d (.int (i : Nat)), .d y, .d (.lst ((q :: qs).map fun q => D.int (q.1 : Nat))), .d (.int ((i + (q.2.length + 2) : Nat) : Int)), .un] _
        have hge : i + 2 ≤ i + (q.2.length + 2) := by omega
        generalize i + (q.2.length + 2) = e at hq hend hge
        refine go_cons (gs_via (fun Δ' => ∃ done2 : List Part, Δ' = [.d (.str line), .d (.tup (ps.map D.str)), .own (.lst (done2.map Part.d)), .d (.int (b : Nat)), .d (.int (i : Nat)), .d y, .d (.lst ((q :: qs).map fun q => D.int (q.1 : Nat))), .d (.int (e : Nat)), .un] ∧ done2.length ≤ done.length + 1 ∧ done2 ++ Part.slot i e q.1 :: partsGo (codes line) ps (r.length + 1) e e = partsOf (codes line) ps) (gs_ifE (et_cmp co_gt (ev_nm C 4 rfl).r (ev_nm C 3 rfl).r) (fun h => ?_) (fun h => ?_)) ?_)
        · have hbi2 : b < i := by simpa using h
          rw [if_pos hbi2] at hq
          refine go_cons (gs_append C 2 rfl (Do.of (ev_tup (ea_cons ev_str (ea_cons (ev_nm C 3 rfl) (ea_cons (ev_nm C 4 rfl) ea_nil)))) ⟨by rw [List.length_map]; omega, go_nil ?_⟩))
          refine ⟨done ++ [.text b i], ?_, by simp, by rw [← hq]; simp⟩
          rw [List.map_append]
          rfl
        · have hbi2 : ¬ b < i := by simpa using h
          rw [if_neg hbi2] at hq
          exact go_nil ⟨done, rfl, Nat.le_succ _, hq⟩
        rintro _ ⟨done2, rfl, hl2, hq2⟩
        refine go_cons (gs_append C 2 rfl (Do.of (ev_tup (ea_cons ev_str (ea_cons (ev_nm C 4 rfl) (ea_cons (ev_nm C 7 rfl) (ea_cons (ev_ix (d := .int (q.1 : Nat)) C (ev_nm C 6 rfl).r ev_int rfl (by exact atI_nat rfl)) ea_nil))))) ⟨by rw [List.length_map]; omega, ?_⟩))
        refine go_cons (gs_set C 4 (Do.of (ev_nm C 7 rfl) ?_))
        refine go_cons (gs_set C 3 (Do.of (ev_nm C 7 rfl) (go_nil (go_nil ?_))))
        refine ⟨done2 ++ [.slot i e q.1], e, e, .d y, .d (.lst ((q :: qs).map fun q => D.int (q.1 : Nat))), .d (.int (e : Nat)), ?_, Nat.le_refl _, hend, ?_, ?_, ?_⟩
        · rw [List.map_append]; rfl
        · omega
        · rw [List.length_append]; show done2.length + 1 ≤ _; omega
        · rw [List.append_assoc]; exact hq2
    · obtain ⟨done, b, i, s5, s6, s7, rfl, hbi, hil, hr, hd, hq⟩ := hJ
      have hr : line.length ≤ i + 0 := hr
      have he : i = line.length := by omega
      subst he
      have hq : done ++ partsGo (codes line) ps 1 b line.length = partsOf (codes line) ps := hq
      rw [partsGo, if_neg (by rw [codes_len]; omega)] at hq
      exact ⟨done, b, _, _, _, rfl, hd, hq⟩
  rintro _ ⟨done, b, s5, s6, s7, rfl, hd, hq⟩
  refine go_cons (gs_via (fun Δ' => ∃ done2 : List Part, Δ' = [.d (.str line), .d (.tup (ps.map D.str)), .own (.lst (done2.map Part.d)), .d (.int (b : Nat)), .d (.int (line.length : Nat)), s5, s6, s7, .un] ∧ done2 = partsOf (codes line) ps) (gs_ifE (et_cmp co_lt (ev_nm C 3 rfl).r (ev_len C 1 (ev_nm C 0 rfl).r lln T.len).r) (fun h => ?_) (fun h => ?_)) ?_)
  · have hbi2 : b < line.length := by simpa using h
    rw [if_pos hbi2] at hq
    refine go_cons (gs_append C 2 rfl (Do.of (ev_tup (ea_cons ev_str (ea_cons (ev_nm C 3 rfl) (ea_cons (ev_len C 1 (ev_nm C 0 rfl).r lln T.len) ea_nil)))) ⟨by rw [List.length_map]; omega, go_nil ?_⟩))
    refine ⟨done ++ [.text b line.length], ?_, hq⟩
    rw [List.map_append]
    rfl
  · have hbi2 : ¬ b < line.length := by simpa using h
    rw [if_neg hbi2, List.append_nil] at hq
    exact go_nil ⟨done, rfl, hq⟩
  rintro _ ⟨done2, rfl, rfl⟩
  exact go_cons (gs_ret (Do.of (ev_tuple C 2 (er_own C 2 rfl rfl) rfl T.tuple) rfl))
end
end Kn
/-! L14: the law's lines filled, the arguments' places, the places of lines. -/
namespace Kn
open PySem PySem.Spec PyProof.Rows L2
/-- a sign with its place -/
def PCell (c : Nat) (d : D) : Prop := ∃ n : Int, d = .tup [.str ⟨#[c]⟩, .int n]
def PCells (cs : List Nat) (ds : List D) : Prop := Paired PCell cs ds
def PGs (gs : List (List Nat)) (d : D) : Prop := ∃ ls : List (List D), d = .lst (ls.map D.lst) ∧ Paired PCells gs ls
theorem num_cells (at_ : Int) : ∀ (k : Nat) (cs : List Nat), PCells cs ((num k cs).map fun q => D.tup [.str ⟨#[q.2]⟩, .int (at_ + (q.1 : Nat))])
  | _, [] => .nil
  | k, c :: r => .cons ⟨_, rfl⟩ (num_cells at_ (k + 1) r)
structure PutPre (line : Str) (ps : List Str) (gs : List (List Nat)) (gd : D) : Prop where
  short : line.length ≤ 40
  pss : ∀ p ∈ ps, p.length ≤ 1000
  many : ps.length ≤ gs.length
  few : ps.length ≤ 1000
  gd : PGs gs gd
  small : ∀ g ∈ gs, g.length ≤ 400
/-- each key's place -/
def Hs (kds : List (List Key × D)) (j : List Key) : Prop := ∃ n : Int, luK kds j = some (.int n)
theorem Hs.put {kds : List (List Key × D)} {j k : List Key} {n : Int} (h : Hs kds j) : Hs (putD kds k (.int n)) j := by
  unfold Hs
  rw [luK_put]
  split
  · exact ⟨n, rfl⟩
  · exact h
theorem Hs.new {kds : List (List Key × D)} {k : List Key} {n : Int} : Hs (putD kds k (.int n)) k := by
  unfold Hs
  rw [luK_put, if_pos rfl]
  exact ⟨n, rfl⟩
section
variable {P : Program} {w : World} {K : PySem.W.Frag} {mg : Str → Option Value} {base : Heap}
theorem ok_lput (T : Tx mg) (A : At K mg "_law_put" s_l_put P_l_put) (F1 : FnD P w K mg base "_law_parts" 1 (spR K R_lparts)) (line : Str) (ps : List Str) (at_ : Int) (gs : List (List Nat)) (gd : D) (hp : PutPre line ps gs gd) :
    FnD P w K mg base "_law_put" 2 (spN K (fun ds => ds = [.str line, .int at_, .tup (ps.map D.str), gd]) fun _ d => ∃ zs, d = .lst zs ∧ PCells (fill line ps gs) zs) := by
  refine A.n sc_l_put dc_l_put (fun ds h => by subst h; rfl) fun X B H ds C hR => ?_
  subst hR
  have short := hp.short
  have pl := parts_len (codes line) ps
  have pk := parts_ok (codes line) ps
  rw [codes_len] at pl pk
  obtain ⟨ls, hgd, hgs⟩ := hp.gd
  subst hgd
  show Go X _ _ [.d (.str line), .d (.int at_), .d (.tup (ps.map D.str)), .d (.lst (ls.map D.lst)), .un, .un, .un] _
  refine go_cons (gs_new C 4 (DoF.of (ef_lst ea_nil) ?_))
  refine go_cons (gs_for C [5] (di_tup C (Do.of (ev_call C 0 F1 (ea_cons (ev_nm C 0 rfl) (ea_cons (ev_nm C 2 rfl) ea_nil)) ⟨line, ps, rfl, by omega, hp.pss, hp.few, rfl⟩) ⟨_, rfl, ?_⟩)))
  refine ⟨fun r Δ => ∃ (left : List Part) (acc : List Nat) (zs : List D) (a : Slot), r = left.map Part.d ∧ Δ = [.d (.str line), .d (.int at_), .d (.tup (ps.map D.str)), .d (.lst (ls.map D.lst)), .own (.lst zs), a, .un] ∧ (∀ p ∈ left, p.Ok line.length ps.length) ∧ zs.length + 400 * left.length ≤ 40000 ∧ PCells acc zs ∧ acc ++ fillP (codes line) gs left = fill line ps gs,
    ⟨partsOf (codes line) ps, [], [], _, rfl, rfl, pk, by simp; omega, .nil, rfl⟩, fun y r Δ2 hJ => ?_, fun Δ2 hJ => ?_⟩
  · obtain ⟨left, acc, zs, sa, hr, rfl, hk, hl, hc, hq⟩ := hJ
    cases left with
    | nil => cases hr
    | cons p left =>
      injection hr with h1 h2
      subst h1 h2
      have hp1 := hk p List.mem_cons_self
      rw [List.length_cons] at hl
      refine bd_nm C 5 ?_
      cases p with
      | text a b =>
        obtain ⟨hab, hbn⟩ := hp1
        show Go X _ _ [.d (.str line), .d (.int at_), .d (.tup (ps.map D.str)), .d (.lst (ls.map D.lst)), .own (.lst zs), .d (.tup [.str "text", .int (a : Nat), .int (b : Nat)]), .un] _
        refine go_cons (gs_ifE (et_cmp co_eqS (ev_ix C (ev_nm C 5 rfl).r ev_int rfl rfl).r ev_str.r) (fun h => by cases h) (fun _ => ?_))
        have tl : (((codes line).drop a).take (b - a)).length = b - a := by rw [List.length_take, List.length_drop, codes_len]; omega
        have nl := num_len a (((codes line).drop a).take (b - a))
        have ecount : ((b : Int) - (a : Int)).toNat = (((codes line).drop a).take (b - a)).length := by omega
        have pc := num_cells at_ a (((codes line).drop a).take (b - a))
        have hget : ∀ q ∈ num a (((codes line).drop a).take (b - a)), (codes line)[q.1]? = some q.2 := fun q hqm => by
          obtain ⟨m, hm1, hm2⟩ := num_get hqm
          rw [List.getElem?_take] at hm2
          split at hm2
          · rw [List.getElem?_drop] at hm2
            rw [hm1]; exact hm2
          · cases hm2
        have hq : acc ++ (((codes line).drop a).take (b - a) ++ fillP (codes line) gs left) = fill line ps gs := hq
        generalize ((codes line).drop a).take (b - a) = cs at tl nl ecount pc hget hq
        refine go_cons (gs_new C 4 (DoF.of (ef_cat (er_own C 4 rfl rfl) (EvF.lr (ef_lcG C .no (bk_by (own := ow_l_put_0) (vb := bv_l_put_0) (wb := bw_l_put_0) (G := bg_l_put_0) (by decide +kernel)) (by exact ⟨trivial, trivial⟩) (by trivial) (fun q : Nat × Nat => D.int (q.1 : Nat)) (fun q => [.d (.str line), .d (.int at_), .d (.tup (ps.map D.str)), .d (.lst (ls.map D.lst)), .own (.lst zs), .d (.tup [.str "text", .int (a : Nat), .int (b : Nat)]), .d (.int (q.1 : Nat))]) (fun _ => true) (fun q => D.tup [.str ⟨#[q.2]⟩, .int (at_ + (q.1 : Nat))]) (num a cs) (di_range2 C 1 (ev_ix (d := .int (a : Nat)) C (ev_nm C 5 rfl).r ev_int rfl rfl) (ev_ix (d := .int (b : Nat)) C (ev_nm C 5 rfl).r ev_int rfl rfl) (by omega) (by rw [ecount]; exact upto_num a cs) T.range) (by omega) (fun q hm Y CY => ⟨bd_nm CY 6 rfl, rfl, fun _ => ev_tup (ea_cons (ev_ixS (ev_nm CY 0 rfl) (ev_nm CY 6 rfl) (by omega) (by exact atI_nat (hget q hm))) (ea_cons (ev_add (ev_nm CY 1 rfl) (ev_nm CY 6 rfl)) ea_nil))⟩))) (by rw [List.filter_eq_self.mpr (fun _ _ => rfl), List.length_map]; omega)) ?_))
        rw [List.filter_eq_self.mpr (fun _ _ => rfl)]
        refine go_nil (go_nil ⟨left, acc ++ cs, _, _, rfl, rfl, fun p hp => hk p (List.mem_cons_of_mem _ hp), by rw [List.length_append, List.length_map]; omega, pd_app hc pc, ?_⟩)
        rw [List.append_assoc]
        exact hq
      | slot a b k =>
        have hk2 : k < ps.length := hp1
        obtain ⟨g, hg⟩ : ∃ g, gs[k]? = some g := ⟨_, List.getElem?_eq_getElem (Nat.lt_of_lt_of_le hk2 hp.many)⟩
        obtain ⟨xs, hxs, hcx⟩ := pd_get hgs hg
        have hgl := hp.small g (List.mem_of_getElem? hg)
        have hxl : xs.length ≤ 400 := by rw [← Paired.length hcx]; exact hgl
        show Go X _ _ [.d (.str line), .d (.int at_), .d (.tup (ps.map D.str)), .d (.lst (ls.map D.lst)), .own (.lst zs), .d (.tup [.str "slot", .int (a : Nat), .int (b : Nat), .int (k : Nat)]), .un] _
        refine go_cons (gs_ifE (et_cmp co_eqS (ev_ix C (ev_nm C 5 rfl).r ev_int rfl rfl).r ev_str.r) (fun _ => ?_) (fun h => by cases h))
        refine go_cons (gs_new C 4 (DoF.of (ef_cat (er_own C 4 rfl rfl) (ev_ix (d := .lst xs) C (ev_nm C 3 rfl).r (ev_ix (d := .int (k : Nat)) C (ev_nm C 5 rfl).r ev_int rfl rfl) rfl (by refine atI_nat ?_; rw [List.getElem?_map, hxs]; rfl)).r (by omega)) ?_))
        refine go_nil (go_nil ⟨left, acc ++ g, _, _, rfl, rfl, fun p hp => hk p (List.mem_cons_of_mem _ hp), by rw [List.length_append]; omega, pd_app hc hcx, ?_⟩)
        rw [List.append_assoc]
        have : gs.getD k [] = g := by rw [List.getD_eq_getElem?_getD, hg]; rfl
        rw [← this]
        exact hq
  · obtain ⟨left, acc, zs, sa, hr, rfl, hk, hl, hc, hq⟩ := hJ
    cases left with
    | cons p left => cases hr
    | nil =>
      refine go_cons (gs_kn 4 rfl rfl (gs_ret (Do.of (ev_nm C 4 rfl) ⟨zs, rfl, ?_⟩)))
      rw [← hq]
      show PCells (acc ++ []) zs
      rw [List.append_nil]; exact hc
theorem ok_larguments (T : Tx mg) (A : At K mg "_law_arguments" s_l_arguments P_l_arguments) (n : Nat) (x : Str) (as : List Str) (at_ : Int) (hx : x.length ≤ 1000) (ha : ∀ a ∈ as, a.length ≤ 1000) (hl : as.length ≤ 1000) :
    FnD P w K mg base "_law_arguments" 1 (spN K (fun ds => ds = [(Ln.use n x as).d, .int at_]) fun _ d => ∃ zs : List Int, d = .lst (zs.map D.int) ∧ zs.length = as.length) := by
  refine A.n sc_l_arguments dc_l_arguments (fun ds h => by subst h; rfl) fun X B H ds C hR => ?_
  subst hR
  show Go X _ _ [.d (.tup [.str "use", .int (n : Nat), .str x, .tup (as.map D.str)]), .d (.int at_), .un, .un, .un] _
  refine go_cons (gs_set C 2 (Do.of (ev_add (ev_add (ev_add (ev_add (ev_nm C 1 rfl) ev_int) (ev_ix C (ev_nm C 0 rfl).r ev_int rfl rfl)) (ev_len C 0 (ev_ix C (ev_nm C 0 rfl).r ev_int rfl rfl).r (.str _ (by omega)) T.len)) ev_int) ?_))
  refine go_cons (gs_new C 3 (DoF.of (ef_lst ea_nil) ?_))
  refine go_cons (gs_for C [4] (di_tup C (Do.of (ev_ix C (ev_nm C 0 rfl).r ev_int rfl rfl) ⟨_, rfl, ?_⟩)))
  refine ⟨fun r Δ => ∃ (left : List Str) (zs : List Int) (b : Int) (a : Slot), r = left.map D.str ∧ Δ = [.d (.tup [.str "use", .int (n : Nat), .str x, .tup (as.map D.str)]), .d (.int at_), .d (.int b), .own (.lst (zs.map D.int)), a] ∧ (∀ q ∈ left, q.length ≤ 1000) ∧ zs.length + left.length = as.length, ⟨as, [], _, _, rfl, rfl, ha, by simp⟩, fun y r Δ2 hJ => ?_, fun Δ2 hJ => ?_⟩
  · obtain ⟨left, zs, b, sa, hr, rfl, hs, hq⟩ := hJ
    cases left with
    | nil => cases hr
    | cons q left =>
      injection hr with h1 h2
      subst h1 h2
      have := hs q List.mem_cons_self
      rw [List.length_cons] at hq
      refine bd_nm C 4 ?_
      refine go_cons (gs_append C 3 rfl (Do.of (ev_nm C 2 rfl) ⟨by rw [List.length_map]; omega, ?_⟩))
      refine go_cons (gs_set C 2 (Do.of (ev_add (ev_add (ev_nm C 2 rfl) (ev_len C 0 (ev_nm C 4 rfl).r (.str _ (by omega)) T.len)) ev_int) (go_nil ?_)))
      refine ⟨left, zs ++ [b], b + q.length + 1, .d (.str q), rfl, ?_, fun z hz => hs z (List.mem_cons_of_mem _ hz), by rw [List.length_append]; show zs.length + 1 + _ = _; omega⟩
      rw [List.map_append]; rfl
  · obtain ⟨left, zs, b, sa, hr, rfl, hs, hq⟩ := hJ
    cases left with
    | cons q left => cases hr
    | nil => exact go_cons (gs_kn 3 rfl rfl (gs_ret (Do.of (ev_nm C 3 rfl) ⟨zs, rfl, by simpa using hq⟩)))
def post_ltext : List D → D → Prop := fun ds d => ∀ v, ds = [webD v] → ∃ (t : Str) (kds : List (List Key × D)), d = .tup [.str t, .dit kds] ∧ Placed v kds
theorem ok_ltext (T : Tx mg) (A : At K mg "_law_text" s_l_text P_l_text) : FnD P w K mg base "_law_text" 1 (spN K pre_web post_ltext) := by
  refine A.n sc_l_text dc_l_text (fun ds h => by obtain ⟨_, rfl, _⟩ := h; rfl) fun X B H ds C hR => ?_
  obtain ⟨v, rfl, hv⟩ := hR
  have few := hv.few
  show Go X _ _ [.d (webD v), .un, .un, .un, .un, .un, .un, .un, .un] _
  have hlen : LenD (webD v) (v.map Se.d).length := .tup _
  refine go_cons (gs_set C 1 (Do.of ev_str ?_))
  refine go_cons (gs_new C 2 (DoF.of ef_dit0 ?_))
  refine go_cons (gs_for C [3] (di_range C 0 (Do.of (ev_len C 1 (ev_nm C 0 rfl).r hlen T.len) ⟨v.length, by rw [List.length_map], by omega, ?_⟩) T.range))
  refine ⟨fun r Δ => ∃ (ss pre : List Se) (t : Str) (kds : List (List Key × D)) (a3 a4 a5 a6 a7 a8 : Slot), r = upto (pre.length : Nat) ss.length ∧ v = pre ++ ss ∧ Δ = [.d (webD v), .d (.str t), .own (.dT kds), a3, a4, a5, a6, a7, a8] ∧ t.length ≤ 2500 * pre.length ∧ kds.length ≤ 20 * pre.length ∧ (∀ (i : Nat) (s : Se) (k : Nat) (l : Ln), i < pre.length → v[i]? = some s → s.code[k]? = some l → Hs kds [.inl (i : Int), .inr "code", .inl (k : Int)]), ⟨v, [], _, _, _, _, _, _, _, _, rfl, rfl, rfl, Nat.zero_le _, Nat.zero_le _, fun i s k l hi => by cases hi⟩, fun y r Δ2 hJ => ?_, fun Δ2 hJ => ?_⟩
  · obtain ⟨ss, pre, t, kds, a3, a4, a5, a6, a7, a8, hr, hv2, rfl, ht, hkl, hpl⟩ := hJ
    cases ss with
    | nil => cases hr
    | cons s ss =>
      rw [List.length_cons, upto_succ] at hr
      injection hr with h1 h2
      subst h1 h2
      have hpre : pre.length ≤ 12 := by rw [hv2, List.length_append] at few; omega
      have hat : v[pre.length]? = some s := by rw [hv2, List.getElem?_append_right (Nat.le_refl _), Nat.sub_self]; rfl
      have hs : s ∈ v := by rw [hv2]; simp
      have sok := hv.se s hs
      have h8 := sok.short
      have p8 := sok.few
      have hsd : atI (v.map Se.d) (pre.length : Int) = some s.d := atI_nat (by rw [List.getElem?_map, hat]; rfl)
      refine bd_nm C 3 ?_
      refine go_cons (gs_asg [4, 5, 6] (Do.of (ev_ix C (ev_nm C 0 rfl).r (ev_nm C 3 rfl) rfl hsd) (bd_tup C (bs_cons (bd_nm C 4 (bs_cons (bd_nm C 5 (bs_cons (bd_nm C 6 (bs_nil ?_))))))))))
      refine go_cons (gs_set C 1 (Do.of (ev_cats (ev_nm C 1 rfl) ev_str (by show t.length + 2 ≤ _; omega)) ?_))
      have lt0 : (t ++ "@\n" : Str).length ≤ 2500 * pre.length + 2 := by rw [len_app]; show t.length + 2 ≤ _; omega
      generalize (t ++ "@\n" : Str) = t at lt0
      show Go X _ _ [.d (webD v), .d (.str t), .own (.dT kds), .d (.int (pre.length : Nat)), .d (.tup (s.prose.map D.str)), .d (hdD s.head), .d (.tup (s.code.map Ln.d)), a7, a8] _
      have lprose : LenD (.tup (s.prose.map D.str)) (s.prose.map D.str).length := .tup _
      have lcode : LenD (.tup (s.code.map Ln.d)) (s.code.map Ln.d).length := .tup _
      refine go_cons (gs_via (fun Δ' => ∃ (t : Str) (kds : List (List Key × D)) (a7 : Slot), Δ' = [.d (webD v), .d (.str t), .own (.dT kds), .d (.int (pre.length : Nat)), .d (.tup (s.prose.map D.str)), .d (hdD s.head), .d (.tup (s.code.map Ln.d)), a7, a8] ∧ t.length ≤ 2500 * pre.length + 2 + 336 ∧ kds.length ≤ 20 * pre.length + 8 ∧ (∀ (i : Nat) (s : Se) (k : Nat) (l : Ln), i < pre.length → v[i]? = some s → s.code[k]? = some l → Hs kds [.inl (i : Int), .inr "code", .inl (k : Int)])) (gs_for C [7] (di_range C 0 (Do.of (ev_len C 1 (ev_nm C 4 rfl).r lprose T.len) ⟨s.prose.length, by rw [List.length_map], by omega, ?_⟩) T.range)) ?_)
      · refine ⟨fun r Δ => ∃ (ls kp : List Str) (t : Str) (kds : List (List Key × D)) (a7 : Slot), r = upto (kp.length : Nat) ls.length ∧ s.prose = kp ++ ls ∧ Δ = [.d (webD v), .d (.str t), .own (.dT kds), .d (.int (pre.length : Nat)), .d (.tup (s.prose.map D.str)), .d (hdD s.head), .d (.tup (s.code.map Ln.d)), a7, a8] ∧ t.length ≤ 2500 * pre.length + 2 + 42 * kp.length ∧ kds.length ≤ 20 * pre.length + kp.length ∧ (∀ (i : Nat) (s : Se) (k : Nat) (l : Ln), i < pre.length → v[i]? = some s → s.code[k]? = some l → Hs kds [.inl (i : Int), .inr "code", .inl (k : Int)]), ⟨s.prose, [], t, kds, _, rfl, rfl, rfl, lt0, hkl, hpl⟩, fun y r Δ2 hJ => ?_, fun Δ2 hJ => ?_⟩
        · obtain ⟨ls, kp, t, kds, a7, hr, hc2, rfl, ht, hkl, hpl⟩ := hJ
          cases ls with
          | nil => cases hr
          | cons q ls =>
            rw [List.length_cons, upto_succ] at hr
            injection hr with h1 h2
            subst h1 h2
            have hkp : kp.length < 8 := by rw [hc2, List.length_append, List.length_cons] at p8; omega
            have hcat : s.prose[kp.length]? = some q := by rw [hc2, List.getElem?_append_right (Nat.le_refl _), Nat.sub_self]; rfl
            have hq40 := (sok.prose q (List.mem_of_getElem? hcat)).len
            have hqd : atI (s.prose.map D.str) (kp.length : Int) = some (.str q) := atI_nat (by rw [List.getElem?_map, hcat]; rfl)
            have pl := putD_len kds [.inl (pre.length : Int), .inr "prose", .inl (kp.length : Int)] (.int (t.length : Nat))
            refine bd_nm C 7 ?_
            refine go_cons (gs_dputT C 2 [.inl (pre.length : Int), .inr "prose", .inl (kp.length : Int)] rfl (ev_len C 1 (ev_nm C 1 rfl).r (.str _ (by omega)) T.len) (ev_tup (ea_cons (ev_nm C 3 rfl) (ea_cons ev_str (ea_cons (ev_nm C 7 rfl) ea_nil)))) (by omega) ?_)
            refine go_cons (gs_set C 1 (Do.of (ev_cats (ev_cats (ev_cats (ev_nm C 1 rfl) ev_str (by show t.length + 1 ≤ _; omega)) (ev_ix C (ev_nm C 4 rfl).r (ev_nm C 7 rfl) rfl hqd) (by rw [len_app]; show t.length + 1 + _ ≤ _; omega)) ev_str (by rw [len_app, len_app]; show t.length + 1 + _ + 1 ≤ _; omega)) (go_nil ?_)))
            refine ⟨ls, kp ++ [q], _, _, _, by rw [List.length_append]; rfl, by rw [hc2, List.append_assoc]; rfl, rfl, ?_, by rw [List.length_append, List.length_singleton]; omega, fun i s k l h1 h2 h3 => (hpl i s k l h1 h2 h3).put⟩
            rw [len_app, len_app, len_app, List.length_append, List.length_singleton]
            show t.length + 1 + _ + 1 ≤ _
            omega
        · obtain ⟨ls, kp, t, kds, a7, hr, hc2, rfl, ht, hkl, hpl⟩ := hJ
          have hkp : kp.length ≤ 8 := by rw [hc2, List.length_append] at p8; omega
          exact ⟨t, kds, _, rfl, by omega, by omega, hpl⟩
      rintro _ ⟨t, kds, a7, rfl, ht, hkl, hpl⟩
      refine go_cons (gs_via (fun Δ' => ∃ (t : Str) (kds : List (List Key × D)), Δ' = [.d (webD v), .d (.str t), .own (.dT kds), .d (.int (pre.length : Nat)), .d (.tup (s.prose.map D.str)), .d (hdD s.head), .d (.tup (s.code.map Ln.d)), a7, a8] ∧ t.length ≤ 2500 * pre.length + 500 ∧ kds.length ≤ 20 * pre.length + 9 ∧ (∀ (i : Nat) (s : Se) (k : Nat) (l : Ln), i < pre.length → v[i]? = some s → s.code[k]? = some l → Hs kds [.inl (i : Int), .inr "code", .inl (k : Int)])) ?_ ?_)
      · cases hh : s.head with
        | none =>
          exact gs_ifE (et_cmp co_isnot (ev_nm (d := .non) C 5 rfl).r ev_non.r) (fun h => by cases h) (fun _ => go_nil ⟨t, kds, rfl, by omega, by omega, hpl⟩)
        | some h =>
          have hok := sok.head h hh
          have hnl := hok.name.le
          have psum := par_sum hok
          have pl := putD_len kds [.inl (pre.length : Int), .inr "head", .inl 0] (.int (t.length : Nat))
          have jl := join_len "," h.params
          have e1 : ("," : Str).length = 1 := rfl
          rw [e1] at jl
          have hch : ∃ z : Str, atI [D.str "=", D.str "*"] (if h.file then 1 else 0) = some (.str z) ∧ z.length = 1 := by
            cases h.file
            · exact ⟨"=", rfl, rfl⟩
            · exact ⟨"*", rfl, rfl⟩
          obtain ⟨z, hz, hz1⟩ := hch
          refine gs_ifE (et_cmp co_isnot (ev_nm (d := h.d) C 5 rfl).r ev_non.r) (fun _ => ?_) (fun h => by cases h)
          refine go_cons (gs_dputT C 2 [.inl (pre.length : Int), .inr "head", .inl 0] rfl (ev_len C 1 (ev_nm C 1 rfl).r (.str _ (by omega)) T.len) (ev_tup (ea_cons (ev_nm C 3 rfl) (ea_cons ev_str (ea_cons ev_int ea_nil)))) (by omega) ?_)
          refine go_cons (gs_set C 1 (Do.of (ev_cats (ev_cats (ev_cats (ev_cats (ev_cats (ev_nm C 1 rfl) (ev_ix C (EvF.lr (ef_lst (ea_cons ev_str (ea_cons ev_str ea_nil)))) (ev_intB C 2 (ev_ix (d := .bl h.file) (d1 := h.d) C (ev_nm C 5 rfl).r ev_int rfl rfl) T.int) rfl hz) (by omega)) (ev_ix (d := .str h.name) (d1 := h.d) C (ev_nm C 5 rfl).r ev_int rfl rfl) (by rw [len_app]; omega)) ev_str (by rw [len_app, len_app]; show _ + 1 ≤ _; omega)) (ev_join C ev_str (ev_ix (d := .tup (h.params.map D.str)) (d1 := h.d) C (ev_nm C 5 rfl).r ev_int rfl rfl).r (.inr rfl) (by show _ + _ * 1 ≤ _; omega)) (by rw [len_app, len_app, len_app]; show _ + 1 + _ ≤ _; omega)) ev_str (by rw [len_app, len_app, len_app, len_app]; show _ + 1 + _ + 2 ≤ _; omega)) (go_nil ?_)))
          refine ⟨_, _, rfl, ?_, by omega, fun i s k l h1 h2 h3 => (hpl i s k l h1 h2 h3).put⟩
          rw [len_app, len_app, len_app, len_app, len_app]
          show _ + 1 + _ + 2 ≤ _
          omega
      rintro _ ⟨t, kds, rfl, ht, hkl, hpl⟩
      refine go_cons (gs_for C [7] (di_range C 0 (Do.of (ev_len C 1 (ev_nm C 6 rfl).r lcode T.len) ⟨s.code.length, by rw [List.length_map], by omega, ?_⟩) T.range))
      refine ⟨fun r Δ => ∃ (ls kp : List Ln) (t : Str) (kds : List (List Key × D)) (a7 a8 : Slot), r = upto (kp.length : Nat) ls.length ∧ s.code = kp ++ ls ∧ Δ = [.d (webD v), .d (.str t), .own (.dT kds), .d (.int (pre.length : Nat)), .d (.tup (s.prose.map D.str)), .d (hdD s.head), .d (.tup (s.code.map Ln.d)), a7, a8] ∧ t.length ≤ 2500 * pre.length + 500 + 201 * kp.length ∧ kds.length ≤ 20 * pre.length + 9 + kp.length ∧ (∀ (i : Nat) (s : Se) (k : Nat) (l : Ln), i < pre.length → v[i]? = some s → s.code[k]? = some l → Hs kds [.inl (i : Int), .inr "code", .inl (k : Int)]) ∧ (∀ k : Nat, k < kp.length → Hs kds [.inl (pre.length : Int), .inr "code", .inl (k : Int)]), ⟨s.code, [], t, kds, _, _, rfl, rfl, rfl, ht, hkl, hpl, fun k hk => by cases hk⟩, fun y r Δ2 hJ => ?_, fun Δ2 hJ => ?_⟩
      · obtain ⟨ls, kp, t, kds, a7, a8, hr, hc2, rfl, ht, hkl, hpl, hkk⟩ := hJ
        cases ls with
        | nil => cases hr
        | cons l ls =>
          rw [List.length_cons, upto_succ] at hr
          injection hr with h1 h2
          subst h1 h2
          have hkp : kp.length < 8 := by rw [hc2, List.length_append, List.length_cons] at h8; omega
          have hcat : s.code[kp.length]? = some l := by rw [hc2, List.getElem?_append_right (Nat.le_refl _), Nat.sub_self]; rfl
          have lok := sok.code l (List.mem_of_getElem? hcat)
          have hld : atI (s.code.map Ln.d) (kp.length : Int) = some l.d := atI_nat (by rw [List.getElem?_map, hcat]; rfl)
          have pl := putD_len kds [.inl (pre.length : Int), .inr "code", .inl (kp.length : Int)] (.int (t.length : Nat))
          refine bd_nm C 7 ?_
          refine go_cons (gs_dputT C 2 [.inl (pre.length : Int), .inr "code", .inl (kp.length : Int)] rfl (ev_len C 1 (ev_nm C 1 rfl).r (.str _ (by omega)) T.len) (ev_tup (ea_cons (ev_nm C 3 rfl) (ea_cons ev_str (ea_cons (ev_nm C 7 rfl) ea_nil)))) (by omega) ?_)
          refine go_cons (gs_set C 8 (Do.of (ev_ix C (ev_nm C 6 rfl).r (ev_nm C 7 rfl) rfl hld) ?_))
          have step : ∀ t2 : Str, t2.length ≤ t.length + 201 → ∃ (ls2 kp2 : List Ln) (t3 : Str) (kds3 : List (List Key × D)) (a7 a8 : Slot), upto ((kp.length : Int) + 1) ls.length = upto (kp2.length : Nat) ls2.length ∧ s.code = kp2 ++ ls2 ∧ ([.d (webD v), .d (.str t2), .own (.dT (putD kds [.inl (pre.length : Int), .inr "code", .inl (kp.length : Int)] (.int (t.length : Nat)))), .d (.int (pre.length : Nat)), .d (.tup (s.prose.map D.str)), .d (hdD s.head), .d (.tup (s.code.map Ln.d)), .d (.int (kp.length : Nat)), .d l.d] : List Slot) = [.d (webD v), .d (.str t3), .own (.dT kds3), .d (.int (pre.length : Nat)), .d (.tup (s.prose.map D.str)), .d (hdD s.head), .d (.tup (s.code.map Ln.d)), a7, a8] ∧ t3.length ≤ 2500 * pre.length + 500 + 201 * kp2.length ∧ kds3.length ≤ 20 * pre.length + 9 + kp2.length ∧ (∀ (i : Nat) (s : Se) (k : Nat) (l : Ln), i < pre.length → v[i]? = some s → s.code[k]? = some l → Hs kds3 [.inl (i : Int), .inr "code", .inl (k : Int)]) ∧ (∀ k : Nat, k < kp2.length → Hs kds3 [.inl (pre.length : Int), .inr "code", .inl (k : Int)]) := fun t2 ht2 => by
            refine ⟨ls, kp ++ [l], t2, _, _, _, by rw [List.length_append]; rfl, by rw [hc2, List.append_assoc]; rfl, rfl, by rw [List.length_append, List.length_singleton]; omega, by rw [List.length_append, List.length_singleton]; omega, fun i s k l h1 h2 h3 => (hpl i s k l h1 h2 h3).put, fun k hk => ?_⟩
            rw [List.length_append, List.length_singleton] at hk
            by_cases e : k = kp.length
            · subst e; exact Hs.new
            · exact (hkk k (by omega)).put
          show Go X _ _ [.d (webD v), .d (.str t), .own (.dT (putD kds [.inl (pre.length : Int), .inr "code", .inl (kp.length : Int)] (.int (t.length : Nat)))), .d (.int (pre.length : Nat)), .d (.tup (s.prose.map D.str)), .d (hdD s.head), .d (.tup (s.code.map Ln.d)), .d (.int (kp.length : Nat)), .d l.d] _
          cases l with
          | plain z =>
            have hz : z.length ≤ 40 := LineOk.len lok
            refine go_cons (gs_ifE (et_cmp co_eqS (ev_ix (d := .str "plain") C (ev_nm C 8 rfl).r ev_int rfl rfl).r ev_str.r) (fun _ => ?_) (fun h => by cases h))
            refine go_cons (gs_set C 1 (Do.of (ev_cats (ev_cats (ev_cats (ev_nm C 1 rfl) ev_str (by show t.length + 1 ≤ _; omega)) (ev_ix (d := .str z) C (ev_nm C 8 rfl).r ev_int rfl rfl) (by rw [len_app]; show t.length + 1 + _ ≤ _; omega)) ev_str (by rw [len_app, len_app]; show t.length + 1 + _ + 1 ≤ _; omega)) (go_nil (go_nil (step _ ?_)))))
            rw [len_app, len_app, len_app]
            show t.length + 1 + _ + 1 ≤ _
            omega
          | use n x as =>
            obtain ⟨hn, hx, ha3, haa⟩ := (show n ≤ 20 ∧ WordOk x ∧ as.length ≤ 3 ∧ ∀ a ∈ as, ArgOk a from lok)
            have hx8 := hx.le
            have asum := arg_sum ha3 haa
            have jl := join_len "," as
            have e1 : ("," : Str).length = 1 := rfl
            rw [e1] at jl
            have rl := rep_len 32 n
            refine go_cons (gs_ifE (et_cmp co_eqS (ev_ix (d := .str "use") C (ev_nm C 8 rfl).r ev_int rfl rfl).r ev_str.r) (fun h => by cases h) (fun _ => ?_))
            refine go_cons (gs_set C 1 (Do.of (ev_cats (ev_cats (ev_cats (ev_cats (ev_cats (ev_cats (ev_nm C 1 rfl) ev_str (by show t.length + 1 ≤ _; omega)) (ev_rep (c := 32) (n := n) ev_str (ev_ix (d := .int (n : Nat)) C (ev_nm C 8 rfl).r ev_int rfl rfl) (by omega)) (by rw [len_app, rl]; show t.length + 1 + _ ≤ _; omega)) (ev_ix (d := .str x) C (ev_nm C 8 rfl).r ev_int rfl rfl) (by rw [len_app, len_app, rl]; show t.length + 1 + _ + _ ≤ _; omega)) ev_str (by rw [len_app, len_app, len_app, rl]; show t.length + 1 + _ + _ + 1 ≤ _; omega)) (ev_join C ev_str (ev_ix (d := .tup (as.map D.str)) C (ev_nm C 8 rfl).r ev_int rfl rfl).r (.inr rfl) (by show _ + _ * 1 ≤ _; omega)) (by rw [len_app, len_app, len_app, len_app, rl]; show t.length + 1 + _ + _ + 1 + _ ≤ _; omega)) ev_str (by rw [len_app, len_app, len_app, len_app, len_app, rl]; show t.length + 1 + _ + _ + 1 + _ + 2 ≤ _; omega)) (go_nil (go_nil (step _ ?_)))))
            rw [len_app, len_app, len_app, len_app, len_app, len_app, rl]
            show t.length + 1 + _ + _ + 1 + _ + 2 ≤ _
            omega
      · obtain ⟨ls, kp, t, kds, a7, a8, hr, hc2, rfl, ht, hkl, hpl, hkk⟩ := hJ
        cases ls with
        | cons l ls => cases hr
        | nil =>
          have hkp : kp.length ≤ 8 := by rw [hc2, List.length_append] at h8; omega
          refine go_nil ⟨ss, pre ++ [s], t, kds, _, _, _, _, _, _, by rw [List.length_append]; rfl, by rw [hv2, List.append_assoc]; rfl, rfl, by rw [List.length_append, List.length_singleton]; omega, by rw [List.length_append, List.length_singleton]; omega, fun i s2 k l h1 h2 h3 => ?_⟩
          rw [List.length_append, List.length_singleton] at h1
          by_cases e : i = pre.length
          · subst e
            rw [hat] at h2
            cases h2
            refine hkk k ?_
            rw [List.append_nil] at hc2
            rw [← hc2]
            exact (List.getElem?_eq_some_iff.mp h3).1
          · exact hpl i s2 k l (by omega) h2 h3
  · obtain ⟨ss, pre, t, kds, a3, a4, a5, a6, a7, a8, hr, hv2, rfl, ht, hkl, hpl⟩ := hJ
    cases ss with
    | cons s ss => cases hr
    | nil =>
      rw [List.append_nil] at hv2
      subst hv2
      refine go_cons (gs_kn 2 rfl rfl (gs_ret (Do.of (ev_tup (ea_cons (ev_nm C 1 rfl) (ea_cons (ev_nm C 2 rfl) ea_nil))) fun v2 e => ?_)))
      have e2 := webD_inj (List.cons.inj e).1
      subst e2
      exact ⟨t, kds, rfl, fun i s k l h1 h2 => hpl i s k l (List.getElem?_eq_some_iff.mp h1).1 h1 h2⟩
end
end Kn
/-! K24: a room, a list of one number that callers share, handed on last. -/
namespace Kn
open PySem PySem.Spec PyProof.Rows L2
/-- a room last -/
def spQ (K : PySem.W.Frag) (pre : List D → Prop) (post : List D → D → Prop) : Sp := fun vs H Q _ => ∃ B p ws ds, vs = ws ++ [.ref p] ∧ Ex B H ∧ B p = none ∧ OHas K B H p (.pool p .none) ∧ DnL K B ws ds ∧ pre ds ∧
  ∀ v B' H' d, post ds d → Rn [p] B H B' H' → Ex B' H' → OHas K B' H' p (.pool p .none) → Dn K B' v d → Q v H'
def startQ (N : List Str) (l : Addr) (ds : List D) : List Slot := ds.map .d ++ (.own (.pool l .none) :: List.replicate (N.length - (ds.length + 1)) .un)
section
variable {X : Cx} {E : En} {N G : List Str} {vb wb : List Bool} {sc : Scope} {k : Nat} {Δ Δ' : List Slot} {d d1 d2 d3 : D} {a b c e : Expr} {pos p0 px py p : Pos} {j : Nat} {es : List Expr} {ds : List D} {x y : Str} {l : Addr}
theorem startQ_sees {P : Program} {w : World} {K : PySem.W.Frag} {mg : Str → Option Value} {base : Heap} {B H : Hp} {vs : List V} (e : Ex B H) (hl : B l = none) (ho : OHas K B H l (.pool l .none)) (r : DnL K B vs ds) : Sees ⟨P, w, K, mg, base, [l], B, H⟩ (startQ N l ds) (L2.start N (vs ++ [.ref l])) B H := by
  have rl := r.length
  have cases3 : ∀ {i : Nat} {s : Slot}, (startQ N l ds)[i]? = some s → (∃ x, i < ds.length ∧ ds[i]? = some x ∧ s = .d x) ∨ (i = ds.length ∧ s = .own (.pool l .none)) ∨ s = .un := fun {i s} h => by
    unfold startQ at h
    by_cases hi : i < ds.length
    · rw [List.getElem?_append_left (by simpa using hi), List.getElem?_map] at h
      cases hd : ds[i]? with
      | none => rw [hd] at h; cases h
      | some x => rw [hd] at h; exact .inl ⟨x, hi, rfl, (Option.some.inj h).symm⟩
    · rw [List.getElem?_append_right (by simpa using hi), List.length_map] at h
      cases hj : i - ds.length with
      | zero => rw [hj] at h; exact .inr (.inl ⟨by omega, (Option.some.inj h).symm⟩)
      | succ m =>
        rw [hj, List.getElem?_cons_succ, List.getElem?_replicate] at h
        split at h
        · exact .inr (.inr (Option.some.inj h).symm)
        · cases h
  have own : ∀ {i : Nat} {o : O}, (startQ N l ds)[i]? = some (.own o) → i = ds.length := fun {i o} h => by
    rcases cases3 h with ⟨x, _, _, e⟩ | ⟨e, _⟩ | e
    · cases e
    · exact e
    · cases e
  refine ⟨e, Rn.refl, fun i s hs => ?_, fun i j o p l h1 h2 _ _ => (own h1).trans (own h2).symm⟩
  rcases cases3 hs with ⟨x, hi, hd, rfl⟩ | ⟨rfl, rfl⟩ | rfl
  · obtain ⟨v, hv, rv⟩ := r.get hd
    refine ⟨v, ?_, rv⟩
    unfold L2.start
    rw [List.getElem?_append_left (by rw [List.length_map, List.length_append]; omega), List.getElem?_map, List.getElem?_append_left (by omega), hv]
    rfl
  · refine ⟨l, ?_, hl, .inr ⟨⟨l, .none, rfl⟩, by simp⟩, ho⟩
    unfold L2.start
    rw [List.getElem?_append_left (by rw [List.length_map, List.length_append, List.length_singleton]; omega), List.getElem?_map, List.getElem?_append_right (by omega), rl, Nat.sub_self]
    rfl
  · trivial
section
variable {P : Program} {w : World} {K : PySem.W.Frag} {mg : Str → Option Value} {base : Heap} {qual : Str} {st : Stmt} {f : Addr} {fd : FuncData} {ps : List Str}
theorem ok_Q {pre : List D → Prop} {post : List D → D → Prop} (F : Fun K x qual st f fd) (S : FnScope N ps (defScope st)) (dc : DfC N (defScope st) vb wb G) (len : ∀ ds, pre ds → ds.length + 1 = ps.length)
    (body : ∀ X B H l ds, Cz ⟨P, w, K, mg, base, [l], B, H⟩ N vb wb G (defScope st) k X → pre ds → Go X ⟨P, w, K, mg, base, [l], B, H⟩ (defBody st) (startQ N l ds) { nx := fun _ => False, rt := fun d Δ => post ds d ∧ Δ[ds.length]? = some (.own (.pool l .none)) }) : FnOk P w K mg base CX0 (k + 1) f fd ps (spQ K pre post) := by
  refine F.ok S (fun vs H Q E h => ?_) fun cdv A outer s H vs Q E0 hr h => ?_
  · obtain ⟨B, p, ws, ds, rfl, _, _, _, r, hR, _⟩ := h
    rw [List.length_append, List.length_singleton, r.length]; exact len ds hR
  · obtain ⟨B, l, ws, ds, rfl, hs, hl, ho, r, hR, q⟩ := h
    refine ⟨_, pss_W _, body _ B H l ds (cz_of S dc hr) hR _ B H (startQ_sees hs hl ho r) _ ⟨fun σ' B' H' Δ' x S' h => h.elim, fun _ _ _ _ _ _ h => h.elim, fun _ _ _ _ _ _ h => h.elim, fun v σ' B' H' d' Δ' x S' rv h => ?_, fun l σ' B' H' o' Δ' x S' hE hB r h => h.elim⟩⟩
    obtain ⟨l', _, _, _, ho'⟩ := S'.own h.2
    have e : l' = l := ho'.1
    subst e
    exact q v B' H' d' h.1 S'.rn S'.sub ho' rv
theorem At.q {pre : List D → Prop} {post : List D → D → Prop} (A : At K mg x st ps) (S : FnScope N ps (defScope st)) (dc : DfC N (defScope st) vb wb G) (len : ∀ ds, pre ds → ds.length + 1 = ps.length)
    (body : ∀ X B H l ds, Cz ⟨P, w, K, mg, base, [l], B, H⟩ N vb wb G (defScope st) k X → pre ds → Go X ⟨P, w, K, mg, base, [l], B, H⟩ (defBody st) (startQ N l ds) { nx := fun _ => False, rt := fun d Δ => post ds d ∧ Δ[ds.length]? = some (.own (.pool l .none)) }) : FnD P w K mg base x (k + 1) (spQ K pre post) := by
  obtain ⟨f, fd, F, g, b⟩ := A.ex
  exact ⟨f, fd, ps, g, F.kp, b, ok_Q F S dc len body⟩
end
/-- room[0] -/
theorem do_room {P : D → Prop} (C : Cz E N vb wb G sc k X) (i : Nat) (hi : Δ[i]? = some (.own (.pool l .none))) (hP : ∀ n : Int, P (.int n)) (hv : vb[i]? = some true := by rfl) (hN : N[i]? = some y := by rfl) : Do X E (.Subscript (.Name y px) (.Constant (.int 0) j p0) pos) Δ P := fun σ B H S Q q => by
  obtain ⟨h1, h2, h3⟩ := C.vis i y hv hN
  obtain ⟨l', el, nB, mE, e0, n, hl⟩ := S.own hi
  refine WE.of (pe_ix ix_seq (pe_var (i := i) (by rw [C.hN]; exact hN) h1 h2 h3) pe_int (fun _ _ => rfl)) ⟨.ref l', el, .inl ⟨l', [.int n], 0, .int n, rfl, rfl, SqL.of hl, rfl, q _ B H _ (.of (Pg.refl S.sub)) S (.int n) (hP n)⟩⟩
/-- room[0] = e -/
theorem gs_room (C : Cz E N vb wb G sc k X) (i : Nat) {P : Ps} (hi : Δ[i]? = some (.own (.pool l .none))) (he : Do X E e Δ fun d => ∃ n : Int, d = .int n) (hP : P.nx Δ) (hv : vb[i]? = some true := by rfl) (hN : N[i]? = some y := by rfl)
    {pos2 spos : Pos} (hs : swapsWithSole [.Subscript (.Name y px) (.Constant (.int 0) j p0) pos2] e spos.line X.env = pure false := by rfl) (hw : swappedStores [.Subscript (.Name y px) (.Constant (.int 0) j p0) pos2] e X.env = pure none := by rfl) (h1' : (assignEach [.Subscript (.Name y px) (.Constant (.int 0) j p0) pos2] X.env).map (·.2) = [assign (.Subscript (.Name y px) (.Constant (.int 0) j p0) pos2) X.env] := by rfl)
    (ha : ∀ v, assign (.Subscript (.Name y px) (.Constant (.int 0) j p0) pos2) X.env v = (do
      let ov ← holding [v] (eval (.Name y px) X.env)
      let iv ← holding [v, ov] (eval (.Constant (.int 0) j p0) X.env)
      standAt pos2
      holding [v, ov, iv] (setItem ov iv v)
      release [v, ov, iv] []) := by intro _; rfl) : GoS X E (.Assign [.Subscript (.Name y px) (.Constant (.int 0) j p0) pos2] e spos) Δ P := fun σ B H S D0 M => by
  obtain ⟨h1, h2, h3⟩ := C.vis i y hv hN
  refine WS.of (ps_asg (pe_W e) (pg_sub (pe_var (i := i) (by rw [C.hN]; exact hN) h1 h2 h3) (pe_W (.Constant (.int 0) j p0)) set_list ha) hs hw h1') ?_
  refine he σ B H S _ fun v B1 H1 d x1 S1 r1 ⟨n, hd⟩ => ?_
  subst hd
  cases r1
  obtain ⟨l0, el0, _⟩ := S.own hi
  refine ⟨.ref l0, el0, ev_int σ B1 H1 S1 _ fun u B2 H2 p2 r2 => ?_⟩
  cases r2
  have S2 := S1.step p2
  obtain ⟨l', el, nB, mE, e0, n0, hl⟩ := S2.own hi
  rw [el0] at el; cases el
  have e1 : Δ.set i (.own (.pool l .none)) = Δ := by
    refine List.ext_getElem? fun j => ?_
    by_cases q : i = j
    · subst q; rw [set_has hi, hi]
    · rw [List.getElem?_set_ne q]
  have S3 := S2.put (p := .pool l .none) (u := .lst [.int n]) hi el0 ⟨e0, n, upd_same⟩ fun m c h => ⟨l, .none, rfl⟩
  rw [e1] at S3
  exact ⟨l0, [.int n0], 0, 0, rfl, rfl, hl, rfl, M.nx σ B2 _ _ (x1.eb.trans p2.eb) S3 hP⟩
/-- arguments, the room last -/
def DoQ (X : Cx) (E : En) (es : List Expr) (Δ : List Slot) (l : Addr) (P : List D → Prop) : Prop := ∀ σ B H, Sees E Δ σ B H → ∀ Q : List V → Hp → Prop, (∀ ws B' H' ds, Pp Δ σ B H B' H' → Sees E Δ σ B' H' → DnL E.K B' ws ds → P ds → Q (ws ++ [.ref l]) H') → WA X es σ H Q
theorem dq_last (C : Cz E N vb wb G sc k X) (i : Nat) {P : List D → Prop} (hi : Δ[i]? = some (.own (.pool l .none))) (hP : P []) (hv : vb[i]? = some true := by rfl) (hN : N[i]? = some y := by rfl) (hs : starEach [.Name y py] X.env = (false, eval (.Name y py) X.env) :: starEach [] X.env := by rfl) : DoQ X E [.Name y py] Δ l P := fun σ B H S Q q => by
  obtain ⟨h1, h2, h3⟩ := C.vis i y hv hN
  obtain ⟨l', el, nB, mE, e0, n, hl⟩ := S.own hi
  have e0 : l' = l := e0
  subst e0
  exact WA.of (pa_cons (pe_var (i := i) (by rw [C.hN]; exact hN) h1 h2 h3) pa_nil hs) ⟨.ref l', el, q [] B H [] (.of (Pg.refl S.sub)) S .nil hP⟩
theorem dq_cons {P : List D → Prop} (h : Do X E a Δ fun d => DoQ X E es Δ l fun ds => P (d :: ds)) (hs : starEach (a :: es) X.env = (false, eval a X.env) :: starEach es X.env := by rfl) : DoQ X E (a :: es) Δ l P := fun σ B H S Q q =>
  WA.of (pa_cons (pe_W a) (pa_W es) hs) (h σ B H S _ fun v B1 H1 d x1 S1 r1 h1 => h1 σ B1 H1 S1 _ fun vs B2 H2 ds x2 S2 r2 h2 => q (v :: vs) B2 H2 (d :: ds) (x1.trans x2) S2 (.cons (r1.mono x2.eb) r2) h2)
theorem do_callQ (C : Cz E N vb wb G sc k X) (i n : Nat) {pre : List D → Prop} {post : List D → D → Prop} {P : D → Prop} (F : FnD E.P E.w E.K E.mg E.base x j (spQ E.K pre post)) (hpool : Δ[n]? = some (.own (.pool l .none)))
    (ha : DoQ X E (a :: es) Δ l fun ds => pre ds ∧ ∀ d, post ds d → P d) (hj : j ≤ k := by decide) (hG : G[i]? = some x := by rfl)
    (he : starEach (a :: es) X.env = (false, eval a X.env) :: starEach es X.env := by rfl) (hpl : (backTo pos (starEach es X.env)).any (·.1) = false := by rfl) : Do X E (.Call (.Name x p) (a :: es) [] pos) Δ P := fun σ B H S Q q => by
  obtain ⟨h1, h2⟩ := C.gl i x hG
  obtain ⟨f, fd, ps, g1, g2, g3, g4⟩ := F.run C
  refine WE.of (pe_call g4 (C.room.mono hj) h1 g1 g2 g3 .nil pass0 (pa_W (a :: es)) h2 he hpl) ?_
  refine ha σ B H S _ fun ws B1 H1 ds x1 S1 r1 ⟨hpre, hpost⟩ => ?_
  obtain ⟨l', el, nB, mE, ho⟩ := S1.own hpool
  have e0 : l' = l := ho.1
  subst e0
  refine ⟨B1, l', ws, ds, by rw [List.append_nil], S1.sub, nB, ho, r1, hpre, fun v B2 H2 d hd rn sub ho2 r2 => ?_⟩
  refine q v B2 H2 d (x1.trans ⟨rn.eb, fun b u nb hb => rn.eh b u (by simp only [List.mem_singleton]; rintro rfl; exact nb n _ _ hpool el) hb, rn.th, rn.fr⟩) ⟨sub, ⟨S1.rn.eb.trans rn.eb, fun b u nb hb => ?_, fun b hb => rn.th b (S1.rn.th b hb), fun b hb nb => rn.fr b (S1.rn.th b hb) (S1.rn.fr b hb nb)⟩, fun i2 s hs => ?_, S1.ap⟩ r2 (hpost d hd)
  · refine rn.eh b u ?_ (S1.rn.eh b u nb hb)
    simp only [List.mem_singleton]
    rintro rfl
    rcases mE with z | ⟨_, z⟩
    · rw [z] at hb; cases hb
    · exact nb z
  · have qs := S1.sl i2 s hs
    cases s with
    | un => trivial
    | d y => obtain ⟨u, e3, r3⟩ := qs; exact ⟨u, e3, r3.mono rn.eb⟩
    | own o2 =>
      obtain ⟨l2, e2, n2, m2, r3⟩ := qs
      by_cases hll : l2 = l'
      · subst hll
        have := S1.ap i2 n _ _ _ hs hpool e2 el
        subst this
        rw [hpool] at hs; cases hs
        exact ⟨l2, e2, rn.fr l2 r3.there n2, m2, ho2⟩
      · refine ⟨l2, e2, rn.fr l2 r3.there n2, m2, r3.mono rn.eb ?_⟩
        cases hu : H1 l2 with
        | none => exact absurd hu r3.there
        | some u => exact rn.eh l2 u (by simpa using hll) hu
/-- arguments, a new room last -/
def DoN (X : Cx) (E : En) (es : List Expr) (Δ : List Slot) (P : List D → Prop) : Prop := ∀ σ B H, Sees E Δ σ B H → ∀ Q : List V → Hp → Prop, (∀ ws l n B' H' ds, Pp Δ σ B H B' H' → Sees E Δ σ B' H' → H l = none → B' l = none → H' l = some (.lst [.int n]) → DnL E.K B' ws ds → P ds → Q (ws ++ [.ref l]) H') → WA X es σ H Q
theorem dn_last {n : Int} {pc pl : Pos} {P : List D → Prop} (hP : P []) (hs : starEach [.List [.Constant (.int n) j pc] pl] X.env = (false, eval (.List [.Constant (.int n) j pc] pl) X.env) :: starEach [] X.env := by rfl) (hs2 : starEach [.Constant (.int n) j pc] X.env = (false, eval (.Constant (.int n) j pc) X.env) :: starEach [] X.env := by rfl) : DoN X E [.List [.Constant (.int n) j pc] pl] Δ P := fun σ B H S Q q => by
  have h : EvF X E (.List [.Constant (.int n) j pc] pl) Δ (.lst [.int n]) := ef_lst (ea_cons ev_int ea_nil hs2)
  refine WA.of (pa_cons (pe_W (.List [.Constant (.int n) j pc] pl)) pa_nil hs) (h σ B H S _ fun l B1 H1 p1 n1 n2 ho => ?_)
  obtain ⟨vs, hl, r⟩ := ho
  cases r with
  | cons r1 r2 =>
    cases r1
    cases r2
    exact q [] l n B1 H1 [] (.of p1) (S.step p1) n1 n2 hl .nil hP
theorem dn_cons {P : List D → Prop} (h : Do X E a Δ fun d => DoN X E es Δ fun ds => P (d :: ds)) (hs : starEach (a :: es) X.env = (false, eval a X.env) :: starEach es X.env := by rfl) : DoN X E (a :: es) Δ P := fun σ B H S Q q =>
  WA.of (pa_cons (pe_W a) (pa_W es) hs) (h σ B H S _ fun v B1 H1 d x1 S1 r1 h1 => h1 σ B1 H1 S1 _ fun vs l n B2 H2 ds x2 S2 nl nB hl r2 h2 => q (v :: vs) l n B2 H2 (d :: ds) (x1.trans x2) S2 (by
    cases hz : H l with
    | none => rfl
    | some u => exact absurd nl (x1.th l (by rw [hz]; simp))) nB hl (.cons (r1.mono x2.eb) r2) h2)
theorem do_callN1 (C : Cz E N vb wb G sc k X) (i : Nat) {pre : List D → Prop} {post : List D → D → Prop} {P : D → Prop} (F : FnD E.P E.w E.K E.mg E.base x j (spQ E.K pre post))
    (ha : DoN X E (a :: es) Δ fun ds => pre ds ∧ ∀ d, post ds d → P d) (hj : j ≤ k := by decide) (hG : G[i]? = some x := by rfl)
    (he : starEach (a :: es) X.env = (false, eval a X.env) :: starEach es X.env := by rfl) (hpl : (backTo pos (starEach es X.env)).any (·.1) = false := by rfl) : Do X E (.Call (.Name x p) (a :: es) [] pos) Δ P := fun σ B H S Q q => by
  obtain ⟨h1, h2⟩ := C.gl i x hG
  obtain ⟨f, fd, ps, g1, g2, g3, g4⟩ := F.run C
  refine WE.of (pe_call g4 (C.room.mono hj) h1 g1 g2 g3 .nil pass0 (pa_W (a :: es)) h2 he hpl) ?_
  refine ha σ B H S _ fun ws l n B1 H1 ds x1 S1 nl nB hl r1 ⟨hpre, hpost⟩ => ?_
  refine ⟨B1, l, ws, ds, by rw [List.append_nil], S1.sub, nB, ⟨rfl, n, hl⟩, r1, hpre, fun v B2 H2 d hd rn sub ho2 r2 => ?_⟩
  have keep : ∀ b u, b ≠ l → H1 b = some u → H2 b = some u := fun b u nb hb => rn.eh b u (by simpa using nb) hb
  have ne : ∀ {b : Addr} {u : HO}, H b = some u → b ≠ l := fun {b u} hb e => by subst e; rw [nl] at hb; cases hb
  refine q v B2 H2 d ⟨x1.eb.trans rn.eb, fun b u nb hb => keep b u (ne hb) (x1.eh b u nb hb), fun b hb => rn.th b (x1.th b hb), fun b hb nb => rn.fr b (x1.th b hb) (x1.fr b hb nb)⟩ ⟨sub, ⟨S1.rn.eb.trans rn.eb, fun b u nb hb => keep b u ?_ (S1.rn.eh b u nb hb), fun b hb => rn.th b (S1.rn.th b hb), fun b hb nb => rn.fr b (S1.rn.th b hb) (S1.rn.fr b hb nb)⟩, fun i2 s hs => ?_, S1.ap⟩ r2 (hpost d hd)
  · rintro rfl
    exact absurd nl (S.rn.th b (by rw [hb]; simp))
  · have qs := S1.sl i2 s hs
    cases s with
    | un => trivial
    | d y => obtain ⟨u, e3, r3⟩ := qs; exact ⟨u, e3, r3.mono rn.eb⟩
    | own o2 =>
      obtain ⟨l2, e2, n2, m2, r3⟩ := qs
      have hll : l2 ≠ l := by
        rintro rfl
        exact S.noone nl i2 o2 hs e2
      refine ⟨l2, e2, rn.fr l2 r3.there n2, m2, r3.mono rn.eb ?_⟩
      cases hu : H1 l2 with
      | none => exact absurd hu r3.there
      | some u => exact keep l2 u hll hu
end
end Kn
/-! L15: how deep uses go; signs with places and ways. -/
namespace Kn
open PySem PySem.Spec PyProof.Rows L2
section
variable {X : Cx} {E : En} {Δ : List Slot} {a b : Expr} {pos : Pos} {es : List Expr}
theorem dw_or1 {P : Bool → Prop} (h : DoT X E a Δ P) : DoW X E (.BoolOp .Or [a] pos) Δ P := fun σ B H S Q q => WW.of (pw_or1 (pt_W a)) (h σ B H S Q q)
theorem dw_or {P : Bool → Prop} (h : DoT X E a Δ fun x => (x = false → DoW X E (.BoolOp .Or (b :: es) pos) Δ P) ∧ (x = true → P true)) : DoW X E (.BoolOp .Or (a :: b :: es) pos) Δ P := fun σ B H S Q q => WW.of (pw_or (pt_W a) (pw_W _)) (h σ B H S _ fun B1 H1 x x1 S1 ⟨h1, h2⟩ => by
  cases x with
  | false => exact h1 rfl σ B1 H1 S1 Q fun B2 H2 y x2 S2 hP => q B2 H2 y (x1.trans x2) S2 hP
  | true => exact q B1 H1 true x1 S1 (h2 rfl))
end
def deep (v : List Se) : Nat → Str → Prop
  | 0, _ => False
  | f + 1, x => ∀ y ∈ usesIn v x, deep v f y
theorem Rch.trans {nx : Str → List Str} {x y z : Str} (h1 : Rch nx x y) (h2 : Rch nx y z) : Rch nx x z := by
  induction h2 with
  | refl => exact h1
  | step a b ih => exact ih.step b
theorem deep_of {v : List Se} (hu : ∀ a y, y ∈ usesIn v a → y ∈ names v) (nc : ∀ a ∈ names v, circ v a = false) : ∀ (f : Nat) (vis : List Str) (x : Str), (names v).length < f + vis.length → vis.Nodup → (∀ y ∈ vis, y ∈ names v) → (∀ y ∈ vis, ∃ s ∈ usesIn v y, Rch (usesIn v) s x) → x ∈ names v → deep v f x := by
  have hx : ∀ (vis : List Str) (x : Str), (∀ y ∈ vis, ∃ s ∈ usesIn v y, Rch (usesIn v) s x) → x ∈ names v → x ∉ vis := fun vis x h hn hm => by
    have h1 := nc x hn
    unfold circ at h1
    rw [next_uses hu] at h1
    have h2 : decide (∃ s ∈ usesIn v x, Rch (usesIn v) s x) (h := Classical.propDecidable _) = true := @decide_eq_true _ (Classical.propDecidable _) (h x hm)
    rw [h2] at h1
    cases h1
  intro f
  induction f with
  | zero =>
    intro vis x hl nd sub hr hn
    have := nd_len nd sub
    omega
  | succ f ih =>
    intro vis x hl nd sub hr hn y hy
    refine ih (x :: vis) y (by rw [List.length_cons]; omega) (List.nodup_cons.mpr ⟨hx vis x hr hn, nd⟩) (fun z hz => ?_) (fun z hz => ?_) (hu x y hy)
    · rcases List.mem_cons.mp hz with q | q
      · rw [q]; exact hn
      · exact sub z q
    · rcases List.mem_cons.mp hz with q | q
      · subst q; exact ⟨y, hy, .refl y⟩
      · obtain ⟨s, h1, h2⟩ := hr z q
        exact ⟨s, h1, h2.step hy⟩
theorem deep_top {v : List Se} (ok : WebOk v) (h : flts v = []) {x : Str} (hx : x ∈ names v) : deep v 13 x := by
  unfold flts at h
  obtain ⟨h1, h2⟩ := List.append_eq_nil_iff.mp h
  have few := ok.few
  have nl := names_len v
  refine deep_of (uses_names h1) (fun a ha => ?_) 13 [] x (by show _ < 13 + 0; omega) List.nodup_nil (fun y hy => by cases hy) (fun y hy => by cases hy) hx
  cases hc : circ v a with
  | false => rfl
  | true =>
    have := List.mem_map_of_mem (f := Flt.circle) (List.mem_filter.mpr ⟨ha, hc⟩)
    rw [h2] at this
    cases this
/-- a sign with its place and way -/
def SCell (c : Nat) (d : D) : Prop := ∃ (n : Int) (w : List D), d = .tup [.str ⟨#[c]⟩, .int n, .tup w]
def SCells (cs : List Nat) (ds : List D) : Prop := Paired SCell cs ds
def addW (w : List D) : D → D
  | .tup xs => .tup (xs ++ [.tup w])
  | d => d
theorem p_to_s {w : List D} : ∀ {cs : List Nat} {ds : List D}, PCells cs ds → SCells cs (ds.map (addW w))
  | _, _, .nil => .nil
  | _, _, .cons ⟨n, e⟩ r => .cons ⟨n, w, by rw [e]; rfl⟩ (p_to_s r)
def LRes (v : List Se) (f : Nat) (x : Str) (m : List Nat) (gs : List (List Nat)) (d : D) : Prop := d = .non ∨ ∃ c zs, d = .lst zs ∧ SCells c zs ∧ lay v f x m gs = some c ∧ c.length ≤ 3000
/-- what is handed to the spreading of x, f deep -/
structure LPre (v : List Se) (f : Nat) (x : Str) (g : Hd) (m : List Nat) (gs : List (List Nat)) (md : List D) (gd : D) (wd : List D) : Prop where
  hg : hfind (heads v) x = some g
  dp : deep v f x
  many : g.params.length = gs.length
  cells : PCells m md
  gd : PGs gs gd
  small : ∀ a ∈ gs, a.length ≤ 400
  ml : m.length + 20 * f ≤ 260
  wl : wd.length + f ≤ 13
theorem hf_ok {v : List Se} (ok : WebOk v) {x : Str} {g : Hd} (h : hfind (heads v) x = some g) : g.Ok ∧ g.name = x := by
  obtain ⟨t, ht, e1, e2⟩ := heads_mem (hfind_mem h)
  exact ⟨(ok.se t ht).head _ e1, e2.symm⟩
theorem lay_cons {f : Lay} {ps : List Str} {m : List Nat} {gs : List (List Nat)} {l : Ln} {r : List Ln} {a b : List Nat} (h1 : layL f ps m gs l = some a) (h2 : layLs f ps m gs r = some b) : layLs f ps m gs (l :: r) = some (a ++ b) := by
  rw [layLs, h1]
  show (match layLs f ps m gs r with | none => none | some b => some (a ++ b)) = _
  rw [h2]
theorem pads (n : Nat) (at_ : Int) : ∀ k : Nat, PCells (List.replicate n 32) ((num k (List.replicate n ())).map fun q => D.tup [.str " ", .int (at_ + (q.1 : Nat))]) := by
  induction n with
  | zero => exact fun k => .nil
  | succ n ih => exact fun k => .cons ⟨_, rfl⟩ (ih (k + 1))
theorem lists_of {α : Type} {as : List α} {zs : List D} {F : α → List Nat} (h : Paired (fun q d => ∃ ys, d = .lst ys ∧ PCells (F q) ys) as zs) : ∃ ls : List (List D), zs = ls.map D.lst ∧ Paired PCells (as.map F) ls := by
  induction h with
  | nil => exact ⟨[], rfl, .nil⟩
  | cons h r ih =>
    obtain ⟨ys, e, hy⟩ := h
    obtain ⟨ls, e2, hl⟩ := ih
    exact ⟨ys :: ls, by rw [e, e2]; rfl, .cons hy hl⟩
theorem num_fill {ps : List Str} {gs : List (List Nat)} : ∀ (k : Nat) (as : List Str), (num k as).map (fun q => fill q.2 ps gs) = as.map fun a => fill a ps gs
  | _, [] => rfl
  | k, a :: r => by
    show _ :: _ = _ :: _
    rw [num_fill (k + 1) r]
theorem pd_small {gs : List (List Nat)} {ls : List (List D)} (h : Paired PCells gs ls) (hs : ∀ l ∈ ls, l.length ≤ 400) : ∀ g ∈ gs, g.length ≤ 400 := by
  induction h with
  | nil => exact fun g hg => by cases hg
  | cons h r ih =>
    intro g hg
    rcases List.mem_cons.mp hg with q | q
    · subst q
      have := hs _ List.mem_cons_self
      rw [← Paired.length h] at this
      exact this
    · exact ih (fun l hl => hs l (List.mem_cons_of_mem _ hl)) g q
end Kn
/-! L16: the law's spreading. -/
namespace Kn
open PySem PySem.Spec PyProof.Rows L2
/-- what the spreading leans on -/
structure LsT (P : Program) (w : World) (K : PySem.W.Frag) (mg : Str → Option Value) (base : Heap) : Prop where
  t : Tx mg
  head : FnD P w K mg base "_law_head" 1 (spR K R_lhead)
  code : FnD P w K mg base "_law_code_of" 1 (spR K R_lcode)
  parts : FnD P w K mg base "_law_parts" 1 (spR K R_lparts)
  put : At K mg "_law_put" s_l_put P_l_put
  arguments : At K mg "_law_arguments" s_l_arguments P_l_arguments
  spread : At K mg "_law_spread" s_l_spread P_l_spread
section
variable {P : Program} {w : World} {K : PySem.W.Frag} {mg : Str → Option Value} {base : Heap}
theorem ok_lspread (A : LsT P w K mg base) (v : List Se) (hw : Whole v) (kds : List (List Key × D)) (hk : Placed v kds) : ∀ (f : Nat) (x : Str) (g : Hd) (m : List Nat) (gs : List (List Nat)) (md : List D) (gd : D) (wd : List D), LPre v f x g m gs md gd wd →
    FnD P w K mg base "_law_spread" (f + 2) (spQ K (fun ds => ds = [webD v, .dit kds, .str x, .lst md, gd, .tup wd]) fun _ d => LRes v f x m gs d) := by
  intro f
  induction f with
  | zero => exact fun x g m gs md gd wd h => h.dp.elim
  | succ f ih =>
    intro x g m gs md gd wd pr
    have T := A.t
    have hv := hw.ok
    refine At.q (k := f + 2) A.spread sc_l_spread dc_l_spread (fun ds h => by subst h; rfl) fun X B H l ds C hR => ?_
    subst hR
    obtain ⟨gok, gname⟩ := hf_ok hv pr.hg
    have gw : ∀ p ∈ g.params, p.length ≤ 1000 := fun p hp => by have := (gok.all p hp).le; omega
    have gfew := gok.few
    have mdl : md.length ≤ 260 := by have := Paired.length pr.cells; have := pr.ml; omega
    have hml := pr.ml
    have hwl := pr.wl
    have hmany := pr.many
    show Go X _ _ [.d (webD v), .d (.dit kds), .d (.str x), .d (.lst md), .d gd, .d (.tup wd), .own (.pool l .none), .un, .un, .un, .un, .un, .un, .un, .un, .un, .un, .un, .un, .un] _
    refine go_cons ?_
    refine gs_new C 7 (DoF.of (ef_lst ea_nil) ?_)
    refine go_cons ?_
    have hgd : hdD (hfind (heads v) x) = g.d := by rw [pr.hg]; rfl
    refine gs_set C 8 (Do.of (ev_ix (d := .tup (g.params.map D.str)) (d1 := g.d) C ((ev_call C 0 A.head (ea_cons (ev_nm C 0 rfl) (ea_cons (ev_nm C 2 rfl) ea_nil)) ⟨v, x, rfl, hv, hgd.symm⟩ (by omega)).r) ev_int rfl rfl) ?_)
    show Go X _ _ [.d (webD v), .d (.dit kds), .d (.str x), .d (.lst md), .d gd, .d (.tup wd), .own (.pool l .none), .own (.lst []), .d (.tup (g.params.map D.str)), .un, .un, .un, .un, .un, .un, .un, .un, .un, .un, .un] _
    have pof : parsOf v x = g.params := by unfold parsOf; rw [pr.hg]
    have hlay : lay v (f + 1) x m gs = layLs (lay v f) g.params m gs (linesOf v x) := by show layLs (lay v f) (parsOf v x) m gs (linesOf v x) = _; rw [pof]
    refine go_cons ?_
    refine gs_for C [9, 10, 11] (di_list C (Do.of (ev_call C 1 A.code (ea_cons (ev_nm C 0 rfl) (ea_cons (ev_nm C 2 rfl) ea_nil)) ⟨v, x, rfl, hv, rfl⟩ (by omega)) ⟨_, rfl, ?_⟩))
    refine ⟨fun r Δ => ∃ (es : List (Nat × Nat × Ln)) (c0 : List Nat) (zs : List D) (a9 a10 a11 a12 a13 a14 a15 a16 a17 : Slot), r = es.map lineD ∧ Δ = [.d (webD v), .d (.dit kds), .d (.str x), .d (.lst md), .d gd, .d (.tup wd), .own (.pool l .none), .own (.lst zs), .d (.tup (g.params.map D.str)), a9, a10, a11, a12, a13, a14, a15, a16, a17, .un, .un] ∧ SCells c0 zs ∧ c0.length ≤ 3000 ∧ (∀ e ∈ es, e ∈ codeIn v x) ∧ (∀ c, layLs (lay v f) g.params m gs (es.map fun e => e.2.2) = some c → lay v (f + 1) x m gs = some (c0 ++ c)), ⟨codeIn v x, [], [], _, _, _, _, _, _, _, _, _, rfl, rfl, .nil, Nat.zero_le _, fun e he => he, fun c hc => by rw [hlay]; exact hc⟩, fun y r Δ2 hJ => ?_, fun Δ2 hJ => ?_⟩
    · obtain ⟨es, c0, zs, a9, a10, a11, a12, a13, a14, a15, a16, a17, hr, rfl, hc, hcl, hin, hq⟩ := hJ
      cases es with
      | nil => cases hr
      | cons e es =>
        injection hr with h1 h2
        subst h1 h2
        obtain ⟨i, k, ln⟩ := e
        have hzl := Paired.length hc
        obtain ⟨s, g2, e1, e2, e3, e4⟩ := codeIn_mem (hin _ List.mem_cons_self)
        have hsm := List.mem_of_getElem? e1
        have hlm := List.mem_of_getElem? e2
        have lok := (hv.se s hsm).code ln hlm
        obtain ⟨n, hn⟩ := lu_place hk ⟨s, e1, e2⟩
        have hin2 : ∀ e ∈ es, e ∈ codeIn v x := fun e he => hin e (List.mem_cons_of_mem _ he)
        have hq : ∀ c, layLs (lay v f) g.params m gs (ln :: es.map fun e => e.2.2) = some c → lay v (f + 1) x m gs = some (c0 ++ c) := hq
        refine bd_tup C (bs_cons (bd_nm C 9 (bs_cons (bd_nm C 10 (bs_cons (bd_nm C 11 (bs_nil ?_)))))))
        refine go_less 13 (go_less 14 (go_less 15 (go_less 16 (go_less 17 ?_))))
        refine go_cons ?_
        refine gs_set C 12 (Do.of (ev_dget (d := .int n) C (ev_nm C 1 rfl).r (ev_tup (ea_cons (ev_nm C 9 rfl) (ea_cons ev_str (ea_cons (ev_nm C 10 rfl) ea_nil)))) hn) ?_)
        show Go X _ _ [.d (webD v), .d (.dit kds), .d (.str x), .d (.lst md), .d gd, .d (.tup wd), .own (.pool l .none), .own (.lst zs), .d (.tup (g.params.map D.str)), .d (.int (i : Nat)), .d (.int (k : Nat)), .d ln.d, .d (.int n), .un, .un, .un, .un, .un, .un, .un] _
        refine go_cons ?_
        refine gs_room C 6 rfl ?_ ?_
        · exact do_two (fun _ _ => pe_op op_sub) (do_room C 6 rfl fun n => Do.of ev_int ⟨.int (n - 1), rd_I0, n - 1, rfl⟩)
        refine go_cons ?_
        refine gs_via (fun Δ' => ∃ (a : List Nat) (zs2 : List D) (a13 a14 a15 a16 a17 : Slot), Δ' = [.d (webD v), .d (.dit kds), .d (.str x), .d (.lst md), .d gd, .d (.tup wd), .own (.pool l .none), .own (.lst (zs ++ zs2)), .d (.tup (g.params.map D.str)), .d (.int (i : Nat)), .d (.int (k : Nat)), .d ln.d, .d (.int n), a13, a14, a15, a16, a17, .un, .un] ∧ layL (lay v f) g.params m gs ln = some a ∧ SCells a zs2 ∧ a.length ≤ 4000) ?_ ?_
        · cases ln with
          | plain z =>
            have hz : z.length ≤ 40 := LineOk.len lok
            show GoS X _ _ [.d (webD v), .d (.dit kds), .d (.str x), .d (.lst md), .d gd, .d (.tup wd), .own (.pool l .none), .own (.lst zs), .d (.tup (g.params.map D.str)), .d (.int (i : Nat)), .d (.int (k : Nat)), .d (.tup [.str "plain", .str z]), .d (.int n), .un, .un, .un, .un, .un, .un, .un] _
            refine gs_ifE (et_cmp co_eqS (ev_ix (d := .str "plain") C (ev_nm C 11 rfl).r ev_int rfl rfl).r ev_str.r) (fun _ => ?_) (fun h => by cases h)
            refine go_cons ?_
            refine gs_set C 13 ?_
            refine do_callN C 2 (ok_lput (P := P) (w := w) (base := base) T A.put A.parts z g.params (n + 1) gs gd ⟨hz, gw, by omega, by omega, pr.gd, pr.small⟩) (DoA.of (ea_cons (ev_ix (d := .str z) C (ev_nm C 11 rfl).r ev_int rfl rfl) (ea_cons (ev_add (ev_nm C 12 rfl) ev_int) (ea_cons (ev_nm C 8 rfl) (ea_cons (ev_nm C 4 rfl) ea_nil)))) ⟨rfl, fun d hd => ?_⟩) (by omega)
            obtain ⟨ys, rfl, hys⟩ := hd
            have hyl := Paired.length hys
            show Go X _ _ [.d (webD v), .d (.dit kds), .d (.str x), .d (.lst md), .d gd, .d (.tup wd), .own (.pool l .none), .own (.lst zs), .d (.tup (g.params.map D.str)), .d (.int (i : Nat)), .d (.int (k : Nat)), .d (.tup [.str "plain", .str z]), .d (.int n), .d (.lst ys), .un, .un, .un, .un, .un, .un] _
            refine go_cons (gs_ifE (et_cmp co_gt (ev_len C 3 (ev_nm C 13 rfl).r (.lst _) T.len).r ev_int.r) (fun _ => ?_) (fun hb => go_nil ?_))
            · exact go_cons (gs_ret (Do.of ev_non ⟨.inl rfl, rfl⟩))
            have h400 : (fill z g.params gs).length ≤ 400 := by
              have := of_decide_eq_false hb
              omega
            have hrow : layL (lay v f) g.params m gs (.plain z) = some (rowOf z g.params m gs) := by
              show (if _ then _ else _) = _
              rw [if_neg (by omega)]
            -- the row with its margin
            refine go_cons (gs_via (fun Δ' => ∃ ws : List D, Δ' = [.d (webD v), .d (.dit kds), .d (.str x), .d (.lst md), .d gd, .d (.tup wd), .own (.pool l .none), .own (.lst zs), .d (.tup (g.params.map D.str)), .d (.int (i : Nat)), .d (.int (k : Nat)), .d (.tup [.str "plain", .str z]), .d (.int n), .d (.lst ws), .un, .un, .un, .un, .un, .un] ∧ PCells (if fill z g.params gs = [] then [] else m ++ fill z g.params gs) ws ∧ ws.length ≤ 700) (gs_ifE (et_cmp co_gt (ev_len C 3 (ev_nm C 13 rfl).r (.lst _) T.len).r ev_int.r) (fun hb => ?_) (fun hb => ?_)) ?_)
            · have hne : ¬ fill z g.params gs = [] := fun e => by
                rw [e] at hyl
                have := of_decide_eq_true hb
                have h0 : ([] : List Nat).length = 0 := rfl
                omega
              refine go_cons (gs_set C 13 (Do.of (EvF.ld (ef_cat (ev_nm C 3 rfl).r (ev_nm C 13 rfl).r (by omega))) (go_nil ?_)))
              refine ⟨md ++ ys, rfl, ?_, by rw [List.length_append]; omega⟩
              rw [if_neg hne]
              exact pd_app pr.cells hys
            · have he : fill z g.params gs = [] := by
                have := of_decide_eq_false hb
                exact List.eq_nil_of_length_eq_zero (by omega)
              refine go_nil ⟨ys, rfl, ?_, by omega⟩
              rw [if_pos he]
              rw [he] at hys
              exact hys
            rintro _ ⟨ws, rfl, hws, hwsl⟩
            have hall : PCells (rowOf z g.params m gs) (ws ++ [.tup [.str "\n", .int (n + 1 + (z.length : Nat))]]) := pd_app hws (.cons ⟨_, rfl⟩ .nil)
            have hal := Paired.length hall
            have hsh : ∀ y ∈ ws ++ [.tup [.str "\n", .int (n + 1 + (z.length : Nat))]], ∃ (c : Nat) (q : Int), y = .tup [.str ⟨#[c]⟩, .int q] := fun y hy => by
              obtain ⟨c, q, e⟩ := Paired.right hall y hy
              exact ⟨c, q, e⟩
            have hws2 : (ws ++ [D.tup [.str "\n", .int (n + 1 + (z.length : Nat))]]).length ≤ 701 := by rw [List.length_append]; show _ + 1 ≤ _; omega
            refine go_cons (gs_new C 7 (DoF.of (ef_less 6 (ef_cat (er_own C 7 rfl rfl) (EvF.lr (ef_lcG C .no (bk_by (own := ow_l_spread_0) (vb := bv_l_spread_0) (wb := bw_l_spread_0) (G := bg_l_spread_0) (by decide +kernel)) (by exact ⟨trivial, trivial⟩) (by trivial) (fun y : D => y) (fun y => [.d (webD v), .d (.dit kds), .d (.str x), .d (.lst md), .d gd, .d (.tup wd), .un, .own (.lst zs), .d (.tup (g.params.map D.str)), .d (.int (i : Nat)), .d (.int (k : Nat)), .d (.tup [.str "plain", .str z]), .d (.int n), .d (.lst ws), .un, .un, .un, .un, .d y, .un]) (fun _ => true) (addW wd) (ws ++ [.tup [.str "\n", .int (n + 1 + (z.length : Nat))]]) (di_list C (Do.of (EvF.ld (ef_cat (ev_nm C 13 rfl).r (EvF.lr (ef_lst (ea_cons (ev_tup (ea_cons ev_str (ea_cons (ev_add (ev_add (ev_nm C 12 rfl) ev_int) (ev_len C 3 (ev_ix (d := .str z) C (ev_nm C 11 rfl).r ev_int rfl rfl).r (.str _ (by omega)) T.len)) ea_nil))) ea_nil))) (by show _ + 1 ≤ _; omega))) ⟨_, rfl, by rw [List.map_id']⟩)) (by omega) (fun y hy Y CY => ⟨bd_nm CY 18 rfl, rfl, fun _ => ?_⟩))) (by rw [List.filter_eq_self.mpr (fun _ _ => rfl), List.length_map]; omega))) (go_nil ?_)))
            · obtain ⟨c, q, rfl⟩ := hsh y hy
              exact ev_catT (ev_nm CY 18 rfl) (ev_tup (ea_cons (ev_nm CY 5 rfl) ea_nil)) (by show 2 + 1 ≤ _; decide)
            rw [List.filter_eq_self.mpr (fun _ _ => rfl)]
            exact ⟨_, _, _, _, _, _, _, rfl, hrow, p_to_s hall, by omega⟩
          | use nn y as =>
            obtain ⟨hn20, hy, ha3, haa⟩ := (show nn ≤ 20 ∧ WordOk y ∧ as.length ≤ 3 ∧ ∀ a ∈ as, ArgOk a from lok)
            have hy8 := hy.le
            obtain ⟨g', hg', hcount⟩ := hw.use s hsm nn y as hlm
            have hyu : y ∈ usesIn v x := uses_fold.mpr (.inr ⟨_, hin _ List.mem_cons_self, rfl⟩)
            show GoS X _ _ [.d (webD v), .d (.dit kds), .d (.str x), .d (.lst md), .d gd, .d (.tup wd), .own (.pool l .none), .own (.lst zs), .d (.tup (g.params.map D.str)), .d (.int (i : Nat)), .d (.int (k : Nat)), .d (.tup [.str "use", .int (nn : Nat), .str y, .tup (as.map D.str)]), .d (.int n), .un, .un, .un, .un, .un, .un, .un] _
            refine gs_ifE (et_cmp co_eqS (ev_ix (d := .str "use") C (ev_nm C 11 rfl).r ev_int rfl rfl).r ev_str.r) (fun h => by cases h) (fun _ => ?_)
            have hpads := pd_app pr.cells (pads nn (n + 1) 0)
            have hup := upto_num 0 (List.replicate nn ())
            have hnl := num_len 0 (List.replicate nn ())
            rw [List.length_replicate] at hup hnl
            refine go_cons ?_
            refine gs_set C 14 (Do.of (EvF.ld (ef_less 6 (ef_cat (ev_nm C 3 rfl).r (EvF.lr (ef_lcG C .no (bk_by (own := ow_l_spread_1) (vb := bv_l_spread_1) (wb := bw_l_spread_1) (G := bg_l_spread_1) (by decide +kernel)) (by exact ⟨trivial, trivial⟩) (by trivial) (fun q : Nat × Unit => D.int (q.1 : Nat)) (fun q => [.d (webD v), .d (.dit kds), .d (.str x), .d (.lst md), .d gd, .d (.tup wd), .un, .own (.lst zs), .d (.tup (g.params.map D.str)), .d (.int (i : Nat)), .d (.int (k : Nat)), .d (.tup [.str "use", .int (nn : Nat), .str y, .tup (as.map D.str)]), .d (.int n), .un, .un, .un, .un, .un, .un, .d (.int (q.1 : Nat))]) (fun _ => true) (fun q => D.tup [.str " ", .int (n + 1 + (q.1 : Nat))]) (num 0 (List.replicate nn ())) (di_range C 4 (Do.of (ev_ix (d := .int (nn : Nat)) C (ev_nm C 11 rfl).r ev_int rfl rfl) ⟨nn, rfl, by omega, hup⟩) T.range) (by omega) (fun q hq Y CY => ⟨bd_nm CY 19 rfl, rfl, fun _ => ev_tup (ea_cons ev_str (ea_cons (ev_add (ev_add (ev_nm CY 12 rfl) ev_int) (ev_nm CY 19 rfl)) ea_nil))⟩))) (by rw [List.filter_eq_self.mpr (fun _ _ => rfl), List.length_map]; omega)))) ?_)
            rw [List.filter_eq_self.mpr (fun _ _ => rfl)]
            have hwwl : (md ++ (num 0 (List.replicate nn ())).map fun q => D.tup [.str " ", .int (n + 1 + (q.1 : Nat))]).length ≤ 300 := by rw [List.length_append, List.length_map]; omega
            generalize (md ++ (num 0 (List.replicate nn ())).map fun q => D.tup [.str " ", .int (n + 1 + (q.1 : Nat))]) = ww at hpads hwwl
            show Go X _ _ [.d (webD v), .d (.dit kds), .d (.str x), .d (.lst md), .d gd, .d (.tup wd), .own (.pool l .none), .own (.lst zs), .d (.tup (g.params.map D.str)), .d (.int (i : Nat)), .d (.int (k : Nat)), .d (.tup [.str "use", .int (nn : Nat), .str y, .tup (as.map D.str)]), .d (.int n), .un, .d (.lst ww), .un, .un, .un, .un, .un] _
            refine go_cons ?_
            refine gs_set C 15 ?_
            refine do_callN C 5 (ok_larguments (P := P) (w := w) (base := base) T A.arguments nn y as n (by omega) (fun a ha => by have := (haa a ha).line.len; omega) (by omega)) (DoA.of (ea_cons (ev_nm C 11 rfl) (ea_cons (ev_nm C 12 rfl) ea_nil)) ⟨rfl, fun d hd => ?_⟩) (by omega)
            obtain ⟨ns, rfl, hns⟩ := hd
            show Go X _ _ [.d (webD v), .d (.dit kds), .d (.str x), .d (.lst md), .d gd, .d (.tup wd), .own (.pool l .none), .own (.lst zs), .d (.tup (g.params.map D.str)), .d (.int (i : Nat)), .d (.int (k : Nat)), .d (.tup [.str "use", .int (nn : Nat), .str y, .tup (as.map D.str)]), .d (.int n), .un, .d (.lst ww), .d (.lst (ns.map D.int)), .un, .un, .un, .un] _
            have nal := num_len 0 as
            refine go_cons ?_
            refine gs_lcG C 16 .no (bk_by (own := ow_l_spread_2) (vb := bv_l_spread_2) (wb := bw_l_spread_2) (G := bg_l_spread_2) (by decide +kernel)) (by exact ⟨trivial, trivial⟩) (fun q : Nat × Str => D.int (q.1 : Nat)) (fun q => [.d (webD v), .d (.dit kds), .d (.str x), .d (.lst md), .d gd, .d (.tup wd), .own (.pool l .none), .own (.lst zs), .d (.tup (g.params.map D.str)), .d (.int (i : Nat)), .d (.int (k : Nat)), .d (.tup [.str "use", .int (nn : Nat), .str y, .tup (as.map D.str)]), .d (.int n), .un, .d (.lst ww), .d (.lst (ns.map D.int)), .un, .un, .un, .d (.int (q.1 : Nat))]) (fun _ => true) (fun q d => ∃ ys, d = .lst ys ∧ PCells (fill q.2 g.params gs) ys) (di_range C 4 (Do.of (ev_len C 3 (ev_ix (d := .tup (as.map D.str)) C (ev_nm C 11 rfl).r ev_int rfl rfl).r (.tup _) T.len) ⟨as.length, by rw [List.length_map], by omega, num 0 as, upto_num 0 as, by omega, fun q hqm Y CY => ⟨bd_nm CY 19 rfl, rfl, fun _ => ?_⟩, fun zs2 hzs2 => ?_⟩) T.range)
            · obtain ⟨j, hj1, hj2⟩ := num_get hqm
              rw [Nat.zero_add] at hj1
              have hjl := (List.getElem?_eq_some_iff.mp hj2).1
              have hat : atI (as.map D.str) (q.1 : Int) = some (.str q.2) := by rw [hj1]; exact atI_nat (by rw [List.getElem?_map, hj2]; rfl)
              obtain ⟨z, hz⟩ : ∃ z, ns[j]? = some z := ⟨_, List.getElem?_eq_getElem (by omega)⟩
              have hzt : atI (ns.map D.int) (q.1 : Int) = some (.int z) := by rw [hj1]; exact atI_nat (by rw [List.getElem?_map, hz]; rfl)
              have ha40 := (haa q.2 (List.mem_of_getElem? hj2)).line.len
              exact do_callN CY 0 (ok_lput (P := P) (w := w) (base := base) T A.put A.parts q.2 g.params z gs gd ⟨ha40, gw, by omega, by omega, pr.gd, pr.small⟩) (DoA.of (ea_cons (ev_ix (d := .str q.2) CY (ev_ix (d := .tup (as.map D.str)) CY (ev_nm CY 11 rfl).r ev_int rfl rfl).r (ev_nm CY 19 rfl) rfl hat) (ea_cons (ev_ix (d := .int z) CY (ev_nm CY 15 rfl).r (ev_nm CY 19 rfl) rfl hzt) (ea_cons (ev_nm CY 8 rfl) (ea_cons (ev_nm CY 4 rfl) ea_nil)))) ⟨rfl, fun d hd => hd⟩) (by omega)
            rw [List.filter_eq_self.mpr (fun _ _ => rfl)] at hzs2
            obtain ⟨ls, rfl, hls⟩ := lists_of hzs2
            rw [num_fill] at hls
            have hlsl := Paired.length hls
            rw [List.length_map] at hlsl
            refine go_kn 16 rfl rfl ?_
            show Go X _ _ [.d (webD v), .d (.dit kds), .d (.str x), .d (.lst md), .d gd, .d (.tup wd), .own (.pool l .none), .own (.lst zs), .d (.tup (g.params.map D.str)), .d (.int (i : Nat)), .d (.int (k : Nat)), .d (.tup [.str "use", .int (nn : Nat), .str y, .tup (as.map D.str)]), .d (.int n), .un, .d (.lst ww), .d (.lst (ns.map D.int)), .d (.lst (ls.map D.lst)), .un, .un, .un] _
            refine go_cons (gs_ifE (et_cmp co_gt (ev_len C 3 (EvF.lr (ef_less 6 (ef_lcG C (.one _) (bk_by (own := ow_l_spread_3) (vb := bv_l_spread_3) (wb := bw_l_spread_3) (G := bg_l_spread_3) (by decide +kernel)) (by exact ⟨trivial, trivial⟩) (by trivial) D.lst (fun z => [.d (webD v), .d (.dit kds), .d (.str x), .d (.lst md), .d gd, .d (.tup wd), .un, .own (.lst zs), .d (.tup (g.params.map D.str)), .d (.int (i : Nat)), .d (.int (k : Nat)), .d (.tup [.str "use", .int (nn : Nat), .str y, .tup (as.map D.str)]), .d (.int n), .un, .d (.lst ww), .d (.lst (ns.map D.int)), .d (.lst (ls.map D.lst)), .un, .d (.lst z), .un]) (fun z => decide ((400 : Int) < (z.length : Nat))) D.lst ls (di_lstE C (ev_nm C 16 rfl)) (by omega) (fun z hz Y CY => ⟨bd_nm CY 18 rfl, DoT.of (et_cmp co_gt (ev_len CY 0 (ev_nm CY 18 rfl).r (.lst _) T.len).r ev_int.r) rfl, fun _ => ev_nm CY 18 rfl⟩)))) (.lst _) T.len).r ev_int.r) (fun _ => ?_) (fun hb => go_nil ?_))
            · exact go_cons (gs_ret (Do.of ev_non ⟨.inl rfl, rfl⟩))
            have hls4 : ∀ z ∈ ls, z.length ≤ 400 := fun z hz => by
              refine Classical.byContradiction fun hbig => ?_
              have hmem : z ∈ ls.filter fun z => decide ((400 : Int) < (z.length : Nat)) := List.mem_filter.mpr ⟨hz, decide_eq_true (by omega)⟩
              have hlen := List.length_pos_of_mem hmem
              have := of_decide_eq_false hb
              rw [List.length_map] at this
              omega
            have hsm2 := pd_small hls hls4
            have hno : ¬ ∃ a ∈ as, (fill a g.params gs).length > 400 := fun ⟨a, ha, hgt⟩ => by
              have := hsm2 _ (List.mem_map_of_mem (f := fun a => fill a g.params gs) ha)
              omega
            refine go_cons ?_
            refine gs_set C 17 ?_
            refine do_callQ C 6 6 (ih y g' (m ++ List.replicate nn 32) (as.map fun a => fill a g.params gs) ww (.lst (ls.map D.lst)) (wd ++ [.int n]) ⟨hg', pr.dp y hyu, by rw [List.length_map]; omega, hpads, ⟨ls, rfl, hls⟩, hsm2, by rw [List.length_append, List.length_replicate]; omega, by rw [List.length_append, List.length_singleton]; omega⟩) rfl ?_ (by omega)
            refine dq_cons (Do.of (ev_nm C 0 rfl) ?_)
            refine dq_cons (Do.of (ev_nm C 1 rfl) ?_)
            refine dq_cons (Do.of (ev_ix (d := .str y) C (ev_nm C 11 rfl).r ev_int rfl rfl) ?_)
            refine dq_cons (Do.of (ev_nm C 14 rfl) ?_)
            refine dq_cons (Do.of (ev_nm C 16 rfl) ?_)
            refine dq_cons (Do.of (ev_catT (ev_nm C 5 rfl) (ev_tup (ea_cons (ev_nm C 12 rfl) ea_nil)) (by show _ + 1 ≤ _; omega)) ?_)
            refine dq_last C 6 rfl ⟨rfl, fun d hd => ?_⟩
            rcases hd with rfl | ⟨c2, zs2, rfl, hc2, hl2, hcl2⟩
            · refine go_cons (gs_ifE (et_cmp co_is (ev_nm C 17 rfl).r ev_non.r) (fun _ => ?_) (fun h => by cases h))
              exact go_cons (gs_ret (Do.of ev_non ⟨.inl rfl, rfl⟩))
            have hz2l := Paired.length hc2
            refine go_cons (gs_ifE (et_cmp co_is (ev_nm C 17 rfl).r ev_non.r) (fun h => by cases h) (fun _ => go_nil ?_))
            refine go_cons (gs_new C 7 (DoF.of (ef_cat (er_own C 7 rfl rfl) (ev_nm C 17 rfl).r (by omega)) (go_nil ?_)))
            refine ⟨c2, zs2, _, _, _, _, _, rfl, ?_, hc2, by omega⟩
            show (if _ then _ else _) = _
            rw [if_neg hno]
            exact hl2
        · rintro _ ⟨a, zs2, a13, a14, a15, a16, a17, rfl, ha, hza, hal⟩
          have hz2 := Paired.length hza
          have lsg : LenD (.lst (zs ++ zs2)) (zs ++ zs2).length := .lst _
          refine go_cons (gs_if (DoW.t ?_))
          refine dw_or (dt_ltI (do_room C 6 rfl fun n => Do.of ev_int ⟨n, 0, rfl, rfl, fun _ => ?_, fun _ => ⟨fun _ => ?_, fun h => by cases h⟩⟩))
          rotate_left
          · exact go_cons (gs_ret (Do.of ev_non ⟨.inl rfl, rfl⟩))
          refine dw_or1 (DoT.of (et_cmp co_gt (ev_len C 3 (er_own C 7 rfl rfl) lsg T.len).r ev_int.r) ⟨fun _ => ?_, fun hb => go_nil (go_nil ?_)⟩)
          · exact go_cons (gs_ret (Do.of ev_non ⟨.inl rfl, rfl⟩))
          have hle : c0.length + a.length ≤ 3000 := by
            have := of_decide_eq_false hb
            rw [List.length_append] at this
            omega
          refine ⟨es, c0 ++ a, zs ++ zs2, _, _, _, _, _, _, _, _, _, rfl, rfl, pd_app hc hza, by rw [List.length_append]; exact hle, hin2, fun c hcc => ?_⟩
          rw [List.append_assoc]
          exact hq (a ++ c) (lay_cons ha hcc)
    · obtain ⟨es, c0, zs, a9, a10, a11, a12, a13, a14, a15, a16, a17, hr, rfl, hc, hcl, hin, hq⟩ := hJ
      cases es with
      | cons e es => cases hr
      | nil =>
        have hq := hq [] rfl
        rw [List.append_nil] at hq
        exact go_cons (gs_kn 7 rfl rfl (gs_ret (Do.of (ev_nm C 7 rfl) ⟨.inr ⟨c0, zs, rfl, hc, hq, hcl⟩, rfl⟩)))
end
end Kn
/-! L17: sameness. -/
namespace Kn
open PySem PySem.Spec PyProof.Rows L2
/-- texts, numbers, tuples of such, no deeper than n -/
def sameB : Nat → D → Bool
  | _, .str _ => true
  | _, .int _ => true
  | n + 1, .tup xs => decide (xs.length ≤ 1000) && xs.all (sameB n)
  | _, _ => false
def R_lsame (n : Nat) : List D → D → Prop := fun ds d => ∃ z, ds = [z, z] ∧ sameB n z = true ∧ d = .bl true
section
variable {P : Program} {w : World} {K : PySem.W.Frag} {mg : Str → Option Value} {base : Heap}
theorem ok_lsame (T : Tx mg) (A : At K mg "_law_same" s_l_same P_l_same) : ∀ n : Nat, FnD P w K mg base "_law_same" (n + 1) (spR K (R_lsame n)) := by
  intro n
  induction n with
  | zero =>
    refine A.r sc_l_same dc_l_same (fun ds d h => by obtain ⟨_, rfl, _⟩ := h; rfl) fun X B H ds d C hR => ?_
    obtain ⟨z, rfl, hz, rfl⟩ := hR
    cases z with
    | str x =>
      show Go X _ _ [.d (.str x), .d (.str x), .un] _
      refine go_cons (gs_ifE (et_val (ev_isi C 0 1 (T := "tuple") (ev_nm C 1 rfl).r rfl T.isinstance T.tuple rfl)) (fun h => by cases h) (fun _ => go_nil ?_))
      refine go_cons (gs_ifE (et_cmp co_is (ev_nm C 1 rfl).r ev_non.r) (fun h => by cases h) (fun _ => go_nil ?_))
      refine go_cons (gs_ifE (et_val (ev_isi C 0 5 (T := "str") (ev_nm C 1 rfl).r rfl T.isinstance T.str rfl)) (fun _ => ?_) (fun h => by cases h))
      refine go_cons (gs_ret (Do.of (ev_and (ev_isi C 0 5 (T := "str") (ev_nm C 0 rfl).r rfl T.isinstance T.str rfl) fun _ => ev_one (ev_cmp co_eqS (ev_nm C 0 rfl).r (ev_nm C 1 rfl).r)) ?_))
      rw [decide_eq_true rfl]; rfl
    | int x =>
      show Go X _ _ [.d (.int x), .d (.int x), .un] _
      refine go_cons (gs_ifE (et_val (ev_isi C 0 1 (T := "tuple") (ev_nm C 1 rfl).r rfl T.isinstance T.tuple rfl)) (fun h => by cases h) (fun _ => go_nil ?_))
      refine go_cons (gs_ifE (et_cmp co_is (ev_nm C 1 rfl).r ev_non.r) (fun h => by cases h) (fun _ => go_nil ?_))
      refine go_cons (gs_ifE (et_val (ev_isi C 0 5 (T := "str") (ev_nm C 1 rfl).r rfl T.isinstance T.str rfl)) (fun h => by cases h) (fun _ => go_nil ?_))
      refine go_cons (gs_ret (Do.of (ev_and (ev_isi C 0 6 (T := "int") (ev_nm C 0 rfl).r rfl T.isinstance T.int rfl) fun _ => ev_and (ev_not (ev_isi C 0 7 (T := "bool") (ev_nm C 0 rfl).r rfl T.isinstance T.bool rfl)) fun _ => ev_one (ev_cmp co_eqI (ev_nm C 0 rfl).r (ev_nm C 1 rfl).r)) ?_))
      rw [decide_eq_true rfl]; rfl
    | non => cases hz
    | bl b => cases hz
    | lst xs => cases hz
    | tup xs => cases hz
    | dic xs => cases hz
    | dit xs => cases hz
    | ins c xs => cases hz
  | succ n ih =>
    refine A.r sc_l_same dc_l_same (fun ds d h => by obtain ⟨_, rfl, _⟩ := h; rfl) fun X B H ds d C hR => ?_
    obtain ⟨z, rfl, hz, rfl⟩ := hR
    cases z with
    | str x =>
      show Go X _ _ [.d (.str x), .d (.str x), .un] _
      refine go_cons (gs_ifE (et_val (ev_isi C 0 1 (T := "tuple") (ev_nm C 1 rfl).r rfl T.isinstance T.tuple rfl)) (fun h => by cases h) (fun _ => go_nil ?_))
      refine go_cons (gs_ifE (et_cmp co_is (ev_nm C 1 rfl).r ev_non.r) (fun h => by cases h) (fun _ => go_nil ?_))
      refine go_cons (gs_ifE (et_val (ev_isi C 0 5 (T := "str") (ev_nm C 1 rfl).r rfl T.isinstance T.str rfl)) (fun _ => ?_) (fun h => by cases h))
      refine go_cons (gs_ret (Do.of (ev_and (ev_isi C 0 5 (T := "str") (ev_nm C 0 rfl).r rfl T.isinstance T.str rfl) fun _ => ev_one (ev_cmp co_eqS (ev_nm C 0 rfl).r (ev_nm C 1 rfl).r)) ?_))
      rw [decide_eq_true rfl]; rfl
    | int x =>
      show Go X _ _ [.d (.int x), .d (.int x), .un] _
      refine go_cons (gs_ifE (et_val (ev_isi C 0 1 (T := "tuple") (ev_nm C 1 rfl).r rfl T.isinstance T.tuple rfl)) (fun h => by cases h) (fun _ => go_nil ?_))
      refine go_cons (gs_ifE (et_cmp co_is (ev_nm C 1 rfl).r ev_non.r) (fun h => by cases h) (fun _ => go_nil ?_))
      refine go_cons (gs_ifE (et_val (ev_isi C 0 5 (T := "str") (ev_nm C 1 rfl).r rfl T.isinstance T.str rfl)) (fun h => by cases h) (fun _ => go_nil ?_))
      refine go_cons (gs_ret (Do.of (ev_and (ev_isi C 0 6 (T := "int") (ev_nm C 0 rfl).r rfl T.isinstance T.int rfl) fun _ => ev_and (ev_not (ev_isi C 0 7 (T := "bool") (ev_nm C 0 rfl).r rfl T.isinstance T.bool rfl)) fun _ => ev_one (ev_cmp co_eqI (ev_nm C 0 rfl).r (ev_nm C 1 rfl).r)) ?_))
      rw [decide_eq_true rfl]; rfl
    | tup xs =>
      obtain ⟨h1, h2⟩ := Bool.and_eq_true_iff.mp (show (decide (xs.length ≤ 1000) && xs.all (sameB n)) = true from hz)
      have hl := of_decide_eq_true h1
      have hall := List.all_eq_true.mp h2
      show Go X _ _ [.d (.tup xs), .d (.tup xs), .un] _
      refine go_cons (gs_ifE (et_val (ev_isi C 0 1 (T := "tuple") (ev_nm C 1 rfl).r rfl T.isinstance T.tuple rfl)) (fun _ => ?_) (fun h => by cases h))
      refine go_cons (gs_ifE (ew_or (et_not (et_val (ev_isi C 0 1 (T := "tuple") (ev_nm C 0 rfl).r rfl T.isinstance T.tuple rfl))) fun _ => ew_or1 (et_cmp co_neI (ev_len C 2 (ev_nm C 0 rfl).r (.tup _) T.len).r (ev_len C 2 (ev_nm C 1 rfl).r (.tup _) T.len).r)).t (fun h => ?_) (fun _ => go_nil ?_))
      · rw [decide_eq_true rfl] at h
        cases h
      refine go_cons (gs_for C [2] (di_range C 3 (Do.of (ev_len C 2 (ev_nm C 1 rfl).r (.tup _) T.len) ⟨xs.length, rfl, by omega, ?_⟩) T.range))
      refine ⟨fun r Δ => ∃ (rest pre : List D) (a : Slot), r = upto (pre.length : Nat) rest.length ∧ xs = pre ++ rest ∧ Δ = [.d (.tup xs), .d (.tup xs), a], ⟨xs, [], _, rfl, rfl, rfl⟩, fun y r Δ2 hJ => ?_, fun Δ2 hJ => ?_⟩
      · obtain ⟨rest, pre, sa, hr, hx2, rfl⟩ := hJ
        cases rest with
        | nil => cases hr
        | cons x rest =>
          rw [List.length_cons, upto_succ] at hr
          injection hr with h1 h2
          subst h1 h2
          have hat : xs[pre.length]? = some x := by rw [hx2, List.getElem?_append_right (Nat.le_refl _), Nat.sub_self]; rfl
          have hxd : atI xs (pre.length : Int) = some x := atI_nat hat
          refine bd_nm C 2 ?_
          refine go_cons (gs_ifE (et_not (et_val (ev_call C 4 ih (ea_cons (ev_ix (d := x) C (ev_nm C 0 rfl).r (ev_nm C 2 rfl) rfl hxd) (ea_cons (ev_ix (d := x) C (ev_nm C 1 rfl).r (ev_nm C 2 rfl) rfl hxd) ea_nil)) ⟨x, rfl, hall x (List.mem_of_getElem? hat), rfl⟩ (Nat.le_refl _)))) (fun h => by cases h) (fun _ => go_nil (go_nil ?_)))
          exact ⟨rest, pre ++ [x], _, by rw [List.length_append]; rfl, by rw [hx2, List.append_assoc]; rfl, rfl⟩
      · obtain ⟨rest, pre, sa, hr, hx2, rfl⟩ := hJ
        exact go_cons (gs_ret (Do.of ev_bl rfl))
    | non => cases hz
    | bl b => cases hz
    | lst xs => cases hz
    | dic xs => cases hz
    | dit xs => cases hz
    | ins c xs => cases hz
end
end Kn
/-! K25: a call that is tried. -/
namespace Kn
open PySem PySem.Spec PyProof.Rows L2
section
variable {X : Cx} {E : En} {N G : List Str} {vb wb : List Bool} {sc : Scope} {k : Nat} {Δ : List Slot} {a b e : Expr} {pos p p1 p2 p3 p4 pc : Pos} {j x1 : Nat} {es : List Expr} {ds : List D} {x n f tag : Str} {σ : L2.St} {B H : Hp} {D0 : Ends} {body : List Stmt} {h0 : ExceptHandler} {hds : List ExceptHandler} {l : List (Value × (Addr → Value → Option Addr → TS))}
theorem Cz.tr (C : Cz E N vb wb G sc k X) (pn : List (Addr × Obj)) (xe : Value → Shared → Prop) (hp : PassesOwn (model X.prog X.w) X.A X.env xe) : Cz E N vb wb G sc k (X.tr pn xe) :=
  ⟨C.hsc, C.hP, C.hw, C.hK, C.hm, C.hb, C.hN, C.nd, C.calm, hp, C.room, C.vis, C.loc, C.gl⟩
def trW (X : Cx) (body : List Stmt) (W : WX) : TS := fun D σ H => ∀ pn xe, Takes (X.tr pn xe) W → PassesOwn (model X.prog X.w) X.A X.env xe → WSs (X.tr pn xe) body D σ H
def suW (X : Cx) (body : List Stmt) (a : Addr) (cls : Value) (d : Option Addr) : TS := fun D σ H => ∀ oe pn, Zc cls d oe → (∃ vs, oe.data = .fields vs) → WSs (X.suite a ((a, oe) :: pn)) body D σ H
theorem hd_cons {c : Value} {s0 : Stmt} {more : List Stmt} {np hp : Pos} (nm : Names X x c) (r : HdsN X n hds l) : HdsN X n (.ExceptHandler (some (.Name x np)) (some n) (s0 :: more) hp :: hds) ((c, suW X (s0 :: more)) :: l) :=
  .cons nm (fun a oe cls d pn hz hf => ⟨fun pins s σ H D I h => h oe pn hz hf pins s I⟩) r
theorem ws_try (C : Cz E N vb wb G sc k X) (hs : X.stack = X.env :: X.outer) (hf : X.env.frame = some X.env.locals) (i : Nat) (hN : N[i]? = some n) (hln : sc.names.lookup n = some .local) (hh : HdsN X n (h0 :: hds) l)
    (hb : ∀ Y, Cz E N vb wb G sc k Y → Takes Y (wAsN X.K i D0 l) → WSs Y body D0 σ H) : WS X (.Try body (h0 :: hds) [] [] pos) D0 σ H :=
  WS.of (ps_try_asN (tb := trW X body) hs hf (by rw [C.hN]; exact C.nd) (by rw [C.hN]; exact hN) (by show X.env.scope.names.lookup n = _; rw [C.hsc]; exact hln) (fun W pn xe tk hp => ⟨fun pins s σ H D I h => h pn xe tk hp pins s I⟩) hh) (fun pn xe tk hp => hb (X.tr pn xe) (C.tr pn xe hp) tk)
/-- a call that may raise, told over heaps -/
theorem we_callX (C : Cz E N vb wb G sc k X) (i : Nat) {pre : List D → Prop} {post : List D → D → Prop} {err : List D → Addr → Str → D → Prop} {W : WX} {Q : VK} (F : FnX E.P E.w E.K E.mg E.base x j (spX E.K pre post err)) (tk : Takes X W) (S : Sees E Δ σ B H)
    (ha : EvA X E (a :: es) Δ ds) (hpre : pre ds) (q : ∀ v B' H' d, Pg B H B' H' → Dn E.K B' v d → post ds d → Q v H') (herr : ∀ C1 f y B' H' dd v, err ds C1 f y → Pg B H B' H' → H' dd = some (.xd [(f, v)]) → Dn E.K B' v y → W (.ref C1) (some dd) σ H') (hj : j ≤ k := by decide) (hG : G[i]? = some x := by rfl)
    (he : starEach (a :: es) X.env = (false, eval a X.env) :: starEach es X.env := by rfl) (hpl : (backTo pos (starEach es X.env)).any (·.1) = false := by rfl) : WE X (.Call (.Name x p) (a :: es) [] pos) σ H Q := by
  obtain ⟨h1, h2⟩ := C.gl i x hG
  obtain ⟨f, fd, ps, g1, g2, g3, g4⟩ := F.ex
  rw [← C.hK] at g2 g3
  rw [← C.hP, ← C.hw, ← C.hK, ← C.hm, ← C.hb] at g4
  refine WE.of (pe_callS g4 (C.room.mono hj) h1 (by rw [C.hm]; exact g1) g2 g3 (fun σ => passAt tk σ) (pa_W _) h2 he hpl) (ha σ B H S _ fun vs B1 H1 p1 r1 => ?_)
  rw [C.hK]
  exact ⟨B1, ds, p1.sub, r1, hpre, fun v B2 H2 d hd p2 r2 => q v B2 H2 d (p1.trans p2) r2 hd, fun C1 dd B2 H2 f1 v y hy p2 hdd ry => herr C1 f1 y B2 H2 dd v hy (p1.trans p2) hdd ry⟩
/-- return (tag, e.f) behind except -/
theorem ws_tell {C1 a dd : Addr} {oe : Obj} {pn : List (Addr × Obj)} {v : V} (C : Cz E N vb wb G sc k X) (i : Nat) (T : XfC E.K C1) (hno : PySem.W.findIn E.K (.ref C1) f = some none) (hz : Zc (.ref C1) (some dd) oe) (hf : ∃ vs, oe.data = .fields vs) (hdd : H dd = some (.xd [(f, v)])) (q : ∀ p, H p = none → D0.rt (.ref p) (upd H p (.tup [.str tag, v])))
    (hN : N[i]? = some n := by rfl) (hv : vb[i]? = some true := by rfl) (hb : attributeBase (.Name n p1) f X.env (eval (.Name n p1) X.env) = eval (.Name n p1) X.env := by rfl) (hs1 : starEach [.Constant (.str tag) j pc, .Attribute (.Name n p1) f p2] X.env = (false, eval (.Constant (.str tag) j pc) X.env) :: starEach [.Attribute (.Name n p1) f p2] X.env := by rfl) (hs2 : starEach [.Attribute (.Name n p1) f p2] X.env = (false, eval (.Attribute (.Name n p1) f p2) X.env) :: starEach [] X.env := by rfl) :
    WSs (X.suite a ((a, oe) :: pn)) [.Return (some (.Tuple [.Constant (.str tag) j pc, .Attribute (.Name n p1) f p2] x1 p3)) p4] D0 (σ.set i (some (.ref a))) H := by
  intro pins s I
  have hl : (σ.set i (some (V.ref a))).length = X.N.length := I.len
  obtain ⟨v1, v2, v3⟩ := C.vis i n hv hN
  have hi : i < σ.length := by
    rw [List.length_set, C.hN] at hl
    rw [hl]
    exact (List.getElem?_eq_some_iff.mp hN).1
  rw [← C.hK] at T hno
  refine (pss_cons (ps_ret (pe_tup (pa_cons pe_str (pa_cons (pe_xf T hno hz hf (pe_var (i := i) (by rw [C.hN]; exact hN) v1 v2 v3) hb) pa_nil hs2) hs1))) pss_nil).run pins s _ H D0 I ?_
  exact ⟨.ref a, List.getElem?_set_self hi, rfl, rfl, dd, _, v, rfl, hdd, by rw [List.lookup_cons, beq_self_eq_true], by show 2 ≤ _; decide, fun p np => q p np⟩
end
section
variable {P : Program} {w : World} {K : PySem.W.Frag} {mg : Str → Option Value} {base : Heap} {N G ps : List Str} {vb wb : List Bool} {x : Str} {st : Stmt} {k : Nat}
theorem At.nT {pre : List D → Prop} {post : List D → D → Prop} (A : At K mg x st ps) (S : FnScope N ps (defScope st)) (dc : DfC N (defScope st) vb wb G) (len : ∀ ds, pre ds → ds.length = ps.length)
    (body : ∀ X B H ds, Cz ⟨P, w, K, mg, base, [], B, H⟩ N vb wb G (defScope st) k X → X.stack = X.env :: X.outer → X.env.frame = some X.env.locals → pre ds → Go X ⟨P, w, K, mg, base, [], B, H⟩ (defBody st) (startD N ds) { nx := fun _ => post ds .non, rt := fun d _ => post ds d }) : FnD P w K mg base x (k + 1) (spN K pre post) := by
  obtain ⟨f, fd, F, g, b⟩ := A.ex
  refine ⟨f, fd, ps, g, F.kp, b, F.ok S (fun vs H Q E h => ?_) fun cdv A outer s H vs Q E0 hr h => ?_⟩
  · obtain ⟨B, ds, _, r, hR, _⟩ := h
    rw [r.length]; exact len ds hR
  · obtain ⟨B, ds, hs, r, hR, q⟩ := h
    exact ⟨_, pss_W _, body _ B H ds (cz_of S dc hr) rfl rfl hR _ B H (startD_sees hs r) _ ⟨fun σ' B' H' Δ' x S' h => q _ B' H' _ h ⟨S'.rn, S'.sub⟩ .non, fun _ _ _ _ _ _ h => h.elim, fun _ _ _ _ _ _ h => h.elim, fun v σ' B' H' d' Δ' x S' rv h => q v B' H' d' h ⟨S'.rn, S'.sub⟩ rv, fun _ _ _ _ _ _ _ _ _ _ _ h => h.elim⟩⟩
end
/-- what the law is told of a name -/
def Told (v : List Se) (n : Str) (d : D) : Prop := (∃ fl r, flts v = fl :: r ∧ d = .tup [.str "fault", fl.d]) ∨ (flts v = [] ∧ n ∉ files v ∧ d = .tup [.str "text", .str n]) ∨ ∃ c, flts v = [] ∧ n ∈ files v ∧ Lays v n c ∧ d = .tup [.str "told", .str (Txt.join "" (c.map sgnS))]
/-- which clause takes which error -/
structure Exm (K : PySem.W.Frag) (Cw Ct Cn : Addr) : Prop where
  nn : PySem.W.exmOne K (.ref Cn) (.ref Cn) = some true
  tn : PySem.W.exmOne K (.ref Ct) (.ref Cn) = some false
  tt : PySem.W.exmOne K (.ref Ct) (.ref Ct) = some true
  xn : XfC K Cn
  xt : XfC K Ct
section
variable {P : Program} {w : World} {K : PySem.W.Frag} {mg : Str → Option Value} {base : Heap} {C0 Cw Ct Cn : Addr}
theorem ok_ltold (A : TgT P w K mg base C0 Cw Ct Cn) (Xm : Exm K Cw Ct Cn) (L : At K mg "_law_told" s_l_told P_l_told) (v : List Se) (n : Str) (hv : WebOk v) (hc : flts v = [] → n ∈ files v → ∃ c, Lays v n c) : FnD P w K mg base "_law_told" 12 (spN K (fun ds => ds = [webD v, .str n]) fun _ d => Told v n d) := by
  refine L.nT sc_l_told dc_l_told (fun ds h => by subst h; rfl) fun X B0 H0 ds C hs hf hR => ?_
  subst hR
  have F := ok_tangled A (.web v) n (fun v2 e h1 h2 => by cases e; exact hc h1 h2)
  show Go X _ _ [.d (webD v), .d (.str n), .un] _
  refine go_cons ?_
  intro σ B H S D0 M
  obtain ⟨n1, n2⟩ := C.gl 1 "NotWhole" rfl
  obtain ⟨t1, t2⟩ := C.gl 2 "NoText" rfl
  have mn : X.mg "NotWhole" = some (.ref Cn) := by rw [C.hm]; exact A.er.n.g
  have mt : X.mg "NoText" = some (.ref Ct) := by rw [C.hm]; exact A.er.t.g
  have tell : ∀ {H' B' : Hp} {u : V} {y : D} {tag : Str} {p : Addr}, Pg B H B' H' → Dn K B' u y → Told v n (.tup [.str tag, y]) → H' p = none → D0.rt (.ref p) (upd H' p (.tup [.str tag, u])) := fun {H' B' u y tag p} pg r ht np =>
    M.rt (.ref p) σ (upd B' p (.tup [.str tag, u])) (upd H' p (.tup [.str tag, u])) (.tup [.str tag, y]) _ (pg.eb.trans (Ex.new (pg.sub.free np))) ((S.step pg).step (Pg.new pg.sub np)) (.tup upd_same (.cons (.str _) (.cons (r.mono (Ex.new (pg.sub.free np))) .nil))) ht
  refine ws_try C hs hf 2 rfl (by rfl) (hd_cons ⟨n1, n2, .inl mn⟩ (hd_cons ⟨t1, t2, .inl mt⟩ .nil)) fun Y CY tk => ?_
  refine WSs.of (pss_cons (ps_ret (pe_tup (pa_cons pe_str (pa_cons (pe_W _) pa_nil (by rfl)) (by rfl)))) pss_nil) ?_
  refine we_callX CY 0 F tk S (ea_cons (ev_nm CY 0 rfl) (ea_cons (ev_nm CY 1 rfl) ea_nil)) ⟨rfl, hv⟩ (fun u B' H' d pg r hd => ?_) fun C1 f y B' H' dd u he pg hdd ry => ?_
  · obtain ⟨v2, c, e, h1, h2, h3, rfl⟩ := hd
    cases e
    exact ⟨by show 2 ≤ _; decide, fun p np => tell pg r (.inr (.inr ⟨c, h1, h2, h3, rfl⟩)) np⟩
  · rcases he with ⟨_, _, _, hg⟩ | ⟨v2, e, he | he⟩
    · cases hg
    · cases e
      obtain ⟨rfl, rfl, fl, r, hfl, rfl⟩ := he
      exact ⟨true, by rw [C.hK]; exact Xm.nn, fun _ a na => fun oe pn hz hfs => ws_tell C 2 Xm.xn A.er.n.no hz hfs hdd fun p np => tell pg ry (.inl ⟨fl, r, hfl, rfl⟩) np, fun h => by cases h⟩
    · cases e
      obtain ⟨rfl, rfl, rfl, hfl, hnf⟩ := he
      exact ⟨false, by rw [C.hK]; exact Xm.tn, fun h => (by cases h), fun _ => ⟨true, by rw [C.hK]; exact Xm.tt, fun _ a na => fun oe pn hz hfs => ws_tell C 2 Xm.xt A.er.t.no hz hfs hdd fun p np => tell pg ry (.inr (.inl ⟨hfl, hnf, rfl⟩)) np, fun h => by cases h⟩⟩
end
end Kn
/-! K26: defs that are called while no repr goes on. -/
namespace Kn
open PySem PySem.Spec PyProof.Rows L2
structure FnG (P : Program) (w : World) (K : PySem.W.Frag) (mg : Str → Option Value) (base : Heap) (k : Nat) (f : Addr) (fd : FuncData) (ps : List Str) (sp : Sp) : Prop where
  count : ∀ vs H Q E, sp vs H Q E → vs.length = ps.length
  go : ∀ (A : Around) (outer : List Env) (s : Shared) (H : Hp) (args : Args) (us : List Value) (vs : List V) (Q : VK) (E : XK), Room k A → A.guards = some [] → Env0 P w K mg base A outer s H → BindsTo s fd args (ps.zip us) → Vals vs us → sp vs H Q E →
    codeAny (model P w) A (.call (.ref f) args) (CR CX0 outer P w H s Q E) s
section
variable {P : Program} {w : World} {K : PySem.W.Frag} {mg : Str → Option Value} {base : Heap} {x qual : Str} {st : Stmt} {f : Addr} {fd : FuncData} {N G ps : List Str} {vb wb : List Bool} {k : Nat} {sp : Sp}
theorem fun_okG (F : Fun K x qual st f fd) (S : FnScope N ps (defScope st)) (cnt : ∀ vs H Q E, sp vs H Q E → vs.length = ps.length)
    (hbody : ∀ (cdv : Value) (A : Around) (outer : List Env) (s : Shared) (H : Hp) (vs : List V) (Q : VK) (E : XK), Room k (A.deeper (envOfC qual (defScope st) s.heap.objs.size f cdv)) → A.guards = some [] → sp vs H Q E →
      ∃ t, PSs (cxOf CX0 P w K mg base N qual (defScope st) f cdv A outer s H E).nox (defBody st) t ∧ t { nx := fun _ H' => Q .non H', rt := Q } (start N vs) H) : FnG P w K mg base (k + 1) f fd ps sp := by
  obtain ⟨o1, o2, w1, w2, w3, w4, cdv, w5, o3, rfl, lk, hcd⟩ := F.ex
  refine ⟨cnt, fun A outer s H args us vs Q E rm gd env hb rv hsp => ?_⟩
  have cl := cnt _ _ _ _ hsp
  have kin : K.In s.heap := env.mod.kin.keeps fun b o e => (env.bs b o e).1
  have nl : s.heap.NoLimit := env.mod.nolimit.keeps fun b o e => (env.bs b o e).1
  have kd : ∀ y ∈ ps.zip us, (defScope st).names.lookup y.1 = some .local ∨ ((defScope st).names.lookup y.1 = some .cell ∧ ((cellsFrom (s.heap.objs.size + 1) (defScope st).names []).lookup y.1).isSome = true) := fun ⟨n, v⟩ hy => (S.par n (List.of_mem_zip hy).1).imp id fun q => ⟨q, PySem.W.cellsFrom_some _ _ _ (.inl q)⟩
  refine codeAny_call_function rm.depth (kin _ _ lk) rfl S.co S.gen rfl (PySem.W.codeRec_of kin hcd) (hb _ _ _ _ ?_)
  refine wpAny_newFunctionEnv_cells S.kind kd fun e1 he s1 xx => ?_
  subst he
  refine ⟨nl.keeps xx.toInCall.keep, codeAny_func ?_⟩
  obtain ⟨t, ht, hq⟩ := hbody cdv A outer s H vs Q E (rm.deeper _) gd hsp
  have J : Inv (cxOf CX0 P w K mg base N qual (defScope st) f cdv A outer s H E) [] (start N vs) H s1 := inv_start S rm.hd env cl rv xx
  refine wpAny_mono (ht.nox.run [] s1 (start N vs) H _ J hq) (fun fl s' hs => ?_) fun e s' hs => hs
  have done : ∀ {σ' : L2.St} {H' : Hp} {v : V} {u : Value}, Inv (cxOf CX0 P w K mg base N qual (defScope st) f cdv A outer s H E) [] σ' H' s' → RelV v u → Q v H' → CE outer P w H s Q u s' := fun {σ' H' v u} Z rv q => ⟨v, H', Z.os, Z.bare, Z.base, Z.hok, rv, q⟩
  cases fl with
  | ret u => obtain ⟨v, σ', H', Z, rv, q⟩ := hs; exact done Z rv q
  | next => obtain ⟨σ', H', Z, q⟩ := hs; exact done (v := V.non) (u := Value.none) Z rfl q
  | brk => obtain ⟨_, _, _, q⟩ := hs; exact q.elim
  | cont => obtain ⟨_, _, _, q⟩ := hs; exact q.elim
/-- a def of the text, by its name, called while no repr goes on -/
structure FnDG (P : Program) (w : World) (K : PySem.W.Frag) (mg : Str → Option Value) (base : Heap) (x : Str) (j : Nat) (sp : Sp) : Prop where
  ex : ∃ (f : Addr) (fd : FuncData) (ps : List Str), mg x = some (.ref f) ∧ PySem.W.keepIn K (.ref f) = true ∧ Binds K fd ps [] ∧ FnG P w K mg base j f fd ps sp
theorem At.pG {pre : List D → Prop} {post : List D → D → Prop} (A : At K mg x st ps) (S : FnScope N ps (defScope st)) (dc : DfC N (defScope st) vb wb G) (len : ∀ ds, pre ds → ds.length + 1 = ps.length)
    (body : ∀ X B H l c ds, Cz ⟨P, w, K, mg, base, [l], B, H⟩ N vb wb G (defScope st) k X → X.stack = X.env :: X.outer → X.env.frame = some X.env.locals → X.A.guards = some [] → pre ds → Go X ⟨P, w, K, mg, base, [l], B, H⟩ (defBody st) (startP N l c ds) { nx := fun _ => False, rt := fun d Δ => post ds d ∧ Δ[0]? = some (.own (.pool l (.some c))) }) : FnDG P w K mg base x (k + 1) (spP K pre post) := by
  obtain ⟨f, fd, F, g, b⟩ := A.ex
  refine ⟨f, fd, ps, g, F.kp, b, fun_okG F S (fun vs H Q E h => ?_) fun cdv A outer s H vs Q E0 hr gd h => ?_⟩
  · obtain ⟨B, p, c, ws, ds, rfl, _, _, _, r, hR, _⟩ := h
    rw [List.length_cons, r.length]; exact len ds hR
  · obtain ⟨B, l, c, ws, ds, rfl, hs, hl, ho, r, hR, q⟩ := h
    refine ⟨_, pss_W _, body _ B H l c ds (cz_of S dc hr) rfl rfl gd hR _ B H (startP_sees hs hl ho r) _ ⟨fun σ' B' H' Δ' x S' h => h.elim, fun _ _ _ _ _ _ h => h.elim, fun _ _ _ _ _ _ h => h.elim, fun v σ' B' H' d' Δ' x S' rv h => ?_, fun l σ' B' H' o' Δ' x S' hE hB r h => h.elim⟩⟩
    obtain ⟨l', _, _, _, ho'⟩ := S'.own h.2
    have e : l' = l := ho'.1
    subst e
    exact q v B' H' d' h.1 S'.rn S'.sub ho' rv
end
section
variable {X : Cx} {E : En} {N G : List Str} {vb wb : List Bool} {sc : Scope} {k : Nat} {Δ : List Slot} {a b e : Expr} {pos p py : Pos} {j : Nat} {es : List Expr} {x : Str} {f : Addr} {fd : FuncData} {ps : List Str} {sp : Sp} {t : TA}
theorem pe_callG (F : FnG X.prog X.w X.K X.mg X.base k f fd ps sp) (hr : Room k X.A) (gd : X.A.guards = some []) (hg : Gl X x) (hm : X.mg x = some (.ref f)) (hk : PySem.W.keepIn X.K (.ref f) = true) (hb : Binds X.K fd ps []) (ha : PA X (e :: es) t) (hdb : (x == ("__debug__" : Str)) = false)
    (he : starEach (e :: es) X.env = (false, eval e X.env) :: starEach es X.env) (hpl : (backTo pos (starEach es X.env)).any (·.1) = false) : PE X (.Call (.Name x p) (e :: es) [] pos) (fun σ H Q => t σ H fun vs H1 => sp vs H1 Q fun _ _ _ => False) := by
  refine ⟨fun pins s σ H Q I h => wpAny_Call_Name_kw (ld_glob I hg hm ?_ hdb)⟩
  refine PySem.W.callWith_K (h₀ := X.base) I.ok.mod.kin hk (thn (ha.run pos pins s σ H _ I h) fun us s1 ⟨vs, H1, J, r, q⟩ => ⟨J.kIn, ?_⟩) he hpl
  have r2 : Vals vs (us ++ []) := by rw [List.append_nil]; exact r
  have hl : (us ++ []).length = ps.length := by rw [← r2.length]; exact F.count _ _ _ _ q
  have cr := F.go X.A X.stack s1 H1 ⟨us, []⟩ (us ++ []) vs Q (fun _ _ _ => False) hr gd J.env0 (hb s1 us J.kIn hl) r2 q
  refine wpAny_call (codeAny_mono cr fun r s' hq => ?_)
  cases r with
  | error e => exact pass0 pins σ H1 s1 e s' J hq
  | ok fl => cases fl with
    | ret u => exact J.after hq
    | next => exact hq.elim
    | brk => exact hq.elim
    | cont => exact hq.elim
/-- a call with the pool -/
theorem do_callG (C : Cz E N vb wb G sc k X) (gd : X.A.guards = some []) (i n : Nat) {y : Str} {lp cp : Addr} {pre : List D → Prop} {post : List D → D → Prop} {P : D → Prop} (F : FnDG E.P E.w E.K E.mg E.base x j (spP E.K pre post)) (hpool : Δ[n]? = some (.own (.pool lp (.some cp))))
    (ha : DoA X E es Δ fun ds => pre ds ∧ ∀ d, post ds d → P d) (hv : vb[n]? = some true := by rfl) (hN : N[n]? = some y := by rfl) (hj : j ≤ k := by decide) (hG : G[i]? = some x := by rfl)
    (he : starEach (.Name y py :: es) X.env = (false, eval (.Name y py) X.env) :: starEach es X.env := by rfl) (hpl : (backTo pos (starEach es X.env)).any (·.1) = false := by rfl) : Do X E (.Call (.Name x p) (.Name y py :: es) [] pos) Δ P := fun σ B H S Q q => by
  obtain ⟨h1, h2⟩ := C.gl i x hG
  obtain ⟨f, fd, ps, g1, g2, g3, g4⟩ := F.ex
  rw [← C.hm] at g1
  rw [← C.hK] at g2 g3
  rw [← C.hP, ← C.hw, ← C.hK, ← C.hm, ← C.hb] at g4
  obtain ⟨v1, v2, v3⟩ := C.vis n y hv hN
  obtain ⟨l, el, _, _, hlp, _⟩ := S.own hpool
  subst hlp
  refine WE.of (pe_callG g4 (C.room.mono hj) gd h1 g1 g2 g3 (pa_cons (pe_var (i := n) (by rw [C.hN]; exact hN) v1 v2 v3) (pa_W es) he) h2 he hpl) ⟨.ref l, el, ?_⟩
  rw [C.hK]
  refine ha σ B H S _ fun vs B1 H1 ds x1 S1 r1 ⟨hpre, hpost⟩ => ?_
  obtain ⟨l', el', nB, mE, ho⟩ := S1.own hpool
  rw [el] at el'; cases el'
  refine ⟨B1, l, cp, vs, ds, rfl, S1.sub, nB, ho, r1, hpre, fun v B2 H2 d hd rn sub ho2 r2 => ?_⟩
  refine q v B2 H2 d (x1.trans ⟨rn.eb, fun b u nb hb => rn.eh b u (by simp only [List.mem_singleton]; rintro rfl; exact nb n _ (.some cp) hpool el) hb, rn.th, rn.fr⟩) ⟨sub, ⟨S1.rn.eb.trans rn.eb, fun b u nb hb => ?_, fun b hb => rn.th b (S1.rn.th b hb), fun b hb nb => rn.fr b (S1.rn.th b hb) (S1.rn.fr b hb nb)⟩, fun i2 s hs => ?_, S1.ap⟩ r2 (hpost d hd)
  · refine rn.eh b u ?_ (S1.rn.eh b u nb hb)
    simp only [List.mem_singleton]
    rintro rfl
    rcases mE with z | ⟨_, z⟩
    · rw [z] at hb; cases hb
    · exact nb z
  · have qs := S1.sl i2 s hs
    cases s with
    | un => trivial
    | d y => obtain ⟨u, e3, r3⟩ := qs; exact ⟨u, e3, r3.mono rn.eb⟩
    | own o2 =>
      obtain ⟨l2, e2, n2, m2, r3⟩ := qs
      by_cases hll : l2 = l
      · subst hll
        have := S1.ap i2 n _ _ _ hs hpool e2 el
        subst this
        rw [hpool] at hs; cases hs
        exact ⟨l2, e2, rn.fr l2 r3.there n2, m2, ho2⟩
      · refine ⟨l2, e2, rn.fr l2 r3.there n2, m2, r3.mono rn.eb ?_⟩
        cases hu : H1 l2 with
        | none => exact absurd hu r3.there
        | some u => exact rn.eh l2 u (by simpa using hll) hu
end
end Kn
/-! K27: repr of data; isinstance behind except; the refusal. -/
namespace Kn
open PySem PySem.Spec PyProof.Rows L2
/-- data that repr shows, of bounded size -/
structure Sh (W n : Nat) (d : PyData) : Prop where
  w : d.weight ≤ W
  dp : d.depth ≤ n
  sh : d.showable = true
  nd : d.hasDict = false
  lv : d.leavesShort 13 = true
structure ShAll (W n : Nat) (ds : List PyData) : Prop where
  w : PyData.weightAll ds ≤ W
  dp : PyData.depthAll ds ≤ n
  sh : PyData.showableAll ds = true
  nd : PyData.hasDictAll ds = false
  lv : PyData.leavesShortAll 13 ds = true
theorem Sh.mono {W W' n n' : Nat} {d : PyData} (h : Sh W n d) (h1 : W ≤ W') (h2 : n ≤ n') : Sh W' n' d := ⟨Nat.le_trans h.w h1, Nat.le_trans h.dp h2, h.sh, h.nd, h.lv⟩
theorem sh_all {W n : Nat} : ∀ {ds : List PyData}, (∀ d ∈ ds, Sh W n d) → ShAll ((W + 1) * ds.length) n ds
  | [], _ => ⟨Nat.zero_le _, Nat.zero_le _, rfl, rfl, rfl⟩
  | d :: r, h => by
    have h1 := h d List.mem_cons_self
    have h2 := sh_all fun z hz => h z (List.mem_cons_of_mem _ hz)
    refine ⟨?_, ?_, ?_, ?_, ?_⟩
    · show d.weight + 1 + PyData.weightAll r ≤ (W + 1) * (r.length + 1)
      have := h1.w; have := h2.w
      rw [Nat.mul_add, Nat.mul_one]; omega
    · show Nat.max d.depth (PyData.depthAll r) ≤ n
      exact Nat.max_le.mpr ⟨h1.dp, h2.dp⟩
    · show (d.showable && PyData.showableAll r) = true
      rw [h1.sh, h2.sh]; rfl
    · show (d.hasDict || PyData.hasDictAll r) = false
      rw [h1.nd, h2.nd]; rfl
    · show (d.leavesShort 13 && PyData.leavesShortAll 13 r) = true
      rw [h1.lv, h2.lv]; rfl
theorem sh_seq {W n m : Nat} {ds : List PyData} (h : ∀ d ∈ ds, Sh W n d) (hl : ds.length ≤ m) : Sh ((W + 1) * m) (n + 1) (.tuple ds) ∧ Sh ((W + 1) * m) (n + 1) (.list ds) := by
  have a := sh_all h
  have w : PyData.weightAll ds ≤ (W + 1) * m := Nat.le_trans a.w (Nat.mul_le_mul_left _ hl)
  have dp := a.dp
  exact ⟨⟨w, by show PyData.depthAll ds + 1 ≤ _; omega, a.sh, a.nd, a.lv⟩, ⟨w, by show PyData.depthAll ds + 1 ≤ _; omega, a.sh, a.nd, a.lv⟩⟩
theorem sh_str {x : Str} {n : Nat} (h1 : x.length ≤ n) (h2 : ∀ c ∈ codes x, c ≤ 126) : Sh n 0 (.str x) :=
  ⟨h1, Nat.zero_le _, rfl, rfl, List.all_eq_true.mpr fun c hc => decide_eq_true (Nat.lt_of_le_of_lt (h2 c hc) (by decide))⟩
theorem sh_int {n : Nat} (h : n ≤ 20) : Sh 6 0 (.int (n : Int)) := by
  have a : ∀ m : Nat, m < 21 → PyData.weight (.int (m : Int)) ≤ 6 ∧ PyData.showable (.int (m : Int)) = true := by decide +kernel
  obtain ⟨h1, h2⟩ := a n (by omega)
  exact ⟨h1, Nat.zero_le _, h2, rfl, decide_eq_true (PyData.shown_int_le (by show (n : Int).natAbs < _; omega))⟩
theorem sh_bl (b : Bool) : Sh 0 0 (.bool b) := ⟨Nat.zero_le _, Nat.zero_le _, rfl, rfl, rfl⟩
theorem sh_non : Sh 0 0 .none := ⟨Nat.zero_le _, Nat.zero_le _, rfl, rfl, rfl⟩
theorem pys_mem {d : PyData} : ∀ {xs : List D}, d ∈ pys xs → ∃ x ∈ xs, d = x.py
  | x :: r, h => by
    rcases List.mem_cons.mp (show d ∈ x.py :: pys r from h) with e | e
    · exact ⟨x, List.mem_cons_self, e⟩
    · obtain ⟨y, hy, e2⟩ := pys_mem e
      exact ⟨y, List.mem_cons_of_mem _ hy, e2⟩
/-- data that repr shows and that is plain -/
def ShD (W n : Nat) (d : D) : Prop := Sh W n d.py ∧ d.plain = true
theorem plains_of {xs : List D} (h : ∀ x ∈ xs, x.plain = true) : plains xs = true := by
  induction xs with
  | nil => rfl
  | cons x r ih =>
    show (x.plain && plains r) = true
    rw [h x List.mem_cons_self, ih fun y hy => h y (List.mem_cons_of_mem _ hy)]; rfl
theorem shd_seq {W n m W' n' : Nat} {xs : List D} (h : ∀ x ∈ xs, ShD W n x) (hl : xs.length ≤ m) (hW : (W + 1) * m ≤ W') (hn : n + 1 ≤ n') : ShD W' n' (.tup xs) ∧ ShD W' n' (.lst xs) := by
  have hp := plains_of fun x hx => (h x hx).2
  have hs := sh_seq (ds := pys xs) (m := m) (fun d hd => by obtain ⟨x, hx, e⟩ := pys_mem hd; rw [e]; exact (h x hx).1) (by rw [pys_len]; exact hl)
  exact ⟨⟨hs.1.mono hW hn, hp⟩, ⟨hs.2.mono hW hn, hp⟩⟩
theorem ShD.mono {W W' n n' : Nat} {d : D} (h : ShD W n d) (h1 : W ≤ W') (h2 : n ≤ n') : ShD W' n' d := ⟨h.1.mono h1 h2, h.2⟩
theorem shd_line {x : Str} (h : LineOk x) : ShD 40 0 (.str x) := ⟨sh_str h.len fun c hc => (h.all c hc).2.1, rfl⟩
theorem shd_word {x : Str} (h : WordOk x) : ShD 40 0 (.str x) := ⟨sh_str (Nat.le_trans h.le (by decide)) fun c hc => Nat.le_trans (h.all c hc).2 (by decide), rfl⟩
theorem shd_lit {x : Str} (h : (decide (x.length ≤ 40) && (codes x).all fun c => decide (c ≤ 126)) = true) : ShD 40 0 (.str x) := by
  obtain ⟨h1, h2⟩ := Bool.and_eq_true_iff.mp h
  exact ⟨sh_str (of_decide_eq_true h1) fun c hc => of_decide_eq_true (List.all_eq_true.mp h2 c hc), rfl⟩
theorem mem2 {α : Type} {P : α → Prop} {a b : α} (h1 : P a) (h2 : P b) : ∀ x ∈ [a, b], P x := fun x hx => by
  rcases List.mem_cons.mp hx with e | hx
  · rw [e]; exact h1
  · rw [List.mem_singleton.mp hx]; exact h2
theorem mem_c {α : Type} {P : α → Prop} {a : α} {l : List α} (h1 : P a) (h2 : ∀ x ∈ l, P x) : ∀ x ∈ a :: l, P x := fun x hx => by
  rcases List.mem_cons.mp hx with e | hx
  · rw [e]; exact h1
  · exact h2 x hx
theorem mem_n {α : Type} {P : α → Prop} : ∀ x ∈ ([] : List α), P x := fun x hx => by cases hx
theorem mem_m {α β : Type} {P : β → Prop} {f : α → β} {l : List α} (h : ∀ a ∈ l, P (f a)) : ∀ x ∈ l.map f, P x := fun x hx => by
  obtain ⟨a, ha, e⟩ := List.mem_map.mp hx
  rw [← e]; exact h a ha
theorem shd_ln {l : Ln} (h : l.Ok) : ShD 804 2 l.d := by
  cases l with
  | plain s => exact (shd_seq (W := 200) (n := 1) (m := 4) (mem_c ((shd_lit (by decide +kernel)).mono (by decide) (by decide)) (mem_c ((shd_line h).mono (by decide) (by decide)) mem_n)) (by show 2 ≤ 4; decide) (by decide) (by decide)).1
  | use n x as =>
    obtain ⟨h1, h2, h3, h4⟩ := (show n ≤ 20 ∧ WordOk x ∧ as.length ≤ 3 ∧ ∀ a ∈ as, ArgOk a from h)
    have ha := (shd_seq (W := 40) (n := 0) (m := 3) (W' := 200) (n' := 1) (xs := as.map D.str) (mem_m fun a ha => shd_line (h4 a ha).line) (by rw [List.length_map]; exact h3) (by decide) (by decide)).1
    exact (shd_seq (W := 200) (n := 1) (m := 4) (mem_c ((shd_lit (by decide +kernel)).mono (by decide) (by decide)) (mem_c (ShD.mono ⟨sh_int h1, rfl⟩ (by decide) (by decide)) (mem_c ((shd_word h2).mono (by decide) (by decide)) (mem_c ha mem_n)))) (by show 4 ≤ 4; decide) (by decide) (by decide)).1
theorem shd_hd {h : Option Hd} (ok : ∀ g, h = some g → g.Ok) : ShD 372 2 (hdD h) := by
  cases h with
  | none => exact ⟨sh_non.mono (by decide) (by decide), rfl⟩
  | some g =>
    have k := ok g rfl
    have hp := (shd_seq (W := 40) (n := 0) (m := 3) (W' := 123) (n' := 1) (xs := g.params.map D.str) (mem_m fun a ha => shd_word (k.all a ha)) (by rw [List.length_map]; exact k.few) (by decide) (by decide)).1
    exact (shd_seq (W := 123) (n := 1) (m := 3) (mem_c ((shd_word k.name).mono (by decide) (by decide)) (mem_c hp (mem_c (ShD.mono ⟨sh_bl _, rfl⟩ (by decide) (by decide)) mem_n))) (by show 3 ≤ 3; decide) (by decide) (by decide)).1
theorem shd_se {s : Se} (ok : s.Ok) : ShD 19323 4 s.d := by
  have hp := (shd_seq (W := 40) (n := 0) (m := 8) (W' := 328) (n' := 1) (xs := s.prose.map D.str) (mem_m fun a ha => shd_line (ok.prose a ha)) (by rw [List.length_map]; exact ok.few) (by decide) (by decide)).1
  have hc := (shd_seq (W := 804) (n := 2) (m := 8) (W' := 6440) (n' := 3) (xs := s.code.map Ln.d) (mem_m fun a ha => shd_ln (ok.code a ha)) (by rw [List.length_map]; exact ok.short) (by decide) (by decide)).1
  exact (shd_seq (W := 6440) (n := 3) (m := 3) (mem_c (hp.mono (by decide) (by decide)) (mem_c ((shd_hd ok.head).mono (by decide) (by decide)) (mem_c hc mem_n))) (by show 3 ≤ 3; decide) (by decide) (by decide)).1
theorem shd_web {v : List Se} (ok : WebOk v) : ShD 251212 5 (.lst (v.map Se.d)) ∧ ShD 251212 5 (.tup (v.map Se.d ++ [.non])) := by
  have few := ok.few
  refine ⟨(shd_seq (W := 19323) (n := 4) (m := 13) (mem_m fun s hs => shd_se (ok.se s hs)) (by rw [List.length_map]; omega) (by decide) (by decide)).2, (shd_seq (W := 19323) (n := 4) (m := 13) (fun x hx => ?_) (by rw [List.length_append, List.length_map]; show _ + 1 ≤ _; omega) (by decide) (by decide)).1⟩
  rcases List.mem_append.mp hx with q | q
  · exact mem_m (P := ShD 19323 4) (fun s hs => shd_se (ok.se s hs)) x q
  · rw [List.mem_singleton.mp q]; exact ⟨sh_non.mono (by decide) (by decide), rfl⟩
theorem Sh.fits {d : PyData} (h : Sh 251212 5 d) : d.shown.length ≤ sizeLine := PyData.shown_fits (by decide) (Nat.le_refl _) h.lv (Nat.le_trans h.w (by decide))
/-- repr(data) -/
def rReprD (K : PySem.W.Frag) : List V → Hp → VK → Prop := fun xs H Q => ∃ v d, xs = [v] ∧ Dp K H v d ∧ (v = .non ∨ ∃ a, v = .ref a) ∧ Sh 251212 5 d ∧ Q (.str d.shown) H
theorem call_reprD {X : Cx} (gd : X.A.guards = some []) (hu : X.A.units + 100 < cLine) : CallR X (.builtin "repr") (rReprD X.K) := by
  intro pins s σ H xs us Q I r h
  obtain ⟨v, d, rfl, hd, hv, hs, q⟩ := h
  cases r with
  | cons rx rr =>
    cases rr
    obtain ⟨as, hr⟩ := Dp.reads I d v _ hd rx
    rcases hv with rfl | ⟨a, rfl⟩
    · cases rx
      cases hd
      exact PySem.P.repr_of_none ⟨.str _, H, I.tok _, ⟨_, rfl⟩, q⟩
    · cases rx
      exact repr_of_reads' hr hs.sh (fun e => by rw [hs.nd] at e; cases e) gd (by have := hs.dp; omega) (fun _ _ e => e) (fun h' u tk hk => ⟨.str _, H, I.kept (t' := tk) hk, ⟨u, rfl⟩, q⟩) hs.fits
/-- what isinstance asks of an exception's class -/
structure IsE (K : PySem.W.Frag) (C1 : Addr) : Prop where
  cl : (PySem.W.clsIn K C1).isSome = true
  ga : PySem.W.findIn K (.ref C1) "__getattribute__" = some (some (.builtin "BaseException.__getattribute__"))
  gt : PySem.W.findIn K (.ref C1) "__getattr__" = some none
  sb : PySem.W.subIn K (.ref C1) (.type "BaseException") = some true
  ha : PySem.W.findIn K (.ref C1) "__class__" = some (some (.builtin "object.__class__"))
  hn : PySem.W.specialIn K (.builtin "object.__class__") "__get__" = some (some (.builtin "getset_descriptor.__get__"))
  tk : PySem.W.takesIn K (.builtin "object.__class__") = some true
  hm : PySem.W.mroIn K C1 (.type "object") = some true
theorem call_isD {X : Cx} {a C1 dd : Addr} {oe : Obj} {pn : List (Addr × Obj)} (T : IsE X.K C1) (hz : Zc (.ref C1) (some dd) oe) (hf : ∃ vs, oe.data = .fields vs) : CallR (X.suite a ((a, oe) :: pn)) (.builtin "isinstance") (fun xs H Q => ∃ fs, xs = [.ref a, .ref C1] ∧ H dd = some (.xd fs) ∧ Q (.bl true) H) := by
  intro pins s σ H xs us Q I r h
  obtain ⟨fs, rfl, ea, q⟩ := h
  cases r with
  | cons rx rr =>
    cases rr with
    | cons rt rr =>
      cases rr
      cases rx
      cases rt
      obtain ⟨hget, _⟩ := I.pin (a, oe) (List.mem_append_left _ List.mem_cons_self)
      obtain ⟨vs, hd⟩ := hf
      obtain ⟨mA, hns, _⟩ := (show ObjOk X.prog X.w H s.heap dd (.xd fs) from I.hok dd _ ea)
      obtain ⟨od, ho, _⟩ := lookIn_ns hns
      have J : PySem.W.InstAt s.heap a oe C1 (some od) := ⟨hget, hz.1, by unfold PySem.W.notCls; rw [hd] <;> rfl, by rw [hz.2]; exact ho⟩
      exact PySem.W.kia_one (PySem.W.kitx_exc T.cl T.ga T.gt T.sb T.ha T.hn T.tk T.hm) I.kIn J (by unfold PySem.W.kitOne; rw [beq_self_eq_true]; rfl) (fun z => nomatch z) fun tk => ⟨.bl true, H, I.kept (t' := tk) fun _ _ z => z, rfl, q⟩
end Kn
/-! L18: the refusal of what is no web. -/
namespace Kn
open PySem PySem.Spec PyProof.Rows L2
theorem boot_repr : bootBuiltins "repr" = some (.builtin "repr") := by decide +kernel
section
variable {P : Program} {w : World} {K : PySem.W.Frag} {mg : Str → Option Value} {base : Heap} {C0 Cw Ct Cn Ck : Addr}
theorem FnD.toN {x : Str} {j : Nat} {R : List D → D → Prop} {pre : List D → Prop} {post : List D → D → Prop} (F : FnD P w K mg base x j (spR K R)) (h : ∀ ds, pre ds → ∃ d, R ds d ∧ post ds d) : FnD P w K mg base x j (spN K pre post) := by
  obtain ⟨f, fd, ps, a, b, c, g⟩ := F.ex
  refine ⟨f, fd, ps, a, b, c, g.imp fun vs H Q E hs => ?_⟩
  obtain ⟨B, ds, e, r, hp, q⟩ := hs
  obtain ⟨d, h1, h2⟩ := h ds hp
  exact ⟨B, ds, d, e, r, h1, fun v B' H' pg rv => q v B' H' d h2 pg rv⟩
/-- what the refusal leans on -/
structure Rf (K : PySem.W.Frag) (mg : Str → Option Value) (Cw Ck : Addr) : Prop where
  k : mg "KnotError" = some (.ref Ck)
  m : PySem.W.exmOne K (.ref Cw) (.ref Ck) = some true
  x : XfC K Cw
  i : IsE K Cw
theorem lst_dp {B H : Hp} {v : V} {d : D} (e : Ex B H) (r : Dn K B v d) (hd : ShD 251212 5 d) (hs : d = .non ∨ (∃ xs, d = .lst xs) ∨ ∃ xs, d = .tup xs) : Dp K H v d.py ∧ (v = .non ∨ ∃ a, v = .ref a) := by
  refine ⟨Dn.py e r hd.2, ?_⟩
  rcases hs with rfl | ⟨xs, rfl⟩ | ⟨xs, rfl⟩
  · cases r; exact .inl rfl
  · cases r; exact .inr ⟨_, rfl⟩
  · cases r; exact .inr ⟨_, rfl⟩
theorem ok_lrefused (A : TgT P w K mg base C0 Cw Ct Cn) (Xm : Exm K Cw Ct Cn) (R : Rf K mg Cw Ck) (Lr : At K mg "_law_refused" s_l_refused P_l_refused) (Lt : At K mg "_law_told" s_l_told P_l_told) (Ls : At K mg "_law_same" s_l_same P_l_same) (F : FnD P w K mg base "_law_take" 2 (spP K pre_take post_take)) :
    FnDG P w K mg base "_law_refused" 13 (spP K (fun ds => ∃ v, ds = [webD v] ∧ WebOk v) fun _ d => d = .bl true) := by
  refine Lr.pG sc_l_refused dc_l_refused (fun ds h => by obtain ⟨_, rfl, _⟩ := h; rfl) fun X B0 H0 l c ds C hs hf gd hR => ?_
  obtain ⟨v, rfl, hv⟩ := hR
  have T := A.st.t
  have few := hv.few
  have w0 : WebOk ([] : List Se) := ⟨fun s hs => (by cases hs), Nat.zero_le _, fun s hs => (by cases hs)⟩
  have nof : ("a" : Str) ∉ files ([] : List Se) := fun h => by cases h
  have fl0 : flts ([] : List Se) = [] := rfl
  have Fs := FnD.toN (pre := fun ds => ds = [.tup [.str "text", .str "a"], .tup [.str "text", .str "a"]]) (post := fun _ d => d = .bl true) (ok_lsame (P := P) (w := w) (base := base) T Ls 1) (fun ds h => ⟨_, ⟨_, h, rfl, rfl⟩, rfl⟩)
  have Ft := ok_ltold A Xm Lt [] "a" w0 (fun _ h => absurd h nof)
  show Go X _ _ [.own (.pool l (.some c)), .d (webD v), .un, .un] _
  refine go_cons (gs_if (dt_not (dt_val (do_callN C 0 Fs (da_cons ((do_callN C 1 Ft (DoA.of (ea_cons (d := webD []) (ev_tup ea_nil) (ea_cons ev_str ea_nil)) ⟨rfl, fun d hd => hd⟩)).mono fun d hd => da_cons (Do.of (ev_tup (ea_cons ev_str (ea_cons ev_str ea_nil))) (da_nil ⟨?_, fun d2 hd2 => ?_⟩))))))))
  · rcases hd with ⟨fl, r, h, _⟩ | ⟨_, _, rfl⟩ | ⟨_, _, h, _⟩
    · rw [fl0] at h; cases h
    · rfl
    · exact absurd h nof
  subst hd2
  refine ⟨true, rfl, fun h => (by cases h), fun _ => go_nil ?_⟩
  have sw := shd_web hv
  refine go_cons (gs_via (fun Δ' => ∃ x : Vl, x.Ok ∧ x.good = false ∧ ShD 251212 5 x.d ∧ (x.d = .non ∨ (∃ xs, x.d = .lst xs) ∨ ∃ xs, x.d = .tup xs) ∧ Δ' = [.own (.pool l (.some c)), .d (webD v), .d x.d, .un]) (gs_set C 2 ?_) ?_)
  · refine do_ix C (Do.of (d := .lst [.lst (v.map Se.d), .non, .tup (v.map Se.d ++ [.non])]) (EvF.ld (ef_lst ?_ (by show 3 ≤ _; decide))) (do_take C 3 0 F rfl (Do.of ev_int ⟨3, rfl, by decide, by decide, fun i hi => ?_⟩)))
    · refine ea_cons (EvF.ld (ef_list C 2 (ev_nm (d := .tup (v.map Se.d)) C 1 rfl).r rfl T.list)) ?_
      refine ea_cons ev_non ?_
      exact ea_cons (ev_catT (ev_nm (d := .tup (v.map Se.d)) C 1 rfl) (ev_tup (ea_cons ev_non ea_nil)) (by rw [List.length_map]; show _ + 1 ≤ _; omega)) ea_nil
    match i, hi with
    | 0, _ => exact ⟨_, _, _, rfl, rfl, atI_nat rfl, .lst (v.map Se.d), trivial, rfl, sw.1, .inr (.inl ⟨_, rfl⟩), rfl⟩
    | 1, _ => exact ⟨_, _, _, rfl, rfl, atI_nat rfl, .non, trivial, rfl, ⟨sh_non.mono (by decide) (by decide), rfl⟩, .inl rfl, rfl⟩
    | 2, _ => exact ⟨_, _, _, rfl, rfl, atI_nat rfl, .bad v, hv, rfl, sw.2, .inr (.inr ⟨_, rfl⟩), rfl⟩
    | n + 3, h => omega
  rintro _ ⟨x, xok, xg, xs, xk, rfl⟩
  have nw : ∀ v2, x ≠ .web v2 := fun v2 e => by subst e; cases xg
  have FX := ok_tangled A x "" (fun v2 e _ _ => absurd e (nw v2))
  refine go_cons ?_
  intro σ B H S D0 M
  obtain ⟨k1, k2⟩ := C.gl 5 "KnotError" rfl
  have mk : X.mg "KnotError" = some (.ref Ck) := by rw [C.hm]; exact R.k
  refine ws_try C hs hf 3 rfl (by rfl) (hd_cons ⟨k1, k2, .inl mk⟩ .nil) fun Y CY tk => ?_
  refine WSs.of (pss_cons (ps_expr (pe_W _)) pss_nil) ?_
  refine we_callX CY 4 FX tk S (ea_cons (ev_nm CY 2 rfl) (ea_cons ev_str ea_nil)) ⟨rfl, xok⟩ (fun u B' H' d pg r hd => ?_) fun C1 f y B' H' dd u he pg hdd ry => ?_
  · obtain ⟨v2, c2, e, _⟩ := hd
    exact absurd e (nw v2)
  rcases he with ⟨rfl, rfl, rfl, hg⟩ | ⟨v2, e, _⟩
  rotate_left
  · exact absurd e (nw v2)
  refine ⟨true, by rw [C.hK]; exact R.m, fun _ a na => fun oe pn hz hfs => ?_, fun h => by cases h⟩
  have S2 := S.step pg
  obtain ⟨u2, el2, r2⟩ := S2.get (i := 2) (x := x.d) rfl
  obtain ⟨dp1, vr1⟩ := lst_dp pg.sub ry xs xk
  obtain ⟨dp2, vr2⟩ := lst_dp pg.sub r2 xs xk
  have fin : D0.rt (.bl true) H' := M.rt (.bl true) σ B' H' (.bl true) _ pg.eb S2 (.bl true) ⟨rfl, rfl⟩
  intro pins s I
  have hl : (σ.set 3 (some (V.ref a))).length = X.N.length := I.len
  have hi : 3 < σ.length := by
    rw [List.length_set, C.hN] at hl
    rw [hl]; decide
  obtain ⟨v1, v2, v3⟩ := C.vis 3 "e" rfl rfl
  obtain ⟨u1, u3, u4⟩ := C.vis 2 "_law_value" rfl rfl
  obtain ⟨i1, i2⟩ := C.gl 6 "isinstance" rfl
  obtain ⟨w1, w2⟩ := C.gl 7 "InvalidWeb" rfl
  obtain ⟨r3, r4⟩ := C.gl 8 "repr" rfl
  have mw : X.mg "InvalidWeb" = some (.ref C1) := by rw [C.hm]; exact A.er.w.g
  have mi : X.mg "isinstance" = none := by rw [C.hm]; exact T.isinstance
  have mr : X.mg "repr" = none := by rw [C.hm]; exact T.repr
  have hK : X.K = K := C.hK
  have xf : XfC X.K C1 := by rw [hK]; exact R.x
  have no : PySem.W.findIn X.K (.ref C1) "value" = some none := by rw [hK]; exact A.er.w.no
  have ie : IsE X.K C1 := by rw [hK]; exact R.i
  have dp1 : Dp X.K H' u x.d.py := by rw [hK]; exact dp1
  have dp2 : Dp X.K H' u2 x.d.py := by rw [hK]; exact dp2
  have un : X.A.units + 100 < cLine := by have := C.room.un; omega
  refine (pss_cons (ps_ret (pe_and (pe_callB (call_isD ie hz hfs) i1 mi boot_isinstance' (pa_cons (pe_var (i := 3) (by rw [C.hN]; rfl) v1 v2 v3) (pa_cons (pe_glob (v := .ref C1) w1 mw rfl w2) pa_nil (by rfl)) (by rfl)) (by decide) i2 (by rfl) (by rfl)) (pe_one (pe_cmpR op_eq (pe_callB (call_reprD (X := X.suite a ((a, oe) :: pn)) gd un) r3 mr boot_repr (pa_cons (pe_xf xf no hz hfs (pe_var (i := 3) (by rw [C.hN]; rfl) v1 v2 v3)) pa_nil (by rfl)) (by decide) r4 (by rfl) (by rfl)) (pe_callB (call_reprD (X := X.suite a ((a, oe) :: pn)) gd un) r3 mr boot_repr (pa_cons (pe_var (i := 2) (by rw [C.hN]; rfl) u1 u3 u4) pa_nil (by rfl)) (by decide) r4 (by rfl) (by rfl)) (by rfl))))) pss_nil).run pins s _ H' _ I ?_
  refine ⟨.ref a, List.getElem?_set_self hi, _, rfl, hdd, true, rfl, ?_⟩
  refine ⟨.ref a, List.getElem?_set_self hi, rfl, rfl, dd, _, u, rfl, hdd, by rw [List.lookup_cons, beq_self_eq_true], u, _, rfl, dp1, vr1, xs.1, ?_⟩
  refine ⟨u2, by rw [List.getElem?_set_ne (by decide)]; exact el2, u2, _, rfl, dp2, vr2, xs.1, rfl, ?_⟩
  rw [decide_eq_true rfl]
  exact fin
end
end Kn
/-! L19: the pool made. -/
namespace Kn
open PySem PySem.Spec PyProof.Rows L2
theorem upd_twice {H : Hp} {p : Addr} {u v : HO} : upd (upd H p u) p v = upd H p v := funext fun x => by
  by_cases h : x = p
  · subst h; rw [upd_same, upd_same]
  · rw [upd_ne h, upd_ne h, upd_ne h]
/-- the script, to a new pool -/
def spS (K : PySem.W.Frag) : Sp := fun vs H Q _ => ∃ (B : Hp) (a : Addr) (ns : List Int), vs = [.ref a] ∧ Ex B H ∧ SqL K B a (ns.map V.int) ∧ ns.length ≤ 1000000 ∧ ∀ l B' H' c, Pg B H B' H' → H l = none → B' l = none → OHas K B' H' l (.pool l (.some c)) → Q (.ref l) H'
section
variable {X : Cx} {E : En} {N G : List Str} {vb wb : List Bool} {sc : Scope} {k : Nat} {Δ : List Slot} {pos q1 q2 q3 q4 q5 q6 q7 r1 r2 r3 r4 r5 r6 r7 : Pos} {k1 k2 k3 k4 k5 k6 k7 j2 j3 j4 j5 j7 : Nat} {y z : Str} {ms : List Int} {sd : Int}
theorem df_pool (C : Cz E N vb wb G sc k X) (i j : Nat) (hc : Δ[i]? = some (.d (.lst (ms.map D.int)))) (hs : Δ[j]? = some (.d (.int sd))) (hv : vb[i]? = some true := by rfl) (hN : N[i]? = some y := by rfl) (hv2 : vb[j]? = some true := by rfl) (hN2 : N[j]? = some z := by rfl) :
    DoF X E (.Dict [some (.Constant (.str "cells") k1 q1), some (.Constant (.str "at") k2 q2), some (.Constant (.str "rest") k3 q3), some (.Constant (.str "left") k4 q4), some (.Constant (.str "small") k5 q5), some (.Constant (.str "seed") k6 q6), some (.Constant (.str "turn") k7 q7)]
      [.Name y r1, .Constant (.int 0) j2 r2, .Constant (.int 0) j3 r3, .Constant (.int 0) j4 r4, .Constant (.bool true) j5 r5, .Name z r6, .Constant (.int 0) j7 r7] pos) Δ (fun o => ∃ m c, o = .pool m (.some c)) := fun σ B H S Q q => by
  obtain ⟨v1, v2, v3⟩ := C.vis i y hv hN
  obtain ⟨u1, u2, u3⟩ := C.vis j z hv2 hN2
  obtain ⟨vc, elc, rc⟩ := S.get hc
  obtain ⟨vs, els, rs⟩ := S.get hs
  cases rs
  cases rc with
  | lst hb rl =>
    rename_i c0 xs
    have ex := DnL.of_ints rl
    subst ex
    refine WE.of (pe_disp (pps_cons pe_str (pe_var (i := i) (by rw [C.hN]; exact hN) v1 v2 v3) (pps_cons pe_str pe_int (pps_cons pe_str pe_int (pps_cons pe_str pe_int (pps_cons pe_str pe_bl (pps_cons pe_str (pe_var (i := j) (by rw [C.hN]; exact hN2) u1 u2 u3) (pps_cons pe_str pe_int pps_nil))))))) rfl rfl (by simp) (by show 7 ≤ 15; decide)) (fun p np => ?_)
    refine ⟨.ref c0, elc, .int sd, els, upd_same, [(.inr "cells", .ref c0), (.inr "at", .int 0), (.inr "rest", .int 0), (.inr "left", .int 0), (.inr "small", .bl true), (.inr "seed", .int sd), (.inr "turn", .int 0)], rfl, by show 7 ≤ 15; decide, ?_⟩
    rw [upd_twice]
    have pg : Pg B H B (upd H p (.dK (poolK c0 ⟨ms, 0, 0, 0, true, sd, 0⟩))) := Pg.apart S.sub np
    exact q p B _ (.pool p (.some c0)) (.of pg) (S.step pg) np (S.sub.free np) ⟨rfl, ⟨ms, 0, 0, 0, true, sd, 0⟩, upd_same, hb, Int.le_refl _⟩ ⟨p, c0, rfl⟩
end
theorem ix0 {n : Int} (r : List Int) : ixN ((n :: r).map D.int).length 0 = some 0 := by
  unfold ixN
  rw [List.map_cons, List.length_cons]
  first | rfl | (simp; omega) | (rw [if_pos (by omega), if_pos (by omega)]; rfl)
theorem body_lpool {X : Cx} {E : En} (T : Tx E.mg) (C : Cz E N_l_pool V_l_pool V_l_pool G_l_pool (defScope s_l_pool) 0 X) (hW : E.W = []) {a : Addr} {ns : List Int} {D0 : Ends} (hsq : SqL E.K E.B a (ns.map V.int)) (hl : ns.length ≤ 1000000) (hE : Ex E.B E.H)
    (hD : ∀ l B' H' c, Pg E.B E.H B' H' → E.H l = none → B' l = none → OHas E.K B' H' l (.pool l (.some c)) → D0.rt (.ref l) H') : WSs X (defBody s_l_pool) D0 [some (.ref a), none, none, none] E.H := by
  have l1 := C.loc 1 "_law_seed" rfl rfl
  have l2 := C.loc 2 "_law_cell" rfl rfl
  have l3 := C.loc 3 "_law_cells" rfl rfl
  obtain ⟨v1, v2, v3⟩ := C.vis 0 "_law_script" rfl rfl
  have ndp : X.N.Nodup := by rw [C.hN]; exact C.nd
  have n0 : X.N[0]? = some ("_law_script" : Str) := by rw [C.hN]; rfl
  have n1 : X.N[1]? = some ("_law_seed" : Str) := by rw [C.hN]; rfl
  have n2 : X.N[2]? = some ("_law_cell" : Str) := by rw [C.hN]; rfl
  have n3 : X.N[3]? = some ("_law_cells" : Str) := by rw [C.hN]; rfl
  have hK : X.K = E.K := C.hK
  -- what stands through the loop
  let St := fun (σ : L2.St) (H : Hp) => ∃ (B : Hp) (sd : Int) (c : Option V), σ = [some (.ref a), some (.int sd), c, none] ∧ Pg E.B E.H B H
  have sees : ∀ {σ : L2.St} {B H : Hp} {sd : Int} {x : Slot}, Pg E.B E.H B H → σ[1]? = some (some (.int sd)) → SlotOk E B H σ 2 x → (∀ o, x ≠ .own o) → Sees E [.un, .d (.int sd), x, .un] σ B H := fun {σ B H sd x} pg e1 e2 no => by
    refine ⟨pg.sub, by rw [hW]; exact pg.rn, fun i s hs => ?_, fun i j o p l h1 h2 _ _ => ?_⟩
    · match i, hs with
      | 0, hs => cases hs; trivial
      | 1, hs => cases hs; exact ⟨.int sd, e1, .int sd⟩
      | 2, hs => cases hs; exact e2
      | 3, hs => cases hs; trivial
      | n + 4, hs => cases hs
    · match i, h1 with
      | 0, h1 => cases h1
      | 1, h1 => cases h1
      | 2, h1 => exact absurd (Option.some.inj h1) (no o)
      | 3, h1 => cases h1
      | n + 4, h1 => cases h1
  have sq : ∀ {B H : Hp}, Pg E.B E.H B H → SqL X.K H a (ns.map V.int) := fun {B H} pg => by rw [hK]; exact pg.sub.l (pg.eb.l hsq)
  refine WSs.of (pss_cons (ps_set (i := 1) ndp n1 l1.1 pe_int rfl l1.2) (pss_cons (ps_for (wi := iList X.K (tVar 0)) C.pass C.calm (pi_list (pe_var (i := 0) n0 v1 v2 v3)) (pg_name (i := 2) ndp n2 l2.1 l2.2) (pss_cons (ps_set (i := 1) ndp n1 l1.1 (pe_W _) rfl l1.2) pss_nil)) (pss_cons (ps_set (i := 3) ndp n3 l3.1 (pe_W _) rfl l3.2) (pss_W _)))) ?_
  refine ⟨.ref a, rfl, a, rfl, ⟨_, sq (Pg.refl hE)⟩, ?_⟩
  refine ⟨fun i m σ H => i ≤ ns.length ∧ m = ns.length - i ∧ St σ H, ⟨_, Nat.zero_le _, rfl, E.B, 7, none, rfl, Pg.refl hE⟩, ?_⟩
  rintro i m σ H ⟨hi, rfl, B, sd, c, rfl, pg⟩
  have hsl := sq pg
  by_cases hlt : i < ns.length
  · refine .inr ⟨⟨_, .int ns[i], hsl, by rw [List.getElem?_map, List.getElem?_eq_getElem hlt]; rfl⟩, fun σ' H' => St σ' H', fun σ' H' st => ⟨ns.length - (i + 1), by omega, hlt, rfl, st⟩, fun x H' hy => ?_⟩
    obtain ⟨rfl, hx⟩ := hy
    have hx := hx _ hsl
    rw [List.getElem?_map, List.getElem?_eq_getElem hlt] at hx
    have hx : V.int ns[i] = x := Option.some.inj hx
    subst hx
    have S := sees (x := .d (.int ns[i])) (σ := [some (.ref a), some (.int sd), some (.int ns[i]), none]) pg rfl ⟨_, rfl, .int _⟩ (fun o e => by cases e)
    refine (ev_mod (X := X) (E := E) (Δ := [.un, .d (.int sd), .d (.int ns[i]), .un]) (ev_intI C 0 (ev_add (ev_mul (ev_nm C 1 rfl) (ev_int (i := 1000003)) (.inr ⟨by decide, by decide⟩)) (ev_nm C 2 rfl)) T.int) (ev_int (i := 2305843009213693951)) (by decide)) _ B H' S _ fun v B2 H2 p2 r2 => ?_
    cases r2
    exact ⟨B2, _, _, rfl, pg.trans p2⟩
  have he : i = ns.length := by omega
  refine .inl ⟨⟨_, hsl, by rw [List.length_map]; omega⟩, ?_⟩
  -- cells = list(script)
  obtain ⟨g1, g2⟩ := C.gl 1 "list" rfl
  refine WE.of (pe_callTy call_list_of g1 (by rw [C.hm]; exact T.list) boot_list (pa_cons (pe_var (i := 0) n0 v1 v2 v3) pa_nil (by rfl)) (by decide) g2 (by rfl) rfl) ?_
  refine ⟨.ref a, rfl, a, _, rfl, .inl hsl, fun l nl => ?_⟩
  have S := sees (x := .un) (σ := [some (.ref a), some (.int sd), c, none]) pg rfl trivial (fun o e => by cases e)
  have pg2 : Pg B H B (upd H l (.lst (ns.map V.int))) := Pg.apart pg.sub nl
  have S2 := (S.step pg2).setO (i := 3) (l := l) (o := .lst (ns.map D.int)) (by show 3 < 4; decide) (pg.sub.free nl) (S.enone nl) ⟨_, upd_same, DnL.ints⟩ (S.noone nl)
  have M : Meets X E B { nx := fun _ => False, rf := fun o _ => ∃ m c, o = .pool m (.some c) } D0 := ⟨fun _ _ _ _ _ _ h => h.elim, fun _ _ _ _ _ _ h => h.elim, fun _ _ _ _ _ _ h => h.elim, fun _ _ _ _ _ _ _ _ _ h => h.elim, fun l σ' B' H' o Δ' x S' hE2 hB2 r h => by
    obtain ⟨m, c, rfl⟩ := h
    have e : l = m := r.1
    subst e
    have rn := S'.rn
    rw [hW] at rn
    exact hD l B' H' c ⟨rn, S'.sub⟩ hE2 hB2 r⟩
  have go : ∀ {Δ : List Slot}, Δ = [.un, .d (.int sd), .un, .own (.lst (ns.map D.int))] → Go X E ((defBody s_l_pool).drop 3) Δ { nx := fun _ => False, rf := fun o _ => ∃ m c, o = .pool m (.some c) } := fun {Δ} e => by
    subst e
    show Go X E (_ :: _ :: _ :: []) [.un, .d (.int sd), .un, .own (.lst (ns.map D.int))] _
    refine go_cons (gs_via (fun Δ' => ∃ ms : List Int, Δ' = [.un, .d (.int sd), .un, .own (.lst (ms.map D.int))]) ?_ ?_)
    · have hlen : LenD (.lst (ns.map D.int)) (ns.map D.int).length := .lst _
      cases ns with
      | nil => exact gs_ifE (ew_andf (et_cmp co_gt (ev_len C 2 (er_own C 3 rfl rfl) hlen T.len).r ev_int.r)).t (fun h => by cases h) (fun _ => go_nil ⟨[], rfl⟩)
      | cons n r =>
        refine gs_ifE (ew_and (et_cmp co_gt (ev_len C 2 (er_own C 3 rfl rfl) hlen T.len).r ev_int.r) fun _ => ew_and1 (et_cmp co_eqI (ev_mod (ev_intI C 0 (ev_ix (d := .int n) C (er_own C 3 rfl rfl) ev_int rfl (by exact atI_nat rfl)) T.int) ev_int (by decide)).r ev_int.r)).t (fun _ => ?_) (fun _ => go_nil ⟨n :: r, rfl⟩)
        exact go_cons (gs_new C 3 (DoF.of (ef_lst ea_nil) (go_nil ⟨[], rfl⟩)))
    rintro _ ⟨ms, rfl⟩
    refine go_cons (gs_via (fun Δ' => ∃ ms : List Int, Δ' = [.un, .d (.int sd), .un, .own (.lst (ms.map D.int))]) ?_ ?_)
    · have hlen : LenD (.lst (ms.map D.int)) (ms.map D.int).length := .lst _
      cases ms with
      | nil => exact gs_ifE (et_cmp co_gt (ev_len C 2 (er_own C 3 rfl rfl) hlen T.len).r ev_int.r) (fun h => by cases h) (fun _ => go_nil ⟨[], rfl⟩)
      | cons n r =>
        refine gs_ifE (et_cmp co_gt (ev_len C 2 (er_own C 3 rfl rfl) hlen T.len).r ev_int.r) (fun _ => ?_) (fun _ => go_nil ⟨n :: r, rfl⟩)
        exact go_cons (gs_lset C 3 (m := 0) rfl (ev_fdiv (ev_ix (d := .int n) C (er_own C 3 rfl rfl) ev_int rfl (by exact atI_nat rfl)) ev_int ⟨by decide, by decide⟩) ev_int (ix0 r) (by exact go_nil ⟨(n / 2) :: r, rfl⟩))
    rintro _ ⟨ms, rfl⟩
    refine go_kn 3 rfl rfl ?_
    show Go X E _ [.un, .d (.int sd), .un, .d (.lst (ms.map D.int))] _
    exact go_cons (gs_retF (df_pool C 3 1 rfl rfl))
  exact go rfl _ B _ S2 D0 M
section
variable {P : Program} {w : World} {K : PySem.W.Frag} {mg : Str → Option Value} {base : Heap}
theorem ok_lpool (T : Tx mg) (A : At K mg "_law_pool" s_l_pool P_l_pool) : FnD P w K mg base "_law_pool" 1 (spS K) := by
  obtain ⟨f, fd, F, g, b⟩ := A.ex
  refine ⟨f, fd, _, g, F.kp, b, F.ok sc_l_pool (fun vs H Q E h => by obtain ⟨_, _, _, rfl, _⟩ := h; rfl) fun cdv A2 outer s H vs Q E0 hr h => ?_⟩
  obtain ⟨B, a, ns, rfl, hs, hsq, hl, q⟩ := h
  exact ⟨_, pss_W _, body_lpool (E := ⟨P, w, K, mg, base, [], B, H⟩) T (cz_of sc_l_pool dc_l_pool hr) rfl hsq hl hs q⟩
end
end Kn
/-! L20: a web spoilt. -/
namespace Kn
open PySem PySem.Spec PyProof.Rows L2
theorem more_arg : ArgOk "more" := by
  have key : ∀ c ∈ ([109, 111, 114, 101] : List Nat), (32 ≤ c ∧ c ≤ 126 ∧ c ≠ 37) ∧ (c ≠ 44 ∧ c ≠ 40 ∧ c ≠ 41) := by decide
  exact ⟨⟨by decide, fun c hc => (key c hc).1⟩, by decide, by decide, by decide, fun c hc => (key c hc).2⟩
theorem evo_none {X : Cx} {E : En} {Δ : List Slot} : EvO X E none Δ none := trivial
def canSp (s : Se) : Bool := (match s.head with | none => false | some _ => true) && decide ((s.code.length : Int) < 8)
theorem canSp_some {s : Se} (h : canSp s = true) : ∃ g, s.head = some g ∧ s.code.length < 8 := by
  obtain ⟨h1, h2⟩ := Bool.and_eq_true_iff.mp (show ((match s.head with | none => false | some _ => true) && decide ((s.code.length : Int) < 8)) = true from h)
  cases hh : s.head with
  | none => rw [hh] at h1; cases h1
  | some g =>
    have := of_decide_eq_true h2
    exact ⟨g, rfl, by omega⟩
theorem spoilt_ok {v : List Se} (hv : WebOk v) {i : Nat} {s : Se} {h : Hd} (hi : v[i]? = some s) (hh : s.head = some h) {a n : Nat} {x : Str} {as : List Str} (hs : s.code.length < 8) (hl : (Ln.use n x as).Ok) : WebOk (v.take i ++ [⟨s.prose, some h, s.code.take a ++ [Ln.use n x as] ++ s.code.drop a⟩] ++ v.drop (i + 1)) := by
  have hin : ∀ t ∈ v.take i ++ [⟨s.prose, some h, s.code.take a ++ [Ln.use n x as] ++ s.code.drop a⟩] ++ v.drop (i + 1), t ∈ v ∨ t = ⟨s.prose, some h, s.code.take a ++ [Ln.use n x as] ++ s.code.drop a⟩ := fun t ht => by
    rcases List.mem_append.mp ht with q | q
    · rcases List.mem_append.mp q with q | q
      · exact .inl (List.mem_of_mem_take q)
      · exact .inr (List.mem_singleton.mp q)
    · exact .inl (List.mem_of_mem_drop q)
  have hsv := List.mem_of_getElem? hi
  have sok := hv.se s hsv
  have hlt := (List.getElem?_eq_some_iff.mp hi).1
  have few := hv.few
  refine ⟨fun t ht => ?_, by rw [List.length_append, List.length_append, List.length_take, List.length_drop, List.length_singleton]; omega, fun t ht u hu p q hp hq e => ?_⟩
  · rcases hin t ht with q | rfl
    · exact hv.se t q
    · refine ⟨sok.prose, sok.few, fun g e => by cases e; exact sok.head h hh, fun l hlm => ?_, ?_, fun e => by cases e⟩
      · rcases List.mem_append.mp hlm with q | q
        · rcases List.mem_append.mp q with q | q
          · exact sok.code l (List.mem_of_mem_take q)
          · rw [List.mem_singleton.mp q]; exact hl
        · exact sok.code l (List.mem_of_mem_drop q)
      · show (s.code.take a ++ [Ln.use n x as] ++ s.code.drop a).length ≤ 8
        rw [List.length_append, List.length_append, List.length_take, List.length_drop, List.length_singleton]; omega
  · have ht2 : ∃ t2 ∈ v, t2.head = some p := by
      rcases hin t ht with z | rfl
      · exact ⟨t, z, hp⟩
      · cases hp; exact ⟨s, hsv, hh⟩
    have hu2 : ∃ u2 ∈ v, u2.head = some q := by
      rcases hin u hu with z | rfl
      · exact ⟨u, z, hq⟩
      · cases hq; exact ⟨s, hsv, hh⟩
    obtain ⟨t2, a1, a2⟩ := ht2
    obtain ⟨u2, b1, b2⟩ := hu2
    exact hv.one t2 a1 u2 b1 p q a2 b2 e
abbrev WordF (E : En) : Prop := FnD E.P E.w E.K E.mg E.base "_law_word" 3 (spP E.K pre_word post_word)
section
variable {P : Program} {w : World} {K : PySem.W.Frag} {mg : Str → Option Value} {base : Heap}
theorem ok_lspoilt (T : Tx mg) (A : At K mg "_law_spoilt" s_l_spoilt P_l_spoilt) (F : FnD P w K mg base "_law_take" 2 (spP K pre_take post_take)) (F2 : UseF ⟨P, w, K, mg, base, [], fun _ => none, fun _ => none⟩) (F3 : FnD P w K mg base "_law_word" 3 (spP K pre_word post_word)) :
    FnD P w K mg base "_law_spoilt" 5 (spP K (fun ds => ∃ (v : List Se) (pl : List Hd), ds = [webD v, planD pl] ∧ WebOk v ∧ PlanOk pl ∧ ∀ s ∈ v, SeP pl s) fun _ d => ∃ v, d = webD v ∧ WebOk v) := by
  refine A.p sc_l_spoilt dc_l_spoilt (fun ds h => by obtain ⟨_, _, rfl, _⟩ := h; rfl) fun X B H l c ds C hR => ?_
  obtain ⟨v, pl, rfl, hv, hp, hse⟩ := hR
  have few := hv.few
  have pfew := hp.few
  show Go X _ _ [.own (.pool l (.some c)), .d (webD v), .d (.lst (pl.map Hd.d)), .un, .un, .un, .un, .un, .un, .un, .un, .un, .un] _
  have hlen : LenD (webD v) (v.map Se.d).length := .tup _
  have nvl := num_len 0 v
  have hnum : ∀ q ∈ num 0 v, v[q.1]? = some q.2 := fun q hq => by
    obtain ⟨m, h1, h2⟩ := num_get hq
    rw [h1, Nat.zero_add]; exact h2
  refine go_cons ?_
  refine gs_lcG C 4 (.one _) (bk_by (own := ow_l_spoilt_0) (vb := bv_l_spoilt_0) (wb := bw_l_spoilt_0) (G := bg_l_spoilt_0) (by decide +kernel)) (by exact ⟨trivial, trivial⟩) (fun q : Nat × Se => D.int (q.1 : Nat)) (fun q => [.own (.pool l (.some c)), .d (webD v), .d (.lst (pl.map Hd.d)), .d (.int (q.1 : Nat)), .un, .un, .un, .un, .un, .un, .un, .un, .un]) (fun q => canSp q.2) (fun q d => d = .int (q.1 : Nat)) (di_range C 0 (Do.of (ev_len C 1 (ev_nm C 1 rfl).r hlen T.len) ⟨v.length, by rw [List.length_map], by omega, num 0 v, upto_num 0 v, by omega, fun q hq Y CY => ⟨bd_nm CY 3 rfl, ?_, fun _ => Do.of (ev_nm CY 3 rfl) rfl⟩, fun zs hzs => ?_⟩) T.range)
  · have hsd : atI (v.map Se.d) (q.1 : Int) = some q.2.d := atI_nat (by rw [List.getElem?_map, hnum q hq]; rfl)
    have lc : LenD (.tup (q.2.code.map Ln.d)) (q.2.code.map Ln.d).length := .tup _
    refine DoT.of (ew_and (et_cmp co_isnot (ev_ix (d := hdD q.2.head) CY (ev_ix CY (ev_nm CY 1 rfl).r (ev_nm CY 3 rfl) rfl hsd).r ev_int rfl rfl).r ev_non.r) fun _ => ew_and1 (et_cmp co_lt (ev_len CY 0 (ev_ix (d := .tup (q.2.code.map Ln.d)) CY (ev_ix CY (ev_nm CY 1 rfl).r (ev_nm CY 3 rfl) rfl hsd).r ev_int rfl rfl).r lc T.len).r ev_int.r)).t ?_
    show _ = canSp q.2
    unfold canSp
    rw [List.length_map]
    cases q.2.head <;> rfl
  rw [paired_map hzs]
  have hfs : ∀ q ∈ (num 0 v).filter (fun q => canSp q.2), v[q.1]? = some q.2 ∧ canSp q.2 = true := fun q hq => ⟨hnum q (List.mem_filter.mp hq).1, (List.mem_filter.mp hq).2⟩
  have hfl : ((num 0 v).filter (fun q => canSp q.2)).length ≤ 12 := by have := List.length_filter_le (fun q : Nat × Se => canSp q.2) (num 0 v); omega
  generalize (num 0 v).filter (fun q => canSp q.2) = fs at hfs hfl
  refine go_kn 4 rfl rfl ?_
  show Go X _ _ [.own (.pool l (.some c)), .d (webD v), .d (.lst (pl.map Hd.d)), .un, .d (.lst (fs.map fun q => D.int (q.1 : Nat))), .un, .un, .un, .un, .un, .un, .un, .un] _
  have lfs : LenD (.lst (fs.map fun q => D.int (q.1 : Nat))) (fs.map fun q => D.int (q.1 : Nat)).length := .lst _
  refine go_cons (gs_ifE (et_cmp co_eqI (ev_len C 1 (ev_nm C 4 rfl).r lfs T.len).r ev_int.r) (fun _ => ?_) (fun hb => go_nil ?_))
  · exact go_cons (gs_ret (Do.of (ev_nm C 1 rfl) ⟨⟨v, rfl, hv⟩, rfl⟩))
  have hpos : 0 < fs.length := by
    have := of_decide_eq_false hb
    rw [List.length_map] at this
    omega
  refine go_cons ?_
  refine gs_set C 3 (do_ix C (Do.of (ev_nm C 4 rfl) (do_take C 2 0 F rfl (Do.of (ev_len C 1 (ev_nm C 4 rfl).r lfs T.len) ⟨_, rfl, by rw [List.length_map]; omega, by rw [List.length_map]; omega, fun j hj => ?_⟩))))
  rw [List.length_map] at hj
  have hjl : j < fs.length := by omega
  have hjj : fs[j]? = some fs[j] := List.getElem?_eq_getElem hjl
  have hjm := hfs _ (List.getElem_mem hjl)
  generalize fs[j] = q at hjj hjm
  obtain ⟨i, s⟩ := q
  obtain ⟨hvi, hcs⟩ := hjm
  have hvi : v[i]? = some s := hvi
  obtain ⟨h, hh, h8⟩ := canSp_some hcs
  have h8 : s.code.length < 8 := h8
  have hh : s.head = some h := hh
  refine ⟨_, _, .int (i : Nat), rfl, rfl, atI_nat (by rw [List.getElem?_map, hjj]; rfl), ?_⟩
  have hsv := List.mem_of_getElem? hvi
  have sok := hv.se s hsv
  have hok := sok.head h hh
  have hpl : h ∈ pl := (hse s hsv).2 h hh
  have ppos : 0 < pl.length := List.length_pos_of_mem hpl
  have hil := (List.getElem?_eq_some_iff.mp hvi).1
  have hsd : atI (v.map Se.d) (i : Int) = some (.tup [.tup (s.prose.map D.str), h.d, .tup (s.code.map Ln.d)]) := atI_nat (by rw [List.getElem?_map, hvi]; show some s.d = _; unfold Se.d; rw [hh]; rfl)
  show Go X _ _ [.own (.pool l (.some c)), .d (webD v), .d (.lst (pl.map Hd.d)), .d (.int (i : Nat)), .d (.lst (fs.map fun q => D.int (q.1 : Nat))), .un, .un, .un, .un, .un, .un, .un, .un] _
  refine go_cons (gs_asg [5, 6, 7] (Do.of (ev_ix C (ev_nm C 1 rfl).r (ev_nm C 3 rfl) rfl hsd) (bd_tup C (bs_cons (bd_nm C 5 (bs_cons (bd_nm C 6 (bs_cons (bd_nm C 7 (bs_nil ?_))))))))))
  show Go X _ _ [.own (.pool l (.some c)), .d (webD v), .d (.lst (pl.map Hd.d)), .d (.int (i : Nat)), .d (.lst (fs.map fun q => D.int (q.1 : Nat))), .d (.tup (s.prose.map D.str)), .d h.d, .d (.tup (s.code.map Ln.d)), .un, .un, .un, .un, .un] _
  refine go_cons ?_
  refine gs_set C 8 (do_ix C (Do.of (ev_nm C 2 rfl) (do_take C 2 0 F rfl (Do.of (ev_len C 1 (ev_nm C 2 rfl).r (.lst _) T.len) ⟨_, rfl, by rw [List.length_map]; omega, by rw [List.length_map]; omega, fun j2 hj2 => ?_⟩))))
  rw [List.length_map] at hj2
  have hj2l : j2 < pl.length := by omega
  have hjj2 : pl[j2]? = some pl[j2] := List.getElem?_eq_getElem hj2l
  have gok := hp.ok _ (List.getElem_mem hj2l)
  generalize pl[j2] = g at hjj2 gok
  refine ⟨_, _, g.d, rfl, rfl, atI_nat (by rw [List.getElem?_map, hjj2]; rfl), ?_⟩
  show Go X _ _ [.own (.pool l (.some c)), .d (webD v), .d (.lst (pl.map Hd.d)), .d (.int (i : Nat)), .d (.lst (fs.map fun q => D.int (q.1 : Nat))), .d (.tup (s.prose.map D.str)), .d h.d, .d (.tup (s.code.map Ln.d)), .d g.d, .un, .un, .un, .un] _
  refine go_cons ?_
  refine gs_set C 9 (do_use C 3 0 F2 rfl (Do.of (ev_nm C 8 rfl) ⟨g, rfl, gok, fun n as hn hl ha => ?_⟩) (ev_ix (d := .tup (h.params.map D.str)) (d1 := h.d) C (ev_nm C 6 rfl).r ev_int rfl rfl) hok.all hok.few)
  have gfew := gok.few
  have hle : (Ln.use n g.name as).Ok := ⟨hn, gok.name, by omega, ha⟩
  have hx := gok.name
  generalize g.name = x at hle hx
  show Go X _ _ [.own (.pool l (.some c)), .d (webD v), .d (.lst (pl.map Hd.d)), .d (.int (i : Nat)), .d (.lst (fs.map fun q => D.int (q.1 : Nat))), .d (.tup (s.prose.map D.str)), .d h.d, .d (.tup (s.code.map Ln.d)), .d g.d, .d (Ln.use n x as).d, .un, .un, .un] _
  refine go_cons ?_
  refine gs_set C 10 (do_take C 2 0 F rfl (Do.of ev_int ⟨4, rfl, by decide, by decide, fun wy hwy => ?_⟩))
  clear hwy hl
  let J := fun (Δ' : List Slot) => ∃ (n : Nat) (x : Str) (as : List Str), (Ln.use n x as).Ok ∧ Δ' = [.own (.pool l (.some c)), .d (webD v), .d (.lst (pl.map Hd.d)), .d (.int (i : Nat)), .d (.lst (fs.map fun q => D.int (q.1 : Nat))), .d (.tup (s.prose.map D.str)), .d h.d, .d (.tup (s.code.map Ln.d)), .d g.d, .d (Ln.use n x as).d, .d (.int (wy : Nat)), .un, .un]
  show Go X _ _ [.own (.pool l (.some c)), .d (webD v), .d (.lst (pl.map Hd.d)), .d (.int (i : Nat)), .d (.lst (fs.map fun q => D.int (q.1 : Nat))), .d (.tup (s.prose.map D.str)), .d h.d, .d (.tup (s.code.map Ln.d)), .d g.d, .d (Ln.use n x as).d, .d (.int (wy : Nat)), .un, .un] _
  refine go_cons (gs_via J (gs_ifE (et_cmp co_eqI (ev_nm C 10 rfl).r ev_int.r) (fun _ => ?_) (fun _ => go_nil ⟨n, x, as, hle, rfl⟩)) ?_)
  · obtain ⟨_, _, has, haa⟩ := (show n ≤ 20 ∧ WordOk x ∧ as.length ≤ 3 ∧ ∀ a ∈ as, ArgOk a from hle)
    have e0 : (pl.filter fun _ => true).map (fun h : Hd => D.str h.name) = (pl.map Hd.name).map D.str := by
      rw [List.filter_eq_self.mpr (fun _ _ => rfl), List.map_map]; rfl
    refine go_cons ?_
    refine gs_set C 9 ?_
    refine do_tup ?_
    refine da_cons (Do.of ev_str ?_)
    refine da_cons (Do.of (ev_ix (d := .int (n : Nat)) (d1 := .tup [.str "use", .int (n : Nat), .str x, .tup (as.map D.str)]) C (ev_nm C 9 rfl).r ev_int rfl rfl) ?_)
    refine da_cons ?_
    refine do_word C 4 0 F3 rfl (Do.of (d := .lst ((pl.map Hd.name).map D.str)) (EvF.ld (ef_less 0 (e0 ▸ ef_lcG C .no (bk_by (own := ow_l_spoilt_1) (vb := bv_l_spoilt_1) (wb := bw_l_spoilt_1) (G := bg_l_spoilt_1) (by decide +kernel)) (by exact ⟨trivial, trivial⟩) (by trivial) Hd.d (fun z => [.un, .d (webD v), .d (.lst (pl.map Hd.d)), .d (.int (i : Nat)), .d (.lst (fs.map fun q => D.int (q.1 : Nat))), .d (.tup (s.prose.map D.str)), .d h.d, .d (.tup (s.code.map Ln.d)), .d g.d, .d (Ln.use n x as).d, .d (.int (wy : Nat)), .un, .d z.d]) (fun _ => true) (fun h => D.str h.name) pl (di_lstE C (ev_nm C 2 rfl)) (by omega) (fun z hz Y CY => ⟨bd_nm CY 12 rfl, rfl, fun _ => ev_ix CY (ev_nm CY 12 rfl).r ev_int rfl rfl⟩)))) ⟨pl.map Hd.name, rfl, by rw [List.length_map]; omega, fun y hy _ => ?_⟩)
    refine da_cons (Do.of (ev_ix (d := .tup (as.map D.str)) (d1 := .tup [.str "use", .int (n : Nat), .str x, .tup (as.map D.str)]) C (ev_nm C 9 rfl).r ev_int rfl rfl) ?_)
    exact da_nil ⟨Nat.le_of_ble_eq_true rfl, go_nil ⟨n, y, as, ⟨hn, hy, has, haa⟩, rfl⟩⟩
  rintro _ ⟨n, x, as, hle, rfl⟩
  have cut3 : ∀ (n : Nat) (x : Str) (as : List Str), cutD [D.str "use", .int (n : Nat), .str x, .tup (as.map D.str)] none (some 3) = [D.str "use", .int (n : Nat), .str x] := fun _ _ _ => rfl
  refine go_cons (gs_via J ?_ ?_)
  · obtain ⟨hn2, hx2, has, haa⟩ := (show n ≤ 20 ∧ WordOk x ∧ as.length ≤ 3 ∧ ∀ a ∈ as, ArgOk a from hle)
    refine gs_ifE (ew_and (et_cmp co_eqI (ev_nm C 10 rfl).r ev_int.r) fun _ => ew_and1 (et_cmp co_lt (ev_len C 1 (ev_ix (d := .tup (as.map D.str)) (d1 := .tup [.str "use", .int (n : Nat), .str x, .tup (as.map D.str)]) C (ev_nm C 9 rfl).r ev_int rfl rfl).r (.tup _) T.len).r ev_int.r)).t (fun hb => ?_) (fun _ => go_nil ⟨n, x, as, hle, rfl⟩)
    have h3 : as.length < 3 := by
      have := of_decide_eq_true (Bool.and_eq_true_iff.mp hb).2
      rw [List.length_map] at this
      omega
    refine go_cons ?_
    refine gs_set C 9 (Do.of (ev_catT ((ev_slT (xs := [.str "use", .int (n : Nat), .str x, .tup (as.map D.str)]) (l := none) (u := some 3) C (ev_nm C 9 rfl) evo_none (evo_some ev_int)).is (congrArg D.tup (cut3 n x as))) (ev_tup (ea_cons (ev_catT (ev_ix (d := .tup (as.map D.str)) (d1 := .tup [.str "use", .int (n : Nat), .str x, .tup (as.map D.str)]) C (ev_nm C 9 rfl).r ev_int rfl rfl) (ev_tup (ea_cons ev_str ea_nil)) (by rw [List.length_map]; show _ + 1 ≤ _; omega)) ea_nil)) (by show 3 + 1 ≤ _; decide)) (go_nil ?_))
    refine ⟨n, x, as ++ [("more" : Str)], ⟨hn2, hx2, by rw [List.length_append]; show _ + 1 ≤ _; omega, fun a ha => ?_⟩, ?_⟩
    · rcases List.mem_append.mp ha with q | q
      · exact haa a q
      · rw [List.mem_singleton.mp q]; exact more_arg
    · show _ = [_, _, _, _, _, _, _, _, _, Slot.d (.tup [.str "use", .int (n : Nat), .str x, .tup ((as ++ [("more" : Str)]).map D.str)]), _, _, _]
      rw [List.map_append]
      rfl
  rintro _ ⟨n, x, as, hle, rfl⟩
  refine go_cons (gs_via J ?_ ?_)
  · obtain ⟨hn2, hx2, has, haa⟩ := (show n ≤ 20 ∧ WordOk x ∧ as.length ≤ 3 ∧ ∀ a ∈ as, ArgOk a from hle)
    refine gs_ifE (et_cmp co_eqI (ev_nm C 10 rfl).r ev_int.r) (fun _ => ?_) (fun _ => go_nil ⟨n, x, as, hle, rfl⟩)
    refine go_cons ?_
    refine gs_set C 9 (Do.of (ev_catT ((ev_slT (xs := [.str "use", .int (n : Nat), .str x, .tup (as.map D.str)]) (l := none) (u := some 3) C (ev_nm C 9 rfl) evo_none (evo_some ev_int)).is (congrArg D.tup (cut3 n x as))) (ev_tup (ea_cons ((ev_slT (xs := as.map D.str) (l := some ((1 : Nat) : Int)) (u := none) C (ev_ix (d := .tup (as.map D.str)) (d1 := .tup [.str "use", .int (n : Nat), .str x, .tup (as.map D.str)]) C (ev_nm C 9 rfl).r ev_int rfl rfl) (evo_some ev_int) evo_none).is (congrArg D.tup (cut_from D.str as 1))) ea_nil)) (by show 3 + 1 ≤ _; decide)) (go_nil ?_))
    exact ⟨n, x, as.drop 1, ⟨hn2, hx2, by rw [List.length_drop]; omega, fun a ha => haa a (List.mem_of_mem_drop ha)⟩, rfl⟩
  rintro _ ⟨n, x, as, hle, rfl⟩
  have lcode : LenD (.tup (s.code.map Ln.d)) (s.code.map Ln.d).length := .tup _
  refine go_cons ?_
  refine gs_set C 11 (do_take C 2 0 F rfl (Do.of (ev_add (ev_len C 1 (ev_nm C 7 rfl).r lcode T.len) ev_int) ⟨_, rfl, by omega, by rw [List.length_map]; omega, fun a ha => ?_⟩))
  show Go X _ _ [.own (.pool l (.some c)), .d (webD v), .d (.lst (pl.map Hd.d)), .d (.int (i : Nat)), .d (.lst (fs.map fun q => D.int (q.1 : Nat))), .d (.tup (s.prose.map D.str)), .d h.d, .d (.tup (s.code.map Ln.d)), .d g.d, .d (Ln.use n x as).d, .d (.int (wy : Nat)), .d (.int (a : Nat)), .un] _
  refine go_cons (gs_ret (Do.of (ev_catT (ev_catT ((ev_slT (xs := v.map Se.d) (l := none) (u := some (i : Int)) C (ev_nm C 1 rfl) evo_none (evo_some (ev_nm C 3 rfl))).is (congrArg D.tup (cut_to Se.d v i))) (ev_tup (ea_cons (ev_tup (ea_cons (ev_nm C 5 rfl) (ea_cons (ev_nm C 6 rfl) (ea_cons (ev_catT (ev_catT ((ev_slT (xs := s.code.map Ln.d) (l := none) (u := some (a : Int)) C (ev_nm C 7 rfl) evo_none (evo_some (ev_nm C 11 rfl))).is (congrArg D.tup (cut_to Ln.d s.code a))) (ev_tup (ea_cons (ev_nm C 9 rfl) ea_nil)) (by rw [List.length_map, List.length_take]; show _ + 1 ≤ _; omega)) ((ev_slT (xs := s.code.map Ln.d) (l := some (a : Int)) (u := none) C (ev_nm C 7 rfl) (evo_some (ev_nm C 11 rfl)) evo_none).is (congrArg D.tup (cut_from Ln.d s.code a))) (by rw [List.length_append, List.length_map, List.length_map, List.length_take, List.length_drop]; show _ + 1 + _ ≤ _; omega)) ea_nil)))) ea_nil)) (by rw [List.length_map, List.length_take]; show _ + 1 ≤ _; omega)) ((ev_slT (xs := v.map Se.d) (l := some ((i : Int) + 1)) (u := none) C (ev_nm C 1 rfl) (evo_some (ev_add (ev_nm C 3 rfl) ev_int)) evo_none).is (congrArg D.tup (cut_from Se.d v (i + 1)))) (by rw [List.length_append, List.length_map, List.length_map, List.length_take, List.length_drop]; show _ + 1 + _ ≤ _; omega)) ⟨⟨_, ?_, spoilt_ok hv hvi hh (a := a) h8 hle⟩, rfl⟩))
  show D.tup _ = D.tup _
  rw [List.map_append, List.map_append, List.map_singleton]
  congr 3
  show [D.tup [_, _, _]] = [D.tup [_, _, D.tup ((s.code.take a ++ [Ln.use n x as] ++ s.code.drop a).map Ln.d)]]
  rw [List.map_append, List.map_append]
  rfl
end
end Kn
/-! L21: what the law asks of one web. -/
namespace Kn
open PySem PySem.Spec PyProof.Rows L2
section
variable {X : Cx} {E : En} {N G : List Str} {vb wb : List Bool} {sc : Scope} {k : Nat} {Δ : List Slot} {a b : Expr} {pos : Pos}
theorem do_catL {P : D → Prop} (h : Do X E a Δ fun d1 => Do X E b Δ fun d2 => ∃ xs ys, d1 = .lst xs ∧ d2 = .lst ys ∧ xs.length + ys.length ≤ 1000000 ∧ P (.lst (xs ++ ys))) : Do X E (.BinOp a .Add b pos) Δ P :=
  do_two (fun _ _ => pe_op op_cat) (h.mono fun d1 h1 => h1.mono fun d2 ⟨xs, ys, e1, e2, hl, hP⟩ => by
    subst e1 e2
    refine ⟨_, fun B H v u e h1 h2 Q q => ?_, hP⟩
    obtain ⟨p1, vs, e1, q1, r1⟩ := h1
    obtain ⟨p2, us, e2, q2, r2⟩ := h2
    exact ⟨p1, p2, vs, us, e1, e2, q1, q2, by rw [r1.length, r2.length]; exact sz_of hl, fun p np => q (.ref p) (upd B p _) _ (Pg.new e np) (.lst upd_same ((r1.append r2).mono (Ex.new (e.free np))))⟩)
end
def headD : D → D
  | .tup (x :: _) => x
  | d => d
theorem s_heads {c : List Nat} {zs : List D} (h : SCells c zs) : zs.map headD = (c.map sgnS).map D.str := by
  induction h with
  | nil => rfl
  | cons h r ih =>
    obtain ⟨n, w, e⟩ := h
    rw [List.map_cons, List.map_cons, List.map_cons, ih, e]
    rfl
theorem flt_same (f : Flt) : sameB 2 (.tup [.str "fault", f.d]) = true := by cases f <;> rfl
theorem file_iff {v : List Se} (ok : WebOk v) {n : Str} : n ∈ files v ↔ ∃ g, hfind (heads v) n = some g ∧ g.file = true := by
  constructor
  · intro h
    obtain ⟨g, h1, _, h3, _⟩ := files_mem ok h
    exact ⟨g, h1, h3⟩
  · rintro ⟨g, h1, h2⟩
    exact List.mem_map.mpr ⟨(n, g), List.mem_filter.mpr ⟨hfind_mem h1, h2⟩, rfl⟩
/-- what the law leans on -/
structure AgT (P : Program) (w : World) (K : PySem.W.Frag) (mg : Str → Option Value) (base : Heap) (C0 Cw Ct Cn : Addr) : Prop where
  ls : LsT P w K mg base
  tg : TgT P w K mg base C0 Cw Ct Cn
  xm : Exm K Cw Ct Cn
  fault : FnD P w K mg base "_law_first_fault" 4 (spR K R_lfault)
  text : FnD P w K mg base "_law_text" 1 (spN K pre_web post_ltext)
  names : FnD P w K mg base "_law_names" 1 (spR K R_lnames)
  word : FnD P w K mg base "_law_word" 3 (spP K pre_word post_word)
  same : At K mg "_law_same" s_l_same P_l_same
  told : At K mg "_law_told" s_l_told P_l_told
  agrees : At K mg "_law_agrees" s_l_agrees P_l_agrees
section
variable {P : Program} {w : World} {K : PySem.W.Frag} {mg : Str → Option Value} {base : Heap} {C0 Cw Ct Cn : Addr}
theorem ok_lagrees (A : AgT P w K mg base C0 Cw Ct Cn) : FnD P w K mg base "_law_agrees" 16 (spP K (fun ds => ∃ v, ds = [webD v] ∧ WebOk v) fun _ d => d = .bl true) := by
  refine A.agrees.p sc_l_agrees dc_l_agrees (fun ds h => by obtain ⟨_, rfl, _⟩ := h; rfl) fun X B H l c ds C hR => ?_
  obtain ⟨v, rfl, hv⟩ := hR
  have T := A.ls.t
  have few := hv.few
  have nl := names_len v
  have Fs := FnD.toN (pre := fun ds => ∃ z, ds = [z, z] ∧ sameB 2 z = true) (post := fun _ d => d = .bl true) (ok_lsame (P := P) (w := w) (base := base) T A.same 2) (fun ds ⟨z, h1, h2⟩ => ⟨_, ⟨z, h1, h2, rfl⟩, rfl⟩)
  show Go X _ _ [.own (.pool l (.some c)), .d (webD v), .un, .un, .un, .un, .un, .un, .un] _
  refine go_cons (gs_set C 2 (Do.of (ev_call C 0 A.fault (ea_cons (ev_nm C 1 rfl) ea_nil) ⟨v, rfl, hv, rfl⟩) ?_))
  refine go_cons ?_
  refine gs_set C 3 (do_ix C ((do_callN C 1 A.text (DoA.of (ea_cons (ev_nm C 1 rfl) ea_nil) ⟨⟨v, rfl, hv⟩, fun d hd => hd v rfl⟩)).mono fun d hd => Do.of ev_int ?_))
  obtain ⟨t, kds, rfl, hk⟩ := hd
  refine ⟨_, _, .dit kds, rfl, rfl, rfl, ?_⟩
  refine go_cons (gs_set C 4 (Do.of (ev_call C 2 A.names (ea_cons (ev_nm C 1 rfl) ea_nil) ⟨v, rfl, by omega, rfl⟩) ?_))
  show Go X _ _ [.own (.pool l (.some c)), .d (webD v), .d (fltO (flts v).head?), .d (.dit kds), .d (.lst ((names v).map D.str)), .un, .un, .un, .un] _
  refine go_cons ?_
  refine gs_for C [5] (di_list C (do_catL (Do.of (ev_nm C 4 rfl) (do_lst (da_cons (do_word C 3 0 A.word rfl (Do.of (ev_nm C 4 rfl) ⟨names v, rfl, by omega, fun x hx hn => da_cons (Do.of ev_str (da_nil ⟨Nat.le_of_ble_eq_true rfl, _, _, rfl, rfl, by rw [List.length_map]; show _ + 2 ≤ _; omega, _, rfl, ?_⟩))⟩)))))))
  have e0 : (names v).map D.str ++ [D.str x, .str ""] = (names v ++ [x, ""]).map D.str := by rw [List.map_append]; rfl
  rw [e0]
  refine ⟨fun r Δ => ∃ (zs : List Str) (a5 a6 a7 : Slot), r = zs.map D.str ∧ Δ = [.own (.pool l (.some c)), .d (webD v), .d (fltO (flts v).head?), .d (.dit kds), .d (.lst ((names v).map D.str)), a5, a6, a7, .un], ⟨_, _, _, _, rfl, rfl⟩, fun y r Δ2 hJ => ?_, fun Δ2 hJ => ?_⟩
  · obtain ⟨zs, a5, a6, a7, hr, rfl⟩ := hJ
    cases zs with
    | nil => cases hr
    | cons n zs =>
      injection hr with h1 h2
      subst h1 h2
      refine bd_nm C 5 ?_
      refine go_less 6 (go_less 7 ?_)
      show Go X _ _ [.own (.pool l (.some c)), .d (webD v), .d (fltO (flts v).head?), .d (.dit kds), .d (.lst ((names v).map D.str)), .d (.str n), .un, .un, .un] _
      have next : ∀ a6 a7 : Slot, ∃ (zs2 : List Str) (b5 b6 b7 : Slot), zs.map D.str = zs2.map D.str ∧ ([.own (.pool l (.some c)), .d (webD v), .d (fltO (flts v).head?), .d (.dit kds), .d (.lst ((names v).map D.str)), .d (.str n), a6, a7, .un] : List Slot) = [.own (.pool l (.some c)), .d (webD v), .d (fltO (flts v).head?), .d (.dit kds), .d (.lst ((names v).map D.str)), b5, b6, b7, .un] := fun a6 a7 => ⟨zs, _, _, _, rfl, rfl⟩
      refine go_cons (gs_set C 6 (Do.of (ev_tup (ea_cons ev_str (ea_cons (ev_nm C 2 rfl) ea_nil))) ?_))
      refine go_cons (gs_via (fun Δ' => ∃ (due : D) (a7 : Slot), (∀ d, Told v n d → d = due) ∧ sameB 2 due = true ∧ (flts v = [] → n ∈ files v → ∃ c, Lays v n c) ∧ Δ' = [.own (.pool l (.some c)), .d (webD v), .d (fltO (flts v).head?), .d (.dit kds), .d (.lst ((names v).map D.str)), .d (.str n), .d due, a7, .un]) ?_ ?_)
      · cases hfl : flts v with
        | cons fl r =>
          have hnf : flts v ≠ [] := by rw [hfl]; exact List.cons_ne_nil _ _
          show GoS X _ _ [.own (.pool l (.some c)), .d (webD v), .d fl.d, .d (.dit kds), .d (.lst ((names v).map D.str)), .d (.str n), .d (.tup [.str "fault", fl.d]), .un, .un] _
          refine gs_ifE (et_cmp co_is (ev_nm C 2 rfl).r ev_non.r) (fun h => ?_) (fun _ => go_nil ⟨_, _, fun d hd => ?_, flt_same fl, fun h => (by cases h), rfl⟩)
          · cases fl <;> cases h
          · rcases hd with ⟨f2, r2, h, e⟩ | ⟨h, _⟩ | ⟨_, h, _⟩
            · rw [hfl] at h; cases h; exact e
            · exact absurd h hnf
            · exact absurd h hnf
        | nil =>
          show GoS X _ _ [.own (.pool l (.some c)), .d (webD v), .d .non, .d (.dit kds), .d (.lst ((names v).map D.str)), .d (.str n), .d (.tup [.str "fault", .non]), .un, .un] _
          refine gs_ifE (et_cmp co_is (ev_nm C 2 rfl).r ev_non.r) (fun _ => ?_) (fun h => by cases h)
          refine go_cons (gs_set C 6 (Do.of (ev_tup (ea_cons ev_str (ea_cons (ev_nm C 5 rfl) ea_nil))) ?_))
          show Go X _ _ [.own (.pool l (.some c)), .d (webD v), .d .non, .d (.dit kds), .d (.lst ((names v).map D.str)), .d (.str n), .d (.tup [.str "text", .str n]), .un, .un] _
          have txt : n ∉ files v → ∀ d, Told v n d → d = .tup [.str "text", .str n] := fun hn d hd => by
            rcases hd with ⟨f2, r2, h, e⟩ | ⟨_, _, e⟩ | ⟨_, _, h, _⟩
            · rw [hfl] at h; cases h
            · exact e
            · exact absurd h hn
          by_cases hnm : n ∈ names v
          · obtain ⟨g, hg⟩ := hfind_some (hs := heads v) hnm
            have hgd : hdD (hfind (heads v) n) = g.d := by rw [hg]; rfl
            refine go_cons (gs_ifE (ew_and (et_cmp (co_in C (.inl rfl)) (ev_nm C 5 rfl).r (ev_nm C 4 rfl).r) fun _ => ew_and1 (et_val (x := g.file) (ev_ix (d := .bl g.file) (d1 := g.d) C (ev_call C 4 A.ls.head (ea_cons (ev_nm C 1 rfl) (ea_cons (ev_nm C 5 rfl) ea_nil)) ⟨v, n, rfl, hv, hgd.symm⟩).r ev_int rfl rfl))).t (fun hb => ?_) (fun hb => ?_))
            · have hgf : g.file = true := (Bool.and_eq_true_iff.mp hb).2
              obtain ⟨gok, _⟩ := hf_ok hv hg
              have hgp := gok.file hgf
              have hin : n ∈ files v := (file_iff hv).mpr ⟨g, hg, hgf⟩
              have wh := whole_of hv hfl
              refine go_cons ?_
              refine gs_set C 7 ?_
              refine do_callN1 C 5 (ok_lspread A.ls v wh kds hk 13 n g [] [] [] (.lst []) [] ⟨hg, deep_top hv hfl hnm, by rw [hgp]; rfl, .nil, ⟨[], rfl, .nil⟩, fun a h => (by cases h), by decide, by decide⟩) ?_
              refine dn_cons (Do.of (ev_nm C 1 rfl) ?_)
              refine dn_cons (Do.of (ev_nm C 3 rfl) ?_)
              refine dn_cons (Do.of (ev_nm C 5 rfl) ?_)
              refine dn_cons (Do.of (EvF.ld (ef_lst ea_nil)) ?_)
              refine dn_cons (Do.of (EvF.ld (ef_lst ea_nil)) ?_)
              refine dn_cons (Do.of (ev_tup ea_nil) ?_)
              refine dn_last ⟨rfl, fun d hd => ?_⟩
              rcases hd with rfl | ⟨c2, zs2, rfl, hc2, hl2, hcl2⟩
              · refine go_cons (gs_ifE (et_cmp co_is (ev_nm C 7 rfl).r ev_non.r) (fun _ => ?_) (fun h => by cases h))
                exact go_cons (gs_continue ⟨zs, _, _, _, rfl, rfl⟩)
              refine go_cons (gs_ifE (et_cmp co_is (ev_nm C 7 rfl).r ev_non.r) (fun h => by cases h) (fun _ => go_nil ?_))
              have hzl := Paired.length hc2
              have e1 : ((zs2.filter fun _ => true).map headD) = (c2.map sgnS).map D.str := by rw [List.filter_eq_self.mpr (fun _ _ => rfl)]; exact s_heads hc2
              have e2 : ("" : Str).length = 0 := rfl
              refine go_cons ?_
              refine gs_set C 6 (Do.of (ev_tup (ea_cons ev_str (ea_cons (ev_join (xs := c2.map sgnS) C ev_str (EvF.lr (ef_less 0 (e1 ▸ ef_lcG C .no (bk_by (own := ow_l_agrees_0) (vb := bv_l_agrees_0) (wb := bw_l_agrees_0) (G := bg_l_agrees_0) (by decide +kernel)) (by exact ⟨trivial, trivial⟩) (by trivial) (fun z : D => z) (fun z => [.un, .d (webD v), .d .non, .d (.dit kds), .d (.lst ((names v).map D.str)), .d (.str n), .d (.tup [.str "text", .str n]), .d (.lst zs2), .d z]) (fun _ => true) headD zs2 (di_list C (Do.of (ev_nm C 7 rfl) ⟨_, rfl, by rw [List.map_id']⟩)) (by omega) (fun z hz Y CY => ⟨bd_nm CY 8 rfl, rfl, fun _ => ?_⟩)))) (.inl rfl) (by rw [sgnS_sum, e2]; omega)) ea_nil))) ?_)
              rotate_left
              · obtain ⟨cc, nn, ww, rfl⟩ := Paired.right hc2 z hz
                exact ev_ix (d := .str ⟨#[cc]⟩) CY (ev_nm CY 8 rfl).r ev_int rfl rfl
              refine go_nil (go_nil ⟨_, _, fun d hd => ?_, rfl, fun _ _ => ⟨c2, hl2, hcl2⟩, rfl⟩)
              rcases hd with ⟨f2, r2, h, e⟩ | ⟨_, h, _⟩ | ⟨c3, _, _, h3, e⟩
              · rw [hfl] at h; cases h
              · exact absurd hin h
              · have e3 : c3 = c2 := by
                  have := h3.1.symm.trans hl2
                  exact Option.some.inj this
                rw [e, e3]
            · have hnf : n ∉ files v := fun hin => by
                obtain ⟨g2, h1, h2⟩ := (file_iff hv).mp hin
                rw [hg] at h1; cases h1
                rw [h2, decide_eq_true hnm] at hb
                cases hb
              exact go_nil (go_nil ⟨_, _, txt hnf, rfl, fun _ h => absurd h hnf, rfl⟩)
          · have hnf : n ∉ files v := fun hin => by
              obtain ⟨g2, h1, h2⟩ := (file_iff hv).mp hin
              exact hnm (List.mem_map.mpr ⟨(n, g2), hfind_mem h1, rfl⟩)
            refine go_cons (gs_ifE (ew_andf (et_cmp (co_in C (.inl rfl)) (ev_nm C 5 rfl).r (ev_nm C 4 rfl).r) (decide_eq_false hnm)).t (fun h => by cases h) (fun _ => ?_))
            exact go_nil (go_nil ⟨_, _, txt hnf, rfl, fun _ h => absurd h hnf, rfl⟩)
      rintro _ ⟨due, a7, hdue, hsame, hlays, rfl⟩
      refine go_cons (gs_if (dt_not (dt_val (do_callN C 6 Fs (da_cons ((do_callN C 7 (ok_ltold A.tg A.xm A.told v n hv hlays) (DoA.of (ea_cons (ev_nm C 1 rfl) (ea_cons (ev_nm C 5 rfl) ea_nil)) ⟨rfl, fun d hd => hdue d hd⟩)).mono fun d hd => da_cons (Do.of (ev_nm C 6 rfl) (da_nil ⟨⟨due, by rw [hd], hsame⟩, fun d2 hd2 => ⟨true, hd2, fun h => (by cases h), fun _ => go_nil (go_nil (next _ _))⟩⟩))))))))
  · obtain ⟨zs, a5, a6, a7, hr, rfl⟩ := hJ
    exact go_cons (gs_ret (Do.of ev_bl ⟨rfl, rfl⟩))
end
end Kn
/-! L22: the law. -/
namespace Kn
open PySem PySem.Spec PyProof.Rows L2
section
variable {X : Cx} {E : En} {Δ : List Slot} {a b : Expr} {pos : Pos} {es : List Expr}
theorem de_and {P : D → Prop} (h : Do X E a Δ fun d1 => ∃ x, d1 = .bl x ∧ (x = false → P (.bl false)) ∧ (x = true → Do X E (.BoolOp .And (b :: es) pos) Δ P)) : Do X E (.BoolOp .And (a :: b :: es) pos) Δ P := fun σ B H S Q q =>
  WE.of (pe_and (pe_W a) (pe_W _)) (h σ B H S _ fun v B1 H1 d1 x1 S1 r1 ⟨x, e1, h1, h2⟩ => by
    subst e1
    cases r1
    refine ⟨x, rfl, ?_⟩
    cases x with
    | false => exact q _ B1 H1 _ x1 S1 (.bl false) (h1 rfl)
    | true => exact h2 rfl σ B1 H1 S1 Q fun v B2 H2 d x2 S2 r hP => q v B2 H2 d (x1.trans x2) S2 r hP)
end
/-- the law's promise -/
def spLaw (K : PySem.W.Frag) : Sp := fun vs H Q _ => ∃ (a : Addr) (ns : List Int), vs = [.ref a] ∧ SqL K H a (ns.map V.int) ∧ ns.length ≤ 1000000 ∧ ∀ H', Q (.bl true) H'
/-- what the law leans on -/
structure LwT (P : Program) (w : World) (K : PySem.W.Frag) (mg : Str → Option Value) (base : Heap) : Prop where
  t : Tx mg
  pool : FnD P w K mg base "_law_pool" 1 (spS K)
  plan : FnD P w K mg base "_law_plan" 4 (spP K (fun ds => ds = []) fun _ d => ∃ pl, d = planD pl ∧ PlanOk pl)
  web : FnD P w K mg base "_law_web" 6 (spP K pre_lweb post_lweb)
  take : FnD P w K mg base "_law_take" 2 (spP K pre_take post_take)
  agrees : FnD P w K mg base "_law_agrees" 16 (spP K (fun ds => ∃ v, ds = [webD v] ∧ WebOk v) fun _ d => d = .bl true)
  refused : FnDG P w K mg base "_law_refused" 13 (spP K (fun ds => ∃ v, ds = [webD v] ∧ WebOk v) fun _ d => d = .bl true)
  spoilt : FnD P w K mg base "_law_spoilt" 5 (spP K (fun ds => ∃ (v : List Se) (pl : List Hd), ds = [webD v, planD pl] ∧ WebOk v ∧ PlanOk pl ∧ ∀ s ∈ v, SeP pl s) fun _ d => ∃ v, d = webD v ∧ WebOk v)
  anew : FnD P w K mg base "_law_anew" 1 (spR K fun ds d => ∃ ss : List Se, ds = [webD ss] ∧ ss.length ≤ 1000 ∧ d = webD ss)
theorem body_law {P : Program} {w : World} {K : PySem.W.Frag} {mg : Str → Option Value} {base : Heap} {X : Cx} {H0 : Hp} (A : LwT P w K mg base) (C : Cz ⟨P, w, K, mg, base, [], H0, H0⟩ N_law V_law V_law G_law (defScope s_law) 16 X) (gd : X.A.guards = some []) {a : Addr} {ns : List Int} {D0 : Ends} (hsq : SqL K H0 a (ns.map V.int)) (hl : ns.length ≤ 1000000) (hD : ∀ H', D0.rt (.bl true) H') :
    WSs X (defBody s_law) D0 [some (.ref a), none, none, none] H0 := by
  have l1 := C.loc 1 "_law_pool_here" rfl rfl
  obtain ⟨v1, v2, v3⟩ := C.vis 0 "_law_script" rfl rfl
  have ndp : X.N.Nodup := by rw [C.hN]; exact C.nd
  have n0 : X.N[0]? = some ("_law_script" : Str) := by rw [C.hN]; rfl
  have n1 : X.N[1]? = some ("_law_pool_here" : Str) := by rw [C.hN]; rfl
  have hK : X.K = K := C.hK
  obtain ⟨g1, g2⟩ := C.gl 0 "_law_pool" rfl
  obtain ⟨f, fd, ps, e1, e2, e3, e4⟩ := A.pool.run C
  refine WSs.of (pss_cons (ps_set (i := 1) ndp n1 l1.1 (pe_W _) rfl l1.2) (pss_W _)) ?_
  refine WE.of (pe_call e4 (C.room.mono (by decide)) g1 e1 e2 e3 .nil pass0 (pa_cons (pe_var (i := 0) n0 v1 v2 v3) pa_nil (by rfl)) g2 (by rfl) (by rfl)) ?_
  refine ⟨.ref a, rfl, H0, a, ns, rfl, Ex.refl H0, hsq, hl, fun l B1 H1 c pg nl nB ho => ?_⟩
  have S0 : Sees ⟨P, w, K, mg, base, [], H0, H0⟩ [.un, .un, .un, .un] [some (.ref a), none, none, none] H0 H0 := by
    refine ⟨Ex.refl H0, Rn.refl, fun i s hs => ?_, fun i j o p l h1 h2 _ _ => ?_⟩
    · match i, hs with
      | 0, hs => cases hs; trivial
      | 1, hs => cases hs; trivial
      | 2, hs => cases hs; trivial
      | 3, hs => cases hs; trivial
      | n + 4, hs => cases hs
    · match i, h1 with
      | 0, h1 => cases h1
      | 1, h1 => cases h1
      | 2, h1 => cases h1
      | 3, h1 => cases h1
      | n + 4, h1 => cases h1
  have S2 := (S0.step pg).setO (i := 1) (l := l) (o := .pool l (.some c)) (by show 1 < 4; decide) nB nl ho (S0.noone nl)
  have M : Meets X ⟨P, w, K, mg, base, [], H0, H0⟩ B1 { nx := fun _ => False, rt := fun d _ => d = .bl true } D0 := ⟨fun _ _ _ _ _ _ h => h.elim, fun _ _ _ _ _ _ h => h.elim, fun _ _ _ _ _ _ h => h.elim, fun v σ' B' H' d Δ' x S' r h => by
    subst h
    cases r
    exact hD H', fun _ _ _ _ _ _ _ _ _ _ _ h => h.elim⟩
  have go : ∀ {Δ : List Slot}, Δ = [.un, .own (.pool l (.some c)), .un, .un] → Go X ⟨P, w, K, mg, base, [], H0, H0⟩ ((defBody s_law).drop 1) Δ { nx := fun _ => False, rt := fun d _ => d = .bl true } := fun {Δ} e => by
    subst e
    show Go X _ (_ :: _ :: _ :: _ :: _ :: []) [.un, .own (.pool l (.some c)), .un, .un] _
    refine go_cons ?_
    refine gs_set C 2 (do_call C 1 1 A.plan rfl (da_nil ⟨rfl, fun d hd => ?_⟩))
    obtain ⟨pl, rfl, hp⟩ := hd
    show Go X _ _ [.un, .own (.pool l (.some c)), .d (planD pl), .un] _
    refine go_cons ?_
    refine gs_set C 3 (do_call C 2 1 A.web rfl (da_cons (Do.of (ev_nm C 2 rfl) ?_)))
    refine da_cons (do_ix C (Do.of (d := .lst [.int 4, .int 8]) (EvF.ld (ef_lst (ea_cons ev_int (ea_cons ev_int ea_nil)) (by decide))) (do_take C 3 1 A.take rfl (Do.of ev_int ⟨2, rfl, by decide, by decide, fun i hi => ?_⟩))))
    have sz : ∃ n : Nat, atI ([D.int 4, .int 8]) (i : Int) = some (.int (n : Nat)) ∧ n ≤ 8 := by
      match i, hi with
      | 0, _ => exact ⟨4, atI_nat rfl, by decide⟩
      | 1, _ => exact ⟨8, atI_nat rfl, by decide⟩
      | n + 2, h => omega
    obtain ⟨most, hm1, hm2⟩ := sz
    refine ⟨_, _, .int (most : Nat), rfl, rfl, hm1, da_nil ⟨⟨pl, most, rfl, hp, hm2⟩, fun d hd => ?_⟩⟩
    obtain ⟨v, rfl, hv, hse⟩ := hd
    have hse := hse pl rfl
    have few := hv.few
    show Go X _ _ [.un, .own (.pool l (.some c)), .d (planD pl), .d (webD v)] _
    refine go_cons (gs_if (DoW.t ?_))
    refine dw_or (dt_not (dt_val (do_call C 4 1 A.agrees rfl (DoA.of (ea_cons (ev_nm C 3 rfl) ea_nil) ⟨⟨v, rfl, hv⟩, fun d hd => ⟨true, hd, fun _ => ?_, fun h => by cases h⟩⟩))))
    refine dw_or1 (dt_not (dt_val (do_callG C gd 5 1 A.refused rfl (DoA.of (ea_cons (ev_nm C 3 rfl) ea_nil) ⟨⟨v, rfl, hv⟩, fun d hd => ⟨true, hd, fun h => (by cases h), fun _ => go_nil ?_⟩⟩))))
    refine go_cons (gs_if (dt_gtI (do_take C 3 1 A.take rfl (Do.of ev_int ⟨3, rfl, by decide, by decide, fun j hj => Do.of ev_int ⟨_, _, rfl, rfl, fun _ => ?_, fun _ => go_nil ?_⟩⟩))))
    · exact go_cons (gs_ret (Do.of ev_bl rfl))
    refine go_cons (gs_ret ?_)
    refine de_and ?_
    refine do_call C 4 1 A.agrees rfl (da_cons (do_call C 6 1 A.spoilt rfl (DoA.of (ea_cons (ev_nm C 3 rfl) (ea_cons (ev_nm C 2 rfl) ea_nil)) ⟨⟨v, pl, rfl, hv, hp, hse⟩, fun d hd => ?_⟩)))
    obtain ⟨v2, rfl, hv2⟩ := hd
    refine da_nil ⟨⟨v2, rfl, hv2⟩, fun d hd => ⟨true, hd, fun h => (by cases h), fun _ => de_one ?_⟩⟩
    exact do_call C 4 1 A.agrees rfl (DoA.of (ea_cons (ev_call C 7 A.anew (ea_cons (ev_nm C 3 rfl) ea_nil) ⟨v, rfl, by omega, rfl⟩) ea_nil) ⟨⟨v, rfl, hv⟩, fun d hd => hd⟩)
  exact go rfl _ B1 H1 S2 D0 M
end Kn
/-! E1: the text's defs as one; the law's promise. -/
namespace Kn
open PySem PySem.Spec PyProof.Rows L2
/-- all plain defs that the text has written (printed by gen/ends.py) -/
structure Txt0 (K : PySem.W.Frag) (mg : Str → Option Value) : Prop where
  tx : Tx mg
  slot_at : At K mg "slot_at" s_slot_at P_slot_at
  parts_of : At K mg "parts_of" s_parts_of P_parts_of
  is_number : At K mg "is_number" s_is_number P_is_number
  is_word : At K mg "is_word" s_is_word P_is_word
  is_sign : At K mg "is_sign" s_is_sign P_is_sign
  is_line : At K mg "is_line" s_is_line P_is_line
  is_argument : At K mg "is_argument" s_is_argument P_is_argument
  is_code_line : At K mg "is_code_line" s_is_code_line P_is_code_line
  is_head : At K mg "is_head" s_is_head P_is_head
  is_section : At K mg "is_section" s_is_section P_is_section
  heads_of : At K mg "heads_of" s_heads_of P_heads_of
  is_web : At K mg "is_web" s_is_web P_is_web
  need_web : At K mg "need_web" s_need_web P_need_web
  names_in : At K mg "names_in" s_names_in P_names_in
  code_in : At K mg "code_in" s_code_in P_code_in
  uses_in : At K mg "uses_in" s_uses_in P_uses_in
  file_names : At K mg "file_names" s_file_names P_file_names
  head_text : At K mg "head_text" s_head_text P_head_text
  code_text : At K mg "code_text" s_code_text P_code_text
  rows_of : At K mg "rows_of" s_rows_of P_rows_of
  starts : At K mg "starts" s_starts P_starts
  pieces : At K mg "pieces" s_pieces P_pieces
  filled_cells : At K mg "filled_cells" s_filled_cells P_filled_cells
  argument_places : At K mg "argument_places" s_argument_places P_argument_places
  lines_of_text : At K mg "lines_of_text" s_lines_of_text P_lines_of_text
  joined : At K mg "joined" s_joined P_joined
  next_of : At K mg "next_of" s_next_of P_next_of
  reached_from : At K mg "reached_from" s_reached_from P_reached_from
  in_circles : At K mg "in_circles" s_in_circles P_in_circles
  faults_of_use : At K mg "faults_of_use" s_faults_of_use P_faults_of_use
  faults_in : At K mg "faults_in" s_faults_in P_faults_in
  faults : At K mg "faults" s_faults P_faults
  need_whole : At K mg "need_whole" s_need_whole P_need_whole
  need_file : At K mg "need_file" s_need_file P_need_file
  tangled : At K mg "tangled" s_tangled P_tangled
  l_mixed : At K mg "_law_mixed" s_l_mixed P_l_mixed
  l_pool : At K mg "_law_pool" s_l_pool P_l_pool
  l_take : At K mg "_law_take" s_l_take P_l_take
  l_signs : At K mg "_law_signs" s_l_signs P_l_signs
  l_word : At K mg "_law_word" s_l_word P_l_word
  l_line : At K mg "_law_line" s_l_line P_l_line
  l_argument : At K mg "_law_argument" s_l_argument P_l_argument
  l_plan : At K mg "_law_plan" s_l_plan P_l_plan
  l_use : At K mg "_law_use" s_l_use P_l_use
  l_code : At K mg "_law_code" s_l_code P_l_code
  l_web : At K mg "_law_web" s_l_web P_l_web
  l_names : At K mg "_law_names" s_l_names P_l_names
  l_head : At K mg "_law_head" s_l_head P_l_head
  l_code_of : At K mg "_law_code_of" s_l_code_of P_l_code_of
  l_used : At K mg "_law_used" s_l_used P_l_used
  l_reached : At K mg "_law_reached" s_l_reached P_l_reached
  l_first_fault : At K mg "_law_first_fault" s_l_first_fault P_l_first_fault
  l_spoilt : At K mg "_law_spoilt" s_l_spoilt P_l_spoilt
  l_same : At K mg "_law_same" s_l_same P_l_same
  l_parts : At K mg "_law_parts" s_l_parts P_l_parts
  l_text : At K mg "_law_text" s_l_text P_l_text
  l_put : At K mg "_law_put" s_l_put P_l_put
  l_arguments : At K mg "_law_arguments" s_l_arguments P_l_arguments
  l_spread : At K mg "_law_spread" s_l_spread P_l_spread
  l_told : At K mg "_law_told" s_l_told P_l_told
  l_agrees : At K mg "_law_agrees" s_l_agrees P_l_agrees
  l_refused : At K mg "_law_refused" s_l_refused P_l_refused
  l_anew : At K mg "_law_anew" s_l_anew P_l_anew
  law : At K mg "law" s_law P_law
/-- with its classes -/
structure Txt (K : PySem.W.Frag) (mg : Str → Option Value) (C0 Cw Ct Cn Ck : Addr) : Prop extends Txt0 K mg where
  sp : SpC K C0
  spi : SpI K mg C0
  sp_plain : AtM K C0 "plain" "Spreader.plain" s_Sp_plain P_Sp_plain
  sp_handed_on : AtM K C0 "handed_on" "Spreader.handed_on" s_Sp_handed_on P_Sp_handed_on
  sp_spread : AtM K C0 "spread" "Spreader.spread" s_Sp_spread P_Sp_spread
  sp_steps : AtM K C0 "steps" "Spreader.steps" s_Sp_steps P_Sp_steps
  er : Ers K mg Cw Ct Cn
  xm : Exm K Cw Ct Cn
  rf : Rf K mg Cw Ck
theorem law_all {P : Program} {w : World} {K : PySem.W.Frag} {mg : Str → Option Value} {base : Heap} {C0 Cw Ct Cn Ck f : Addr} {fd : FuncData} (A : Txt K mg C0 Cw Ct Cn Ck) (F : Fun K "law" "law" s_law f fd) : FnG P w K mg base 17 f fd ["_law_script"] (spLaw K) := by
  have T := A.tx
  -- the program
  have is_number := ok_is_number (P := P) (w := w) (base := base) T A.is_number
  have is_word := ok_is_word (P := P) (w := w) (base := base) T A.is_word
  have is_sign := ok_is_sign (P := P) (w := w) (base := base) T A.is_sign
  have is_line := ok_is_line T A.is_line is_sign
  have is_argument := ok_is_argument T A.is_argument is_line
  have is_code_line := ok_is_code_line T A.is_code_line is_line is_number is_word is_argument
  have is_head := ok_is_head T A.is_head is_word
  have is_section := ok_is_section T A.is_section is_line is_code_line is_head
  have heads_of := ok_heads_of (P := P) (w := w) (base := base) T A.heads_of
  have is_web := ok_is_web T A.is_web is_section heads_of
  have need_web := ok_need_web T A.need_web is_web
  have names_in := ok_names_in T A.names_in heads_of
  have code_in := ok_code_in (P := P) (w := w) (base := base) T A.code_in
  have uses_in := ok_uses_in T A.uses_in code_in
  have file_names := ok_file_names T A.file_names heads_of need_web
  have head_text := ok_head_text (P := P) (w := w) (base := base) T A.head_text
  have code_text := ok_code_text (P := P) (w := w) (base := base) T A.code_text
  have rows_of := ok_rows_of T A.rows_of head_text code_text
  have starts := ok_starts T A.starts rows_of
  have pieces := ok_pieces (P := P) (w := w) (base := base) T A.pieces
  have next_of := ok_next_of T A.next_of names_in uses_in
  have in_circles := ok_in_circles T A.in_circles A.reached_from names_in next_of
  have faults_of_use := ok_faults_of_use (P := P) (w := w) (base := base) T A.faults_of_use
  have faults_in := ok_faults_in T A.faults_in heads_of faults_of_use in_circles
  have faults := ok_faults T A.faults faults_in need_web
  have tg : TgT P w K mg base C0 Cw Ct Cn := ⟨⟨T, A.sp, A.slot_at, A.parts_of, A.filled_cells, A.argument_places, A.sp_plain, A.sp_handed_on, A.sp_steps, A.sp_spread⟩, A.spi, A.er, A.need_web, A.need_whole, A.need_file, A.tangled, A.joined, A.lines_of_text, is_web, faults, file_names, starts, pieces⟩
  -- the law
  have take := ok_take (P := P) (w := w) (base := base) T A.l_take A.l_mixed
  have signs := ok_signs (P := P) (w := w) (base := base) A.l_signs
  have word := ok_word T A.l_word take
  have line := ok_line signs_ok.1 (fun i hi => sign_at hi) T A.l_line take signs
  have argument := ok_argument rfl argS_ok.1 (fun i hi => args_at hi) T A.l_argument take
  have plan := ok_plan T A.l_plan take word
  have use := ok_use T A.l_use take argument
  have code := ok_code T A.l_code take use line
  have web := ok_web T A.l_web take code line
  have lnames := ok_lnames (P := P) (w := w) (base := base) T A.l_names
  have lhead := ok_lhead (P := P) (w := w) (base := base) T A.l_head
  have lcode := ok_lcode (P := P) (w := w) (base := base) T A.l_code_of
  have lused := ok_lused T A.l_used lcode
  have lreached := ok_lreached T A.l_reached lused
  have lfault := ok_lfault T A.l_first_fault lnames lhead lreached
  have lparts := ok_lparts (P := P) (w := w) (base := base) T A.l_parts
  have ltext := ok_ltext (P := P) (w := w) (base := base) T A.l_text
  have ag : AgT P w K mg base C0 Cw Ct Cn := ⟨⟨T, lhead, lcode, lparts, A.l_put, A.l_arguments, A.l_spread⟩, tg, A.xm, lfault, ltext, lnames, word, A.l_same, A.l_told, A.l_agrees⟩
  have lw : LwT P w K mg base := ⟨T, ok_lpool T A.l_pool, plan, web, take, ok_lagrees ag, ok_lrefused tg A.xm A.rf A.l_refused A.l_told A.l_same take, ok_lspoilt T A.l_spoilt take use word, ok_anew T A.l_anew⟩
  refine fun_okG F sc_law (fun vs H Q E h => by obtain ⟨_, _, rfl, _⟩ := h; rfl) fun cdv A2 outer s H vs Q E hr gd h => ?_
  obtain ⟨a, ns, rfl, hsq, hl, hD⟩ := h
  exact ⟨_, pss_W _, body_law lw (cz_of sc_law dc_law hr) gd hsq hl hD⟩
end Kn
/-! E0: the law's call from outside, while no repr goes on. -/
namespace Kn
open PySem PySem.Spec PyProof.Rows L2
/-- what the caller looks for -/
abbrev GoodEnd (s1 : Shared) : Result → Shared → Prop := fun r s' => r = .ok (.ret (.bool true)) ∧ OldK s1.heap s'.heap ∧ s'.os = s1.os ∧ AllBare s'.gens
/-- from a heap of which the script alone may be told -/
theorem callG_core {P : Program} {w : World} {K : PySem.W.Frag} {mg mb : Str → Option Value} {k : Nat} {fa a : Addr} {fd : FuncData} {x : Str} {sp : Sp} {s1 : Shared} {us : List Value} {T : Hp}
    (kin : K.In s1.heap) (nsg : s1.heap.Ns mainGlobals mg) (nsb : s1.heap.Ns builtinsNs mb) (bb : ∀ x : Str, x ≠ "__name__" → mb x = bootBuiltins x) (nl : s1.heap.NoLimit) (gn : s1.gens = #[]) (oa : s1.heap.get? a = some { cls := .type "list", data := .seq us.toArray }) (rm : Room k callerA)
    (F : ∀ base : Heap, K.In base → base.Ns mainGlobals mg → FnG P w K mg base k fa fd [x] sp) (bind : ∀ (s : Shared) (u : Value), BindsTo s fd ⟨[u], []⟩ [(x, u)])
    (only : Only T) (okT : HOk P w T s1.heap) (none_but : ∀ b, T b ≠ none → b = a) (notK : T a ≠ none → K.lookup a = none) (hsp : sp [.ref a] T (fun v _ => v = .bl true) fun _ _ _ => False) :
    codeAny (model P w) callerA (.call (.ref fa) ⟨[.ref a], []⟩) (GoodEnd s1) s1 := by
  have told : ∀ {b : Addr} {u : HO}, T b = some u → b = a := fun {b u} q => none_but b (by rw [q]; simp)
  have keep : ∀ {b : Addr} {o : Obj}, s1.heap.get? b = some o → T b = none → (hidT s1.heap T).get? b = some o := fun e n => hidT_get e n
  have dictless : ∀ {b : Addr} {o : Obj} {es : Array DictEntry} {ep : Nat}, s1.heap.get? b = some o → o.data = .dict es ep → T b = none := fun {b o es ep} e d => by
    cases q : T b with
    | none => rfl
    | some u =>
      have eb := told q
      subst eb
      rw [oa] at e
      cases e
      cases (show Data.seq us.toArray _ = Data.dict es ep from d)
  have spaces : ∀ {b : Addr} {m : Str → Option Value}, s1.heap.Ns b m → (hidT s1.heap T).Ns b m := fun {b m} ⟨o, es, ep, e, d, r⟩ => ⟨o, es, ep, keep e (dictless e d), d, r⟩
  have kin2 : K.In (hidT s1.heap T) := fun b o e => keep (kin b o e) (by
    cases q : T b with
    | none => rfl
    | some u =>
      have eb := told q
      subst eb
      rw [notK (by rw [q]; simp)] at e
      cases e)
  have md : Mod K mg (hidT s1.heap T) := ⟨kin2, spaces nsg, ⟨mb, spaces nsb, bb⟩, let ⟨mc, h1, h2⟩ := nl; ⟨mc, spaces h1, h2⟩⟩
  have env : Env0 P w K mg (hidT s1.heap T) callerA [] s1 T := ⟨rfl, md, fun b o e => of_hidT e, Nat.le_of_eq (hidT_size _ _), trivial, fun b hb => absurd (show b ∈ ([] : List Addr) from hb) (by simp), okT, .of_eq gn⟩
  refine codeAny_mono ((F _ kin2 (spaces nsg)).go callerA [] s1 T ⟨[.ref a], []⟩ [.ref a] [.ref a] _ _ rm rfl env (bind s1 (.ref a)) (.cons rfl .nil) hsp) fun r s' got => ?_
  cases r with
  | error e => exact False.elim got
  | ok fl => cases fl with
    | next => exact got.elim
    | brk => exact got.elim
    | cont => exact got.elim
    | ret u =>
      obtain ⟨v, H', e1, e2, un, ok2, rv, q⟩ := got
      have q : v = .bl true := q
      subst q
      obtain rfl : u = Value.bool true := rv
      refine ⟨rfl, OldK.of_keep fun b o e => ?_, e1, e2⟩
      cases q : T b with
      | none => exact un.keep b o e q (by intro z; exact absurd (show b ∈ ([] : List Addr) from z) (by simp)) (by simp)
      | some u =>
        rcases only b with z | ⟨ob, xs, z⟩
        · rw [q] at z; cases z
        · obtain ⟨g1, _⟩ := okT b _ z
          obtain ⟨g2, _⟩ := ok2 b _ (un.frzs b ob _ z)
          rw [e] at g1
          cases g1
          exact g2
/-- the law's walk, from its promise -/
theorem walk_ofG {l : PySem.W.OpenLaw} {n k : Nat} {q : Program} {loose : List Str} {XP : (Str → Option Value) → Heap → Prop} {YP : World → Heap → Prop} {d : DefRec} {K : Params → PySem.W.Frag} {x : Str}
    (hn : l.most = some n) (hn2 : n ≤ 1000) (hdf : d.params.defaults = []) (hr : Room k callerA) (hY : ∀ (w : World) (h : Heap), YP w h → (K w.params).In h)
    (F : ∀ (w : World) (mg : Str → Option Value) (fa : Addr) (h : Heap), (K w.params).In h → h.Ns mainGlobals mg → mg d.name = some (.ref fa) →
      ∃ fd : FuncData, (∀ (s : Shared) (u : Value), BindsTo s fd ⟨[u], []⟩ [(x, u)]) ∧ ∀ base : Heap, FnG l.prog w (K w.params) mg base k fa fd [x] (spLaw (K w.params))) :
    PySem.W.WalkO q loose XP YP l.row.toRowW d [] (fun f vs => PySem.call f vs) := by
  refine Att.attach_call hn hdf fun w s0 s1 mg mb fa o pm cd doc a us ns Gr Yh _ _ _ hmg hobj hints hlen hgn => ?_
  obtain ⟨fd, hb, hF⟩ := F w mg fa _ (hY w _ Yh) Gr.T.g hmg
  have rv := vals_ints hints
  have lenU := hints.length
  have big : ns.length ≤ sizeLine := by rw [sizeLine_eq]; omega
  have core := fun (T : Hp) (h1 : Only T) (h2 : HOk l.prog w T s1.heap) (h3 : ∀ b, T b ≠ none → b = a) (h4 : T a ≠ none → (K w.params).lookup a = none) (h5 : SqL (K w.params) T a (ns.map V.int)) =>
    callG_core (hY w _ Yh) Gr.T.g Gr.T.b Gr.T.builtins Gr.T.nolimit hgn hobj hr (fun base _ _ => hF base) hb h1 h2 h3 h4 ⟨a, ns, rfl, h5, by omega, fun _ => rfl⟩
  cases lk : (K w.params).lookup a with
  | some ob =>
    -- the script is an object of the module itself
    have e := hY w _ Yh a ob lk
    rw [hobj] at e
    cases e
    exact core (fun _ => none) (fun _ => .inl rfl) (fun b u z => by cases (show (none : Option HO) = some u from z)) (fun b z => absurd rfl z) (fun z => absurd rfl z) (.inr ⟨_, us.toArray, _, lk, rfl, rfl, rfl, by rw [List.size_toArray, lenU]; exact big, by simpa using rv⟩)
  | none =>
    refine core (fun b => if b = a then some (.frz { cls := .type "list", data := .seq us.toArray } (.lst (ns.map V.int))) else none) (fun b => ?_) (fun b u z => ?_) (fun b z => ?_) (fun _ => lk) (.inl (.inr ⟨{ cls := .type "list", data := .seq us.toArray }, if_pos rfl⟩))
    · by_cases eb : b = a
      · exact .inr ⟨_, _, if_pos eb⟩
      · exact .inl (if_neg eb)
    · by_cases eb : b = a
      · cases (if_pos eb).symm.trans z
        subst eb
        exact ⟨hobj, by rw [List.length_map]; exact big, us, _, rv, hobj⟩
      · cases (if_neg eb).symm.trans z
    · exact Classical.byContradiction fun eb => z (if_neg eb)
end Kn
/-! E2: what is read off the heap that the top leaves. -/
namespace Kn
open PySem PySem.Spec PyProof.Rows L2
section
variable {K : PySem.W.Frag} {h : Heap} {mg : Str → Option Value}
theorem at_mk {x : Str} {st : Stmt} {ps : List Str} {f : Addr} {od an : Option Addr} {osl : Array (Option Value)} {oc kV doc pm cdv ct : Value} (X : K.In h) (G : h.Ns mainGlobals mg)
    (a : PySem.W.nsIn K mainGlobals x = some (some (.ref f))) (l : K.lookup f = some ⟨oc, od, .func (PySem.W.fnOf x x (defArgs st) (defBody st) (defScope st) .none kV doc pm an cdv ct), osl⟩) (c : PySem.W.codeIn K cdv x = true) (k : PySem.W.keepIn K (.ref f) = true)
    (hb : ∀ (kV doc pm : Value) (an : Option Addr) (cdv ct : Value) (us : List Value), us.length = ps.length → bindArgs (PySem.W.fnOf x x (defArgs st) (defBody st) (defScope st) .none kV doc pm an cdv ct) ⟨us, []⟩ = pure (ps.zip us)) : At K mg x st ps :=
  have F := fun_mk l c k
  ⟨f, _, F, PySem.W.mg_of X G a, F.binds hb⟩
theorem atm_mk {C0 : Addr} {m qual : Str} {st : Stmt} {ps : List Str} {f : Addr} {od an : Option Addr} {osl : Array (Option Value)} {oc kV doc pm cdv ct : Value} (a : PySem.W.findIn K (.ref C0) m = some (some (.ref f))) (n : PySem.W.isFn K (.ref f) = true)
    (l : K.lookup f = some ⟨oc, od, .func (PySem.W.fnOf m qual (defArgs st) (defBody st) (defScope st) .none kV doc pm an cdv ct), osl⟩) (c : PySem.W.codeIn K cdv qual = true) (k : PySem.W.keepIn K (.ref f) = true)
    (hb : ∀ (kV doc pm : Value) (an : Option Addr) (cdv ct : Value) (us : List Value), us.length = ps.length → bindArgs (PySem.W.fnOf m qual (defArgs st) (defBody st) (defScope st) .none kV doc pm an cdv ct) ⟨us, []⟩ = pure (ps.zip us)) : AtM K C0 m qual st ps :=
  have F := fun_mk l c k
  ⟨f, _, F, ⟨a, n, k⟩, F.binds hb⟩
theorem spi_mk {C0 : Addr} {f : Addr} {od an : Option Addr} {osl : Array (Option Value)} {oc kV doc pm cdv ct : Value} (X : K.In h) (G : h.Ns mainGlobals mg) (g : PySem.W.nsIn K mainGlobals "Spreader" = some (some (.ref C0))) (mk : PySem.W.makesIn K C0 = true) (a : PySem.W.findIn K (.ref C0) "__init__" = some (some (.ref f))) (n : PySem.W.isFn K (.ref f) = true) (kc : PySem.W.keepIn K (.ref C0) = true)
    (l : K.lookup f = some ⟨oc, od, .func (PySem.W.fnOf "__init__" "Spreader.__init__" (defArgs s_Sp_init) (defBody s_Sp_init) (defScope s_Sp_init) .none kV doc pm an cdv ct), osl⟩) (c : PySem.W.codeIn K cdv "Spreader.__init__" = true) (k : PySem.W.keepIn K (.ref f) = true) : SpI K mg C0 :=
  have F := fun_mk l c k
  ⟨PySem.W.mg_of X G g, f, _, F, ⟨mk, a, n, kc⟩, F.binds fun _ _ _ _ _ _ us hl => match us, hl with | [_, _], _ => rfl⟩
theorem er_mk {C : Addr} {x fl qual : Str} {st : Stmt} {f N : Addr} {nm q : Str} {bs bm sub : List Value} {sn : List Str} {ab : Bool} {col : Option Bool} {dd : Option Addr} {k0 k1 k2 k3 k5 : Option Value} {od an : Option Addr} {osl : Array (Option Value)} {oc kV doc pm cdv ct : Value} (X : K.In h) (G : h.Ns mainGlobals mg)
    (g : PySem.W.nsIn K mainGlobals x = some (some (.ref C))) (xl : K.lookup C = some (excClassObj nm q C N bs bm true sn sub ab col dd k0 k1 k2 k3 k5 "ValueError.__new__")) (ve : PySem.HandSPX.refsVE bm = true) (sa : PySem.W.findIn K (.ref C) "__setattr__" = some (some (.builtin "object.__setattr__")))
    (ex : PySem.W.subIn K (.ref C) (.type "BaseException") = some true) (ty : PySem.W.typeIn K (.ref C) = some (.type "type")) (kc : PySem.W.keepIn K (.ref C) = true) (no : PySem.W.findIn K (.ref C) fl = some none) (i : PySem.W.findIn K (.ref C) "__init__" = some (some (.ref f))) (ti : PySem.W.typeIn K (.ref f) = some (.type "function"))
    (l : K.lookup f = some ⟨oc, od, .func (PySem.W.fnOf "__init__" qual (defArgs st) (defBody st) (defScope st) .none kV doc pm an cdv ct), osl⟩) (c : PySem.W.codeIn K cdv qual = true) (k : PySem.W.keepIn K (.ref f) = true)
    (hb : ∀ (kV doc pm : Value) (an : Option Addr) (cdv ct : Value) (us : List Value), us.length = 2 → bindArgs (PySem.W.fnOf "__init__" qual (defArgs st) (defBody st) (defScope st) .none kV doc pm an cdv ct) ⟨us, []⟩ = pure ((["self", fl] : List Str).zip us)) : ErC K mg x fl C qual st :=
  have F := fun_mk l c k
  ⟨PySem.W.mg_of X G g, ⟨⟨nm, q, N, bs, bm, sn, sub, ab, col, dd, k0, k1, k2, k3, k5, xl, ve⟩, sa, ex, ty, kc⟩, no, f, _, i, ti, F, F.binds hb⟩
theorem sp_mk {C0 : Addr} (p : PySem.W.plainGet K C0 Str.empty = true) (q : PySem.W.hasDictIn K C0 = true) (r : PySem.W.plainOver K C0 = true) (s : PySem.W.findIn K (.ref C0) "__setattr__" = some (some (.builtin "object.__setattr__")))
    (t : PySem.W.findIn K (.ref C0) "web" = some none) (u : PySem.W.findIn K (.ref C0) "places" = some none) (v : PySem.W.findIn K (.ref C0) "pieces" = some none) : SpC K C0 := ⟨⟨p, q, r, s⟩, t, u, v⟩
theorem ie_mk {C1 : Addr} (p : PySem.W.isClsIn K C1 = true) (q : PySem.W.findIn K (.ref C1) "__getattribute__" = some (some (.builtin "BaseException.__getattribute__"))) (r : PySem.W.findIn K (.ref C1) "__getattr__" = some none) (s : PySem.W.subIn K (.ref C1) (.type "BaseException") = some true)
    (t : PySem.W.findIn K (.ref C1) "__class__" = some (some (.builtin "object.__class__"))) (u : PySem.W.specialIn K (.builtin "object.__class__") "__get__" = some (some (.builtin "getset_descriptor.__get__"))) (v : PySem.W.takesIn K (.builtin "object.__class__") = some true) (x : PySem.W.mroIn K C1 (.type "object") = some true) : IsE K C1 := ⟨p, q, r, s, t, u, v, x⟩
theorem const_s {x z : Str} {v : Value} (X : K.In h) (G : h.Ns mainGlobals mg) (a : PySem.W.nsIn K mainGlobals x = some (some v)) (e : ∃ t, v = .str z t) : ∃ t, mg x = some (.str z t) := by
  obtain ⟨t, rfl⟩ := e
  exact ⟨t, PySem.W.mg_of X G a⟩
theorem const_i {x : Str} {n : Int} {v : Value} (X : K.In h) (G : h.Ns mainGlobals mg) (a : PySem.W.nsIn K mainGlobals x = some (some v)) (e : ∃ t, v = .int n t) : ∃ t, mg x = some (.int n t) := by
  obtain ⟨t, rfl⟩ := e
  exact ⟨t, PySem.W.mg_of X G a⟩
theorem fin_mk {P : Program} {w : World} {fa f C0 Cw Ct Cn Ck : Addr} {od an : Option Addr} {osl : Array (Option Value)} {oc kV doc pm cdv ct : Value} (X : K.In h) (G : h.Ns mainGlobals mg) (hfa : mg "law" = some (.ref fa))
    (a : PySem.W.nsIn K mainGlobals "law" = some (some (.ref f))) (l : K.lookup f = some ⟨oc, od, .func (PySem.W.fnOf "law" "law" (defArgs s_law) (defBody s_law) (defScope s_law) .none kV doc pm an cdv ct), osl⟩) (c : PySem.W.codeIn K cdv "law" = true) (k : PySem.W.keepIn K (.ref f) = true) (T0 : Txt0 K mg)
    (spi : SpI K mg C0) (sp : SpC K C0) (m1 : AtM K C0 "plain" "Spreader.plain" s_Sp_plain P_Sp_plain) (m2 : AtM K C0 "handed_on" "Spreader.handed_on" s_Sp_handed_on P_Sp_handed_on) (m3 : AtM K C0 "spread" "Spreader.spread" s_Sp_spread P_Sp_spread) (m4 : AtM K C0 "steps" "Spreader.steps" s_Sp_steps P_Sp_steps)
    (ew : ErC K mg "InvalidWeb" "value" Cw "InvalidWeb.__init__" s_E_InvalidWeb) (et : ErC K mg "NoText" "name" Ct "NoText.__init__" s_E_NoText) (en : ErC K mg "NotWhole" "fault" Cn "NotWhole.__init__" s_E_NotWhole) (xw : XfC K Cw) (xt : XfC K Ct) (xn : XfC K Cn) (ty : PySem.W.typeIn K (.ref Cn) = some (.type "type")) (tz : PySem.W.typeIn K (.ref Ct) = some (.type "type"))
    (nn : PySem.W.subIn K (.ref Cn) (.ref Cn) = some true) (tn : PySem.W.subIn K (.ref Ct) (.ref Cn) = some false) (tt : PySem.W.subIn K (.ref Ct) (.ref Ct) = some true) (gk : PySem.W.nsIn K mainGlobals "KnotError" = some (some (.ref Ck))) (k1 : PySem.W.subIn K (.ref Ck) (.type "BaseException") = some true) (k2 : PySem.W.hasDictIn K Ck = true) (k3 : PySem.W.typeIn K (.ref Ck) = some (.type "type")) (k4 : PySem.W.subIn K (.ref Cw) (.ref Ck) = some true) (ie : IsE K Cw) :
    ∃ fd : FuncData, (∀ (s : Shared) (u : Value), BindsTo s fd ⟨[u], []⟩ [("_law_script", u)]) ∧ ∀ base : Heap, FnG P w K mg base 17 fa fd ["_law_script"] (spLaw K) := by
  have e := hfa.symm.trans (PySem.W.mg_of X G a)
  cases e
  have F := fun_mk (st := s_law) l c k
  have A : Txt K mg C0 Cw Ct Cn Ck := { T0 with sp := sp, spi := spi, sp_plain := m1, sp_handed_on := m2, sp_spread := m3, sp_steps := m4, er := ⟨ew, et, en⟩, xm := ⟨PySem.W.exm_ref xn.exC xn.hdC ty nn, PySem.W.exm_ref xn.exC xn.hdC ty tn, PySem.W.exm_ref xt.exC xt.hdC tz tt, xn, xt⟩, rf := ⟨PySem.W.mg_of X G gk, PySem.W.exm_ref k1 k2 k3 k4, xw, ie⟩ }
  exact ⟨_, fun s v => .of_eq rfl, fun base => law_all A F⟩
end
end Kn
/-! E3: the end (printed by gen/ends.py end). -/
open PySem PySem.W PyProof.Rows
set_option maxRecDepth 100000 in
set_option maxHeartbeats 0 in
theorem PySem.Challenge.cw_proseknot_k15_whole_tangled_files_holds : PySem.Challenge.rw_proseknot_k15_whole_tangled_files.Holds := by
  w_on; o_law; k_head; (case hw => w_witness2)
  k_fill
  refine Kn.walk_ofG (l := PySem.Challenge.rw_proseknot_k15_whole_tangled_files) (n := 63) (k := 17) (x := "_law_script") rfl (by decide) rfl ⟨rfl, by decide, by decide⟩ (fun w h Y => PySem.W.kIn_of Y) ?F
  case F =>
    intro w mg fa h KX G hmg
    have z_len : mg "len" = none := by
      refine PySem.W.mg_none_of KX G ?z
      (case z => k_is)
    have z_enumerate : mg "enumerate" = none := by
      refine PySem.W.mg_none_of KX G ?z
      (case z => k_is)
    have z_tuple : mg "tuple" = none := by
      refine PySem.W.mg_none_of KX G ?z
      (case z => k_is)
    have z_isinstance : mg "isinstance" = none := by
      refine PySem.W.mg_none_of KX G ?z
      (case z => k_is)
    have z_int : mg "int" = none := by
      refine PySem.W.mg_none_of KX G ?z
      (case z => k_is)
    have z_bool : mg "bool" = none := by
      refine PySem.W.mg_none_of KX G ?z
      (case z => k_is)
    have z_str : mg "str" = none := by
      refine PySem.W.mg_none_of KX G ?z
      (case z => k_is)
    have z_list : mg "list" = none := by
      refine PySem.W.mg_none_of KX G ?z
      (case z => k_is)
    have z_all : mg "all" = none := by
      refine PySem.W.mg_none_of KX G ?z
      (case z => k_is)
    have z_ord : mg "ord" = none := by
      refine PySem.W.mg_none_of KX G ?z
      (case z => k_is)
    have z_set : mg "set" = none := by
      refine PySem.W.mg_none_of KX G ?z
      (case z => k_is)
    have z_range : mg "range" = none := by
      refine PySem.W.mg_none_of KX G ?z
      (case z => k_is)
    have z_repr : mg "repr" = none := by
      refine PySem.W.mg_none_of KX G ?z
      (case z => k_is)
    have c_letters : ∃ t, mg "LETTERS" = some (.str "abcdefghijklmnopqrstuvwxyz" t) := by
      refine' Kn.const_s KX G ?z ?e
      (case z => k_is); (case e => exact ⟨_, rfl⟩)
    have c_mletters : ∃ t, mg "MOST_LETTERS" = some (.int 8 t) := by
      refine' Kn.const_i KX G ?z ?e
      (case z => k_is); (case e => exact ⟨_, rfl⟩)
    have c_mparams : ∃ t, mg "MOST_PARAMS" = some (.int 3 t) := by
      refine' Kn.const_i KX G ?z ?e
      (case z => k_is); (case e => exact ⟨_, rfl⟩)
    have c_margs : ∃ t, mg "MOST_ARGUMENTS" = some (.int 3 t) := by
      refine' Kn.const_i KX G ?z ?e
      (case z => k_is); (case e => exact ⟨_, rfl⟩)
    have c_mindent : ∃ t, mg "MOST_INDENT" = some (.int 20 t) := by
      refine' Kn.const_i KX G ?z ?e
      (case z => k_is); (case e => exact ⟨_, rfl⟩)
    have tx : Kn.Tx mg := ⟨z_len, z_enumerate, z_tuple, z_isinstance, z_int, z_bool, z_str, z_list, z_all, z_ord, z_set, z_range, z_repr, c_letters, c_mletters, c_mparams, c_margs, c_mindent⟩
    refine' Kn.fin_mk KX G hmg ?a ?l ?c ?k (Kn.Txt0.mk tx ?A_slot_at ?A_parts_of ?A_is_number ?A_is_word ?A_is_sign ?A_is_line ?A_is_argument ?A_is_code_line ?A_is_head ?A_is_section ?A_heads_of ?A_is_web ?A_need_web ?A_names_in ?A_code_in ?A_uses_in ?A_file_names ?A_head_text ?A_code_text ?A_rows_of ?A_starts ?A_pieces ?A_filled_cells ?A_argument_places ?A_lines_of_text ?A_joined ?A_next_of ?A_reached_from ?A_in_circles ?A_faults_of_use ?A_faults_in ?A_faults ?A_need_whole ?A_need_file ?A_tangled ?A_l_mixed ?A_l_pool ?A_l_take ?A_l_signs ?A_l_word ?A_l_line ?A_l_argument ?A_l_plan ?A_l_use ?A_l_code ?A_l_web ?A_l_names ?A_l_head ?A_l_code_of ?A_l_used ?A_l_reached ?A_l_first_fault ?A_l_spoilt ?A_l_same ?A_l_parts ?A_l_text ?A_l_put ?A_l_arguments ?A_l_spread ?A_l_told ?A_l_agrees ?A_l_refused ?A_l_anew ?A_law) ?spi ?sp ?m1 ?m2 ?m3 ?m4 ?ew ?et ?en ?xw ?xt ?xn ?ty ?tz ?nn ?tn ?tt ?gk ?k1 ?k2 ?k3 ?k4 ?ie
    (case a => k_is); (case l => k_is); (case c => k_is); (case k => k_is)
    (case A_slot_at => refine' Kn.at_mk KX G ?u57_a ?u57_l ?u57_c ?u57_k (fun _ _ _ _ _ _ us hl => match us, hl with | [_, _, _], _ => rfl); (case u57_a => k_is); (case u57_l => k_is); (case u57_c => k_is); (case u57_k => k_is))
    (case A_parts_of => refine' Kn.at_mk KX G ?u58_a ?u58_l ?u58_c ?u58_k (fun _ _ _ _ _ _ us hl => match us, hl with | [_, _], _ => rfl); (case u58_a => k_is); (case u58_l => k_is); (case u58_c => k_is); (case u58_k => k_is))
    (case A_is_number => refine' Kn.at_mk KX G ?u59_a ?u59_l ?u59_c ?u59_k (fun _ _ _ _ _ _ us hl => match us, hl with | [_], _ => rfl); (case u59_a => k_is); (case u59_l => k_is); (case u59_c => k_is); (case u59_k => k_is))
    (case A_is_word => refine' Kn.at_mk KX G ?u60_a ?u60_l ?u60_c ?u60_k (fun _ _ _ _ _ _ us hl => match us, hl with | [_], _ => rfl); (case u60_a => k_is); (case u60_l => k_is); (case u60_c => k_is); (case u60_k => k_is))
    (case A_is_sign => refine' Kn.at_mk KX G ?u61_a ?u61_l ?u61_c ?u61_k (fun _ _ _ _ _ _ us hl => match us, hl with | [_], _ => rfl); (case u61_a => k_is); (case u61_l => k_is); (case u61_c => k_is); (case u61_k => k_is))
    (case A_is_line => refine' Kn.at_mk KX G ?u62_a ?u62_l ?u62_c ?u62_k (fun _ _ _ _ _ _ us hl => match us, hl with | [_], _ => rfl); (case u62_a => k_is); (case u62_l => k_is); (case u62_c => k_is); (case u62_k => k_is))
    (case A_is_argument => refine' Kn.at_mk KX G ?u63_a ?u63_l ?u63_c ?u63_k (fun _ _ _ _ _ _ us hl => match us, hl with | [_], _ => rfl); (case u63_a => k_is); (case u63_l => k_is); (case u63_c => k_is); (case u63_k => k_is))
    (case A_is_code_line => refine' Kn.at_mk KX G ?u64_a ?u64_l ?u64_c ?u64_k (fun _ _ _ _ _ _ us hl => match us, hl with | [_], _ => rfl); (case u64_a => k_is); (case u64_l => k_is); (case u64_c => k_is); (case u64_k => k_is))
    (case A_is_head => refine' Kn.at_mk KX G ?u65_a ?u65_l ?u65_c ?u65_k (fun _ _ _ _ _ _ us hl => match us, hl with | [_], _ => rfl); (case u65_a => k_is); (case u65_l => k_is); (case u65_c => k_is); (case u65_k => k_is))
    (case A_is_section => refine' Kn.at_mk KX G ?u66_a ?u66_l ?u66_c ?u66_k (fun _ _ _ _ _ _ us hl => match us, hl with | [_], _ => rfl); (case u66_a => k_is); (case u66_l => k_is); (case u66_c => k_is); (case u66_k => k_is))
    (case A_heads_of => refine' Kn.at_mk KX G ?u67_a ?u67_l ?u67_c ?u67_k (fun _ _ _ _ _ _ us hl => match us, hl with | [_], _ => rfl); (case u67_a => k_is); (case u67_l => k_is); (case u67_c => k_is); (case u67_k => k_is))
    (case A_is_web => refine' Kn.at_mk KX G ?u68_a ?u68_l ?u68_c ?u68_k (fun _ _ _ _ _ _ us hl => match us, hl with | [_], _ => rfl); (case u68_a => k_is); (case u68_l => k_is); (case u68_c => k_is); (case u68_k => k_is))
    (case A_need_web => refine' Kn.at_mk KX G ?u69_a ?u69_l ?u69_c ?u69_k (fun _ _ _ _ _ _ us hl => match us, hl with | [_], _ => rfl); (case u69_a => k_is); (case u69_l => k_is); (case u69_c => k_is); (case u69_k => k_is))
    (case A_names_in => refine' Kn.at_mk KX G ?u70_a ?u70_l ?u70_c ?u70_k (fun _ _ _ _ _ _ us hl => match us, hl with | [_], _ => rfl); (case u70_a => k_is); (case u70_l => k_is); (case u70_c => k_is); (case u70_k => k_is))
    (case A_code_in => refine' Kn.at_mk KX G ?u71_a ?u71_l ?u71_c ?u71_k (fun _ _ _ _ _ _ us hl => match us, hl with | [_, _], _ => rfl); (case u71_a => k_is); (case u71_l => k_is); (case u71_c => k_is); (case u71_k => k_is))
    (case A_uses_in => refine' Kn.at_mk KX G ?u72_a ?u72_l ?u72_c ?u72_k (fun _ _ _ _ _ _ us hl => match us, hl with | [_, _], _ => rfl); (case u72_a => k_is); (case u72_l => k_is); (case u72_c => k_is); (case u72_k => k_is))
    (case A_file_names => refine' Kn.at_mk KX G ?u73_a ?u73_l ?u73_c ?u73_k (fun _ _ _ _ _ _ us hl => match us, hl with | [_], _ => rfl); (case u73_a => k_is); (case u73_l => k_is); (case u73_c => k_is); (case u73_k => k_is))
    (case A_head_text => refine' Kn.at_mk KX G ?u74_a ?u74_l ?u74_c ?u74_k (fun _ _ _ _ _ _ us hl => match us, hl with | [_], _ => rfl); (case u74_a => k_is); (case u74_l => k_is); (case u74_c => k_is); (case u74_k => k_is))
    (case A_code_text => refine' Kn.at_mk KX G ?u75_a ?u75_l ?u75_c ?u75_k (fun _ _ _ _ _ _ us hl => match us, hl with | [_], _ => rfl); (case u75_a => k_is); (case u75_l => k_is); (case u75_c => k_is); (case u75_k => k_is))
    (case A_rows_of => refine' Kn.at_mk KX G ?u76_a ?u76_l ?u76_c ?u76_k (fun _ _ _ _ _ _ us hl => match us, hl with | [_], _ => rfl); (case u76_a => k_is); (case u76_l => k_is); (case u76_c => k_is); (case u76_k => k_is))
    (case A_starts => refine' Kn.at_mk KX G ?u77_a ?u77_l ?u77_c ?u77_k (fun _ _ _ _ _ _ us hl => match us, hl with | [_], _ => rfl); (case u77_a => k_is); (case u77_l => k_is); (case u77_c => k_is); (case u77_k => k_is))
    (case A_pieces => refine' Kn.at_mk KX G ?u78_a ?u78_l ?u78_c ?u78_k (fun _ _ _ _ _ _ us hl => match us, hl with | [_], _ => rfl); (case u78_a => k_is); (case u78_l => k_is); (case u78_c => k_is); (case u78_k => k_is))
    (case A_filled_cells => refine' Kn.at_mk KX G ?u79_a ?u79_l ?u79_c ?u79_k (fun _ _ _ _ _ _ us hl => match us, hl with | [_, _, _, _, _], _ => rfl); (case u79_a => k_is); (case u79_l => k_is); (case u79_c => k_is); (case u79_k => k_is))
    (case A_argument_places => refine' Kn.at_mk KX G ?u80_a ?u80_l ?u80_c ?u80_k (fun _ _ _ _ _ _ us hl => match us, hl with | [_, _], _ => rfl); (case u80_a => k_is); (case u80_l => k_is); (case u80_c => k_is); (case u80_k => k_is))
    (case A_lines_of_text => refine' Kn.at_mk KX G ?u81_a ?u81_l ?u81_c ?u81_k (fun _ _ _ _ _ _ us hl => match us, hl with | [_, _], _ => rfl); (case u81_a => k_is); (case u81_l => k_is); (case u81_c => k_is); (case u81_k => k_is))
    (case A_joined => refine' Kn.at_mk KX G ?u82_a ?u82_l ?u82_c ?u82_k (fun _ _ _ _ _ _ us hl => match us, hl with | [_], _ => rfl); (case u82_a => k_is); (case u82_l => k_is); (case u82_c => k_is); (case u82_k => k_is))
    (case A_next_of => refine' Kn.at_mk KX G ?u83_a ?u83_l ?u83_c ?u83_k (fun _ _ _ _ _ _ us hl => match us, hl with | [_], _ => rfl); (case u83_a => k_is); (case u83_l => k_is); (case u83_c => k_is); (case u83_k => k_is))
    (case A_reached_from => refine' Kn.at_mk KX G ?u84_a ?u84_l ?u84_c ?u84_k (fun _ _ _ _ _ _ us hl => match us, hl with | [_, _], _ => rfl); (case u84_a => k_is); (case u84_l => k_is); (case u84_c => k_is); (case u84_k => k_is))
    (case A_in_circles => refine' Kn.at_mk KX G ?u85_a ?u85_l ?u85_c ?u85_k (fun _ _ _ _ _ _ us hl => match us, hl with | [_], _ => rfl); (case u85_a => k_is); (case u85_l => k_is); (case u85_c => k_is); (case u85_k => k_is))
    (case A_faults_of_use => refine' Kn.at_mk KX G ?u86_a ?u86_l ?u86_c ?u86_k (fun _ _ _ _ _ _ us hl => match us, hl with | [_, _, _, _], _ => rfl); (case u86_a => k_is); (case u86_l => k_is); (case u86_c => k_is); (case u86_k => k_is))
    (case A_faults_in => refine' Kn.at_mk KX G ?u87_a ?u87_l ?u87_c ?u87_k (fun _ _ _ _ _ _ us hl => match us, hl with | [_], _ => rfl); (case u87_a => k_is); (case u87_l => k_is); (case u87_c => k_is); (case u87_k => k_is))
    (case A_faults => refine' Kn.at_mk KX G ?u88_a ?u88_l ?u88_c ?u88_k (fun _ _ _ _ _ _ us hl => match us, hl with | [_], _ => rfl); (case u88_a => k_is); (case u88_l => k_is); (case u88_c => k_is); (case u88_k => k_is))
    (case A_need_whole => refine' Kn.at_mk KX G ?u89_a ?u89_l ?u89_c ?u89_k (fun _ _ _ _ _ _ us hl => match us, hl with | [_], _ => rfl); (case u89_a => k_is); (case u89_l => k_is); (case u89_c => k_is); (case u89_k => k_is))
    (case A_need_file => refine' Kn.at_mk KX G ?u90_a ?u90_l ?u90_c ?u90_k (fun _ _ _ _ _ _ us hl => match us, hl with | [_, _], _ => rfl); (case u90_a => k_is); (case u90_l => k_is); (case u90_c => k_is); (case u90_k => k_is))
    (case A_tangled => refine' Kn.at_mk KX G ?u91_a ?u91_l ?u91_c ?u91_k (fun _ _ _ _ _ _ us hl => match us, hl with | [_, _], _ => rfl); (case u91_a => k_is); (case u91_l => k_is); (case u91_c => k_is); (case u91_k => k_is))
    (case A_l_mixed => refine' Kn.at_mk KX G ?u92_a ?u92_l ?u92_c ?u92_k (fun _ _ _ _ _ _ us hl => match us, hl with | [_, _, _], _ => rfl); (case u92_a => k_is); (case u92_l => k_is); (case u92_c => k_is); (case u92_k => k_is))
    (case A_l_pool => refine' Kn.at_mk KX G ?u93_a ?u93_l ?u93_c ?u93_k (fun _ _ _ _ _ _ us hl => match us, hl with | [_], _ => rfl); (case u93_a => k_is); (case u93_l => k_is); (case u93_c => k_is); (case u93_k => k_is))
    (case A_l_take => refine' Kn.at_mk KX G ?u94_a ?u94_l ?u94_c ?u94_k (fun _ _ _ _ _ _ us hl => match us, hl with | [_, _], _ => rfl); (case u94_a => k_is); (case u94_l => k_is); (case u94_c => k_is); (case u94_k => k_is))
    (case A_l_signs => refine' Kn.at_mk KX G ?u95_a ?u95_l ?u95_c ?u95_k (fun _ _ _ _ _ _ us hl => match us, hl with | [], _ => rfl); (case u95_a => k_is); (case u95_l => k_is); (case u95_c => k_is); (case u95_k => k_is))
    (case A_l_word => refine' Kn.at_mk KX G ?u96_a ?u96_l ?u96_c ?u96_k (fun _ _ _ _ _ _ us hl => match us, hl with | [_, _], _ => rfl); (case u96_a => k_is); (case u96_l => k_is); (case u96_c => k_is); (case u96_k => k_is))
    (case A_l_line => refine' Kn.at_mk KX G ?u97_a ?u97_l ?u97_c ?u97_k (fun _ _ _ _ _ _ us hl => match us, hl with | [_, _], _ => rfl); (case u97_a => k_is); (case u97_l => k_is); (case u97_c => k_is); (case u97_k => k_is))
    (case A_l_argument => refine' Kn.at_mk KX G ?u98_a ?u98_l ?u98_c ?u98_k (fun _ _ _ _ _ _ us hl => match us, hl with | [_, _], _ => rfl); (case u98_a => k_is); (case u98_l => k_is); (case u98_c => k_is); (case u98_k => k_is))
    (case A_l_plan => refine' Kn.at_mk KX G ?u99_a ?u99_l ?u99_c ?u99_k (fun _ _ _ _ _ _ us hl => match us, hl with | [_], _ => rfl); (case u99_a => k_is); (case u99_l => k_is); (case u99_c => k_is); (case u99_k => k_is))
    (case A_l_use => refine' Kn.at_mk KX G ?u100_a ?u100_l ?u100_c ?u100_k (fun _ _ _ _ _ _ us hl => match us, hl with | [_, _, _], _ => rfl); (case u100_a => k_is); (case u100_l => k_is); (case u100_c => k_is); (case u100_k => k_is))
    (case A_l_code => refine' Kn.at_mk KX G ?u101_a ?u101_l ?u101_c ?u101_k (fun _ _ _ _ _ _ us hl => match us, hl with | [_, _, _, _], _ => rfl); (case u101_a => k_is); (case u101_l => k_is); (case u101_c => k_is); (case u101_k => k_is))
    (case A_l_web => refine' Kn.at_mk KX G ?u102_a ?u102_l ?u102_c ?u102_k (fun _ _ _ _ _ _ us hl => match us, hl with | [_, _, _], _ => rfl); (case u102_a => k_is); (case u102_l => k_is); (case u102_c => k_is); (case u102_k => k_is))
    (case A_l_names => refine' Kn.at_mk KX G ?u103_a ?u103_l ?u103_c ?u103_k (fun _ _ _ _ _ _ us hl => match us, hl with | [_], _ => rfl); (case u103_a => k_is); (case u103_l => k_is); (case u103_c => k_is); (case u103_k => k_is))
    (case A_l_head => refine' Kn.at_mk KX G ?u104_a ?u104_l ?u104_c ?u104_k (fun _ _ _ _ _ _ us hl => match us, hl with | [_, _], _ => rfl); (case u104_a => k_is); (case u104_l => k_is); (case u104_c => k_is); (case u104_k => k_is))
    (case A_l_code_of => refine' Kn.at_mk KX G ?u105_a ?u105_l ?u105_c ?u105_k (fun _ _ _ _ _ _ us hl => match us, hl with | [_, _], _ => rfl); (case u105_a => k_is); (case u105_l => k_is); (case u105_c => k_is); (case u105_k => k_is))
    (case A_l_used => refine' Kn.at_mk KX G ?u106_a ?u106_l ?u106_c ?u106_k (fun _ _ _ _ _ _ us hl => match us, hl with | [_, _], _ => rfl); (case u106_a => k_is); (case u106_l => k_is); (case u106_c => k_is); (case u106_k => k_is))
    (case A_l_reached => refine' Kn.at_mk KX G ?u107_a ?u107_l ?u107_c ?u107_k (fun _ _ _ _ _ _ us hl => match us, hl with | [_, _], _ => rfl); (case u107_a => k_is); (case u107_l => k_is); (case u107_c => k_is); (case u107_k => k_is))
    (case A_l_first_fault => refine' Kn.at_mk KX G ?u108_a ?u108_l ?u108_c ?u108_k (fun _ _ _ _ _ _ us hl => match us, hl with | [_], _ => rfl); (case u108_a => k_is); (case u108_l => k_is); (case u108_c => k_is); (case u108_k => k_is))
    (case A_l_spoilt => refine' Kn.at_mk KX G ?u109_a ?u109_l ?u109_c ?u109_k (fun _ _ _ _ _ _ us hl => match us, hl with | [_, _, _], _ => rfl); (case u109_a => k_is); (case u109_l => k_is); (case u109_c => k_is); (case u109_k => k_is))
    (case A_l_same => refine' Kn.at_mk KX G ?u110_a ?u110_l ?u110_c ?u110_k (fun _ _ _ _ _ _ us hl => match us, hl with | [_, _], _ => rfl); (case u110_a => k_is); (case u110_l => k_is); (case u110_c => k_is); (case u110_k => k_is))
    (case A_l_parts => refine' Kn.at_mk KX G ?u111_a ?u111_l ?u111_c ?u111_k (fun _ _ _ _ _ _ us hl => match us, hl with | [_, _], _ => rfl); (case u111_a => k_is); (case u111_l => k_is); (case u111_c => k_is); (case u111_k => k_is))
    (case A_l_text => refine' Kn.at_mk KX G ?u112_a ?u112_l ?u112_c ?u112_k (fun _ _ _ _ _ _ us hl => match us, hl with | [_], _ => rfl); (case u112_a => k_is); (case u112_l => k_is); (case u112_c => k_is); (case u112_k => k_is))
    (case A_l_put => refine' Kn.at_mk KX G ?u113_a ?u113_l ?u113_c ?u113_k (fun _ _ _ _ _ _ us hl => match us, hl with | [_, _, _, _], _ => rfl); (case u113_a => k_is); (case u113_l => k_is); (case u113_c => k_is); (case u113_k => k_is))
    (case A_l_arguments => refine' Kn.at_mk KX G ?u114_a ?u114_l ?u114_c ?u114_k (fun _ _ _ _ _ _ us hl => match us, hl with | [_, _], _ => rfl); (case u114_a => k_is); (case u114_l => k_is); (case u114_c => k_is); (case u114_k => k_is))
    (case A_l_spread => refine' Kn.at_mk KX G ?u115_a ?u115_l ?u115_c ?u115_k (fun _ _ _ _ _ _ us hl => match us, hl with | [_, _, _, _, _, _, _], _ => rfl); (case u115_a => k_is); (case u115_l => k_is); (case u115_c => k_is); (case u115_k => k_is))
    (case A_l_told => refine' Kn.at_mk KX G ?u116_a ?u116_l ?u116_c ?u116_k (fun _ _ _ _ _ _ us hl => match us, hl with | [_, _], _ => rfl); (case u116_a => k_is); (case u116_l => k_is); (case u116_c => k_is); (case u116_k => k_is))
    (case A_l_agrees => refine' Kn.at_mk KX G ?u117_a ?u117_l ?u117_c ?u117_k (fun _ _ _ _ _ _ us hl => match us, hl with | [_, _], _ => rfl); (case u117_a => k_is); (case u117_l => k_is); (case u117_c => k_is); (case u117_k => k_is))
    (case A_l_refused => refine' Kn.at_mk KX G ?u118_a ?u118_l ?u118_c ?u118_k (fun _ _ _ _ _ _ us hl => match us, hl with | [_, _], _ => rfl); (case u118_a => k_is); (case u118_l => k_is); (case u118_c => k_is); (case u118_k => k_is))
    (case A_l_anew => refine' Kn.at_mk KX G ?u119_a ?u119_l ?u119_c ?u119_k (fun _ _ _ _ _ _ us hl => match us, hl with | [_], _ => rfl); (case u119_a => k_is); (case u119_l => k_is); (case u119_c => k_is); (case u119_k => k_is))
    (case A_law => refine' Kn.at_mk KX G ?u120_a ?u120_l ?u120_c ?u120_k (fun _ _ _ _ _ _ us hl => match us, hl with | [_], _ => rfl); (case u120_a => k_is); (case u120_l => k_is); (case u120_c => k_is); (case u120_k => k_is))
    (case spi => refine' Kn.spi_mk KX G ?u121_g ?u121_mk ?u121_a ?u121_n ?u121_kc ?u121_l ?u121_c ?u121_k; (case u121_g => k_is); (case u121_mk => k_is); (case u121_a => k_is); (case u121_n => k_is); (case u121_kc => k_is); (case u121_l => k_is); (case u121_c => k_is); (case u121_k => k_is))
    (case sp => refine' Kn.sp_mk ?u122_p ?u122_q ?u122_r ?u122_s ?u122_t ?u122_u ?u122_v; (case u122_p => k_is); (case u122_q => k_is); (case u122_r => k_is); (case u122_s => k_is); (case u122_t => k_is); (case u122_u => k_is); (case u122_v => k_is))
    (case m1 => refine' Kn.atm_mk ?u123_a ?u123_n ?u123_l ?u123_c ?u123_k (fun _ _ _ _ _ _ us hl => match us, hl with | [_, _, _, _, _, _, _], _ => rfl); (case u123_a => k_is); (case u123_n => k_is); (case u123_l => k_is); (case u123_c => k_is); (case u123_k => k_is))
    (case m2 => refine' Kn.atm_mk ?u124_a ?u124_n ?u124_l ?u124_c ?u124_k (fun _ _ _ _ _ _ us hl => match us, hl with | [_, _, _, _, _], _ => rfl); (case u124_a => k_is); (case u124_n => k_is); (case u124_l => k_is); (case u124_c => k_is); (case u124_k => k_is))
    (case m3 => refine' Kn.atm_mk ?u125_a ?u125_n ?u125_l ?u125_c ?u125_k (fun _ _ _ _ _ _ us hl => match us, hl with | [_, _], _ => rfl); (case u125_a => k_is); (case u125_n => k_is); (case u125_l => k_is); (case u125_c => k_is); (case u125_k => k_is))
    (case m4 => refine' Kn.atm_mk ?u126_a ?u126_n ?u126_l ?u126_c ?u126_k (fun _ _ _ _ _ _ us hl => match us, hl with | [_, _, _, _, _], _ => rfl); (case u126_a => k_is); (case u126_n => k_is); (case u126_l => k_is); (case u126_c => k_is); (case u126_k => k_is))
    (case ew => refine' Kn.er_mk KX G ?u127_g ?u127_xl ?u127_ve ?u127_sa ?u127_ex ?u127_ty ?u127_kc ?u127_no ?u127_i ?u127_ti ?u127_l ?u127_c ?u127_k (fun _ _ _ _ _ _ us hl => match us, hl with | [_, _], _ => rfl); (case u127_g => k_is); (case u127_xl => k_is); (case u127_ve => decide +kernel); (case u127_sa => k_is); (case u127_ex => k_is); (case u127_ty => k_is); (case u127_kc => k_is); (case u127_no => k_is); (case u127_i => k_is); (case u127_ti => k_is); (case u127_l => k_is); (case u127_c => k_is); (case u127_k => k_is))
    (case et => refine' Kn.er_mk KX G ?u128_g ?u128_xl ?u128_ve ?u128_sa ?u128_ex ?u128_ty ?u128_kc ?u128_no ?u128_i ?u128_ti ?u128_l ?u128_c ?u128_k (fun _ _ _ _ _ _ us hl => match us, hl with | [_, _], _ => rfl); (case u128_g => k_is); (case u128_xl => k_is); (case u128_ve => decide +kernel); (case u128_sa => k_is); (case u128_ex => k_is); (case u128_ty => k_is); (case u128_kc => k_is); (case u128_no => k_is); (case u128_i => k_is); (case u128_ti => k_is); (case u128_l => k_is); (case u128_c => k_is); (case u128_k => k_is))
    (case en => refine' Kn.er_mk KX G ?u129_g ?u129_xl ?u129_ve ?u129_sa ?u129_ex ?u129_ty ?u129_kc ?u129_no ?u129_i ?u129_ti ?u129_l ?u129_c ?u129_k (fun _ _ _ _ _ _ us hl => match us, hl with | [_, _], _ => rfl); (case u129_g => k_is); (case u129_xl => k_is); (case u129_ve => decide +kernel); (case u129_sa => k_is); (case u129_ex => k_is); (case u129_ty => k_is); (case u129_kc => k_is); (case u129_no => k_is); (case u129_i => k_is); (case u129_ti => k_is); (case u129_l => k_is); (case u129_c => k_is); (case u129_k => k_is))
    (case xw => refine' ⟨?u130_p, ?u130_q, ?u130_r, ?u130_s⟩; (case u130_p => k_is); (case u130_q => k_is); (case u130_r => k_is); (case u130_s => k_is))
    (case xt => refine' ⟨?u131_p, ?u131_q, ?u131_r, ?u131_s⟩; (case u131_p => k_is); (case u131_q => k_is); (case u131_r => k_is); (case u131_s => k_is))
    (case xn => refine' ⟨?u132_p, ?u132_q, ?u132_r, ?u132_s⟩; (case u132_p => k_is); (case u132_q => k_is); (case u132_r => k_is); (case u132_s => k_is))
    (case ty => k_is); (case tz => k_is)
    (case nn => first | rfl | k_is)
    (case tn => first | rfl | k_is)
    (case tt => first | rfl | k_is)
    (case gk => k_is); (case k1 => k_is); (case k2 => k_is); (case k3 => k_is)
    (case k4 => first | rfl | k_is)
    (case ie => refine' Kn.ie_mk ?u139_p ?u139_q ?u139_r ?u139_s ?u139_t ?u139_u ?u139_v ?u139_x; (case u139_p => k_is); (case u139_q => k_is); (case u139_r => k_is); (case u139_s => k_is); (case u139_t => k_is); (case u139_u => k_is); (case u139_v => k_is); (case u139_x => k_is))
