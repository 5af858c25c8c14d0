import PyProof.Rows.All
import Wide.All
import OpenK.AllK
import Wide.FinOn
import HandS.ForMost
import HandS.ForSpec
import HandS.Evl
import HandS.Deep
import HandS.IsInst
import HandS.SortInts
import HandS.Style
import HandS.NoneIn
import HandS.Wide
import HandS.TupAny
import KE.DataEq
import HandS.Lambda
import KE.SortCalls
import HandS.Remove
import HandS.SetFor
import HandS.Strs
import HandS.Conv
import PyProof.StrLawsRepr
import HandS.ExcIs
import HandS.ExcOwn
import HandS.ExcValue
import KE.SortKeyHeap
import HandS.SortKw
import HandS.Nested
import HandS.EndTab
import PySem.Challenge.RW_ontheline_k61_few_names_judged
set_option Elab.async false
set_option linter.all false
set_option maxRecDepth 100000
set_option maxHeartbeats 4000000
/-! DL: a layer of values over the layer of heaps -/
noncomputable section
namespace DL
open PySem L2
open Evl (Ex)

/-! ### data -/
structure Exn where
  name : String
  arg : Option PyData
inductive OD where
  | dict (kvs : List (Key × PyData)) | dictT (kvs : List (List Key × PyData)) | exc (x : Exn) | set (S : Int → Bool) (n : Nat) | scr (ns : List Int) | excs (n : String) (is : List Int)
inductive R where
  | val (d : PyData) | new (ds : List PyData) | slot (i : Nat) | raw (v : V) | ob (o : OD)
inductive Sl where
  | no | val (d : PyData) | own (ds : List PyData) | raw (v : V) | ob (o : OD)
abbrev Pw := Option (Addr × Addr × List Int × Int)
structure DSt where
  d : List Sl
  w : Pw
inductive Res (α : Type) where
  | ok (a : α) (s : DSt) | err (x : Exn) (s : DSt) | stuck
inductive Flow where
  | next (s : DSt) | ret (r : R) (s : DSt) | brk (s : DSt) | cnt (s : DSt) | err (x : Exn) (s : DSt) | stuck
inductive FRes where
  | ok (r : R) (w : Pw) | err (x : Exn) (w : Pw) | stuck

abbrev M (α : Type) := DSt → Res α
def inB (j : Int) : Prop := -(2 ^ 62) ≤ j ∧ j < 2 ^ 62
instance (j : Int) : Decidable (inB j) := Classical.propDecidable _
def inW (j : Int) : Prop := -(2 ^ 63) ≤ j ∧ j < 2 ^ 63
instance (j : Int) : Decidable (inW j) := Classical.propDecidable _
def leS (n : Nat) : Prop := n ≤ sizeLine
instance (n : Nat) : Decidable (leS n) := Classical.propDecidable _
def ltS (n : Nat) : Prop := n < sizeLine
instance (n : Nat) : Decidable (ltS n) := Classical.propDecidable _
def lgM (a b : Int) : Prop := a.natAbs.log2 + b.natAbs.log2 < 1000000
instance (a b : Int) : Decidable (lgM a b) := Classical.propDecidable _
def lgD (a : Int) : Prop := a.natAbs.log2 < 9000
instance (a : Int) : Decidable (lgD a) := Classical.propDecidable _
def lgP (a : Int) : Prop := a.natAbs.log2 < 4000
instance (a : Int) : Decidable (lgP a) := Classical.propDecidable _
def leP (a : Int) : Prop := a ≤ 30000
instance (a : Int) : Decidable (leP a) := Classical.propDecidable _
def Res.bind {α β : Type} (r : Res α) (g : α → M β) : Res β := match r with
  | .ok a s => g a s
  | .err x s => .err x s
  | .stuck => .stuck
def bnd {α β : Type} (f : M α) (g : α → M β) : M β := fun s => (f s).bind g
def ret {α : Type} (a : α) : M α := fun s => .ok a s
def stk {α : Type} : M α := fun _ => .stuck
@[simp] theorem bnd_app {α β : Type} (f : M α) (g : α → M β) (s : DSt) : bnd f g s = (f s).bind g := rfl
@[simp] theorem bind_ok {α β : Type} (a : α) (s : DSt) (g : α → M β) : (Res.ok a s).bind g = g a s := rfl
@[simp] theorem bind_err {α β : Type} (x : Exn) (s : DSt) (g : α → M β) : (Res.err x s : Res α).bind g = .err x s := rfl
@[simp] theorem bind_stuck {α β : Type} (g : α → M β) : (Res.stuck : Res α).bind g = .stuck := rfl
@[simp] theorem ret_app {α : Type} (a : α) (s : DSt) : ret a s = .ok a s := rfl
@[simp] theorem stk_app {α : Type} (s : DSt) : (stk s : Res α) = .stuck := rfl

/-! ### data as it stands in a heap -/
mutual
inductive Rp (K : PySem.W.Frag) (H : Hp) : V → PyData → Prop
  | non : Rp K H .non .none
  | bl (b : Bool) : Rp K H (.bl b) (.bool b)
  | int (i : Int) : Rp K H (.int i) (.int i)
  | str (x : Str) : Rp K H (.str x) (.str x)
  | lst {a : Addr} {xs : List V} {ds : List PyData} : H a = some (.lst xs) → RpAll K H xs ds → Rp K H (.ref a) (.list ds)
  | tup {a : Addr} {xs : List V} {ds : List PyData} : H a = some (.tup xs) → RpAll K H xs ds → Rp K H (.ref a) (.tuple ds)
inductive RpAll (K : PySem.W.Frag) (H : Hp) : List V → List PyData → Prop
  | nil : RpAll K H [] []
  | cons {v : V} {vs : List V} {d : PyData} {ds : List PyData} : Rp K H v d → RpAll K H vs ds → RpAll K H (v :: vs) (d :: ds)
end
mutual
theorem rp_dp {K : PySem.W.Frag} {H : Hp} : ∀ (d : PyData) (v : V), Rp K H v d → Dp K H v d
  | .none, _, h => by cases h; exact .non
  | .bool b, _, h => by cases h; exact .bl b
  | .int i, _, h => by cases h; exact .int i
  | .str x, _, h => by cases h; exact .str x
  | .list ds, _, h => by
    cases h with
    | lst hs ha => exact .lst (.of hs) (rps_dps ds _ ha)
  | .tuple ds, _, h => by
    cases h with
    | tup hs ha => exact .tup (.of hs) (rps_dps ds _ ha)
  | .dict _, _, h => by cases h
theorem rps_dps {K : PySem.W.Frag} {H : Hp} : ∀ (ds : List PyData) (vs : List V), RpAll K H vs ds → DpAll K H vs ds
  | [], _, h => by cases h; exact .nil
  | d :: ds, _, h => by
    cases h with
    | cons h1 h2 => exact .cons (rp_dp d _ h1) (rps_dps ds _ h2)
end
mutual
theorem rp_plain {K : PySem.W.Frag} {H : Hp} : ∀ (d : PyData) (v : V), Rp K H v d → d.plain = true
  | .none, _, _ => rfl
  | .bool b, _, _ => rfl
  | .int i, _, _ => rfl
  | .str x, _, _ => rfl
  | .list ds, _, h => by
    cases h with
    | lst hs ha => simp only [PyData.plain]; exact rps_plain ds _ ha
  | .tuple ds, _, h => by
    cases h with
    | tup hs ha => simp only [PyData.plain]; exact rps_plain ds _ ha
  | .dict _, _, h => by cases h
theorem rps_plain {K : PySem.W.Frag} {H : Hp} : ∀ (ds : List PyData) (vs : List V), RpAll K H vs ds → PyData.plainAll ds = true
  | [], _, h => rfl
  | d :: ds, _, h => by
    cases h with
    | cons h1 h2 => simp [PyData.plainAll, rp_plain d _ h1, rps_plain ds _ h2]
end
mutual
theorem dp_mono {K : PySem.W.Frag} {H H' : Hp} (e : Ex H H') : ∀ (d : PyData) (v : V), Rp K H v d → Rp K H' v d
  | .none, _, h => by cases h; exact .non
  | .bool b, _, h => by cases h; exact .bl b
  | .int i, _, h => by cases h; exact .int i
  | .str x, _, h => by cases h; exact .str x
  | .list ds, _, h => by
    cases h with
    | lst hs ha => exact .lst (e _ _ hs) (dps_mono e ds _ ha)
  | .tuple ds, _, h => by
    cases h with
    | tup hs ha => exact .tup (e _ _ hs) (dps_mono e ds _ ha)
  | .dict _, _, h => by cases h
theorem dps_mono {K : PySem.W.Frag} {H H' : Hp} (e : Ex H H') : ∀ (ds : List PyData) (vs : List V), RpAll K H vs ds → RpAll K H' vs ds
  | [], _, h => by cases h; exact .nil
  | d :: ds, _, h => by
    cases h with
    | cons h1 h2 => exact .cons (dp_mono e d _ h1) (dps_mono e ds _ h2)
end
theorem dps_len {K : PySem.W.Frag} {H : Hp} : ∀ {ds : List PyData} {vs : List V}, RpAll K H vs ds → vs.length = ds.length
  | [], _, h => by cases h; rfl
  | d :: ds, _, h => by
    cases h with
    | cons h1 h2 => simp [dps_len h2]
theorem dps_get {K : PySem.W.Frag} {H : Hp} : ∀ {ds : List PyData} {vs : List V} {i : Nat} {v : V}, RpAll K H vs ds → vs[i]? = some v → ∃ d, ds[i]? = some d ∧ Rp K H v d
  | [], _, i, v, h, e => by cases h; simp at e
  | d :: ds, _, 0, v, h, e => by
    cases h with
    | cons h1 h2 => simp at e; subst e; exact ⟨d, rfl, h1⟩
  | d :: ds, _, i + 1, v, h, e => by
    cases h with
    | cons h1 h2 => simpa using dps_get (i := i) h2 (by simpa using e)
theorem dps_app {K : PySem.W.Frag} {H : Hp} : ∀ {ds es : List PyData} {vs us : List V}, RpAll K H vs ds → RpAll K H us es → RpAll K H (vs ++ us) (ds ++ es)
  | [], _, _, _, h, h' => by cases h; exact h'
  | d :: ds, _, _, _, h, h' => by
    cases h with
    | cons h1 h2 => exact .cons h1 (dps_app h2 h')
theorem dps_rev {K : PySem.W.Frag} {H : Hp} : ∀ {ds : List PyData} {vs : List V}, RpAll K H vs ds → RpAll K H vs.reverse ds.reverse
  | [], _, h => by cases h; exact .nil
  | d :: ds, _, h => by
    cases h with
    | cons h1 h2 => simp only [List.reverse_cons]; exact dps_app (dps_rev h2) (.cons h1 .nil)
theorem dps_take {K : PySem.W.Frag} {H : Hp} : ∀ {ds : List PyData} {vs : List V} (n : Nat), RpAll K H vs ds → RpAll K H (vs.take n) (ds.take n)
  | _, _, 0, _ => by simp; exact .nil
  | [], _, n + 1, h => by cases h; exact .nil
  | d :: ds, _, n + 1, h => by
    cases h with
    | cons h1 h2 => exact .cons h1 (dps_take n h2)
theorem dps_drop {K : PySem.W.Frag} {H : Hp} : ∀ {ds : List PyData} {vs : List V} (n : Nat), RpAll K H vs ds → RpAll K H (vs.drop n) (ds.drop n)
  | _, _, 0, h => by simpa using h
  | [], _, n + 1, h => by cases h; exact .nil
  | d :: ds, _, n + 1, h => by
    cases h with
    | cons h1 h2 => exact dps_drop n h2
theorem dps_set {K : PySem.W.Frag} {H : Hp} {v : V} {d : PyData} (q : Rp K H v d) : ∀ {ds : List PyData} {vs : List V} (n : Nat), RpAll K H vs ds → RpAll K H (vs.set n v) (ds.set n d)
  | [], _, n, h => by cases h; exact .nil
  | _ :: ds, _, 0, h => by
    cases h with
    | cons h1 h2 => exact .cons q h2
  | _ :: ds, _, n + 1, h => by
    cases h with
    | cons h1 h2 => exact .cons h1 (dps_set q n h2)
theorem dps_erase {K : PySem.W.Frag} {H : Hp} : ∀ {ds : List PyData} {vs : List V} (n : Nat), RpAll K H vs ds → RpAll K H (vs.eraseIdx n) (ds.eraseIdx n)
  | [], _, n, h => by cases h; exact .nil
  | _ :: ds, _, 0, h => by
    cases h with
    | cons h1 h2 => exact h2
  | _ :: ds, _, n + 1, h => by
    cases h with
    | cons h1 h2 => exact .cons h1 (dps_erase n h2)

/-! ### other things -/
def clOf (K : PySem.W.Frag) (n : String) : Addr := match PySem.W.nsIn K mainGlobals (Str.ofString n) with
  | some (some (.ref a)) => a
  | _ => 0
theorem clOf_of {K : PySem.W.Frag} {n : String} {a : Addr} (h : PySem.W.nsIn K mainGlobals (Str.ofString n) = some (some (.ref a))) : clOf K n = a := by
  unfold clOf
  rw [h]
def fieldOf (n : String) : Str := if n = "NoFall" then "hand" else "at"
def ExA (K : PySem.W.Frag) (H : Hp) (n : String) (d : Option Addr) : Option PyData → Prop
  | none => d = none
  | some e => ∃ dd v, d = some dd ∧ H dd = some (.xd [(fieldOf n, v)]) ∧ Rp K H v e
def excO (a : Addr) (cls : Value) (d : Option Addr) : HO := .ext fun h => ∃ o, h.get? a = some o ∧ Zc cls d o ∧ ∃ vs, o.data = .fields vs
inductive KRp {κ : Type} (K : PySem.W.Frag) (H : Hp) : List (κ × V) → List (κ × PyData) → Prop
  | nil : KRp K H [] []
  | cons {k : κ} {v : V} {d : PyData} {xs : List (κ × V)} {ys : List (κ × PyData)} : Rp K H v d → KRp K H xs ys → KRp K H ((k, v) :: xs) ((k, d) :: ys)
inductive ExAll (K : PySem.W.Frag) (H : Hp) (n : String) : List V → List Int → Prop
  | nil : ExAll K H n [] []
  | cons {b d : Addr} {i : Int} {vs : List V} {is : List Int} : H b = some (excO b (.ref (clOf K n)) (some d)) → H d = some (.xd [(fieldOf n, .int i)]) → ExAll K H n vs is → ExAll K H n (.ref b :: vs) (i :: is)
theorem exall_mono {K : PySem.W.Frag} {H H' : Hp} (e : Ex H H') {n : String} : ∀ {vs : List V} {is : List Int}, ExAll K H n vs is → ExAll K H' n vs is
  | _, _, .nil => .nil
  | _, _, .cons h1 h2 t => .cons (e _ _ h1) (e _ _ h2) (exall_mono e t)
def ObRel (K : PySem.W.Frag) (H : Hp) (v : V) : OD → Prop
  | .dict kvs => ∃ a vs, v = .ref a ∧ H a = some (.dK vs) ∧ KRp K H vs kvs
  | .dictT kvs => ∃ a vs, v = .ref a ∧ H a = some (.dT vs) ∧ KRp K H vs kvs
  | .exc x => ∃ a d, v = .ref a ∧ H a = some (excO a (.ref (clOf K x.name)) d) ∧ ExA K H x.name d x.arg
  | .set S n => ∃ a, v = .ref a ∧ H a = some (.set S n)
  | .scr ns => ∃ a, v = .ref a ∧ SqL K H a (ns.map V.int)
  | .excs n is => ∃ a vs, v = .ref a ∧ H a = some (.lst vs) ∧ ExAll K H n vs is
theorem krp_mono {κ : Type} {K : PySem.W.Frag} {H H' : Hp} (e : Ex H H') : ∀ {vs : List (κ × V)} {kvs : List (κ × PyData)}, KRp K H vs kvs → KRp K H' vs kvs
  | _, _, .nil => .nil
  | _, _, .cons h t => .cons (dp_mono e _ _ h) (krp_mono e t)
theorem exa_mono {K : PySem.W.Frag} {H H' : Hp} (e : Ex H H') {n : String} {d : Option Addr} : ∀ {o : Option PyData}, ExA K H n d o → ExA K H' n d o
  | none, h => h
  | some x, ⟨dd, v, h1, h2, h3⟩ => ⟨dd, v, h1, e _ _ h2, dp_mono e _ _ h3⟩
theorem ob_mono {K : PySem.W.Frag} {H H' : Hp} (e : Ex H H') {v : V} : ∀ {o : OD}, ObRel K H v o → ObRel K H' v o
  | .dict kvs, ⟨a, vs, h1, h2, h3⟩ => ⟨a, vs, h1, e _ _ h2, krp_mono e h3⟩
  | .dictT kvs, ⟨a, vs, h1, h2, h3⟩ => ⟨a, vs, h1, e _ _ h2, krp_mono e h3⟩
  | .exc x, ⟨a, d, h1, h2, h3⟩ => ⟨a, d, h1, e _ _ h2, exa_mono e h3⟩
  | .set S n, ⟨a, h1, h2⟩ => ⟨a, h1, e _ _ h2⟩
  | .scr ns, ⟨a, h1, h2⟩ => ⟨a, h1, Evl.ex_l e h2⟩
  | .excs n is, ⟨a, vs, h1, h2, h3⟩ => ⟨a, vs, h1, e _ _ h2, exall_mono e h3⟩

/-! ### the state -/
@[irreducible] def tabA : List (Addr × Str) := [(331, Str.ofString "_law_bent_names" ++ Str.ofString ".<locals>." ++ Str.ofString "<lambda>")]
def TOwn (a : Addr) : Prop := ∃ q, (a, q) ∈ tabA
def POwn0 (w : Pw) (a : Addr) : Prop := match w with
  | none => False
  | some (pa, ca, _, _) => a = pa ∨ a = ca
def POwn (w : Pw) (a : Addr) : Prop := POwn0 w a ∨ TOwn a
def OwnAt (s : DSt) (σ : L2.St) (i : Nat) (a : Addr) : Prop := (∃ ds, s.d[i]? = some (.own ds)) ∧ σ[i]? = some (some (.ref a))
def Own (s : DSt) (σ : L2.St) (a : Addr) : Prop := (∃ i, OwnAt s σ i a) ∨ POwn s.w a
def pwA (pa ca : Addr) (cells : List Int) (t : Int) : List V := if pa = ca then cells.map .int else [.ref ca, .int t]
def PwOk0 (G : Hp) (w : Pw) (H : Hp) : Prop := match w with
  | none => True
  | some (pa, ca, cells, t) => True ∧ H pa = some (.lst (pwA pa ca cells t)) ∧ H ca = some (.lst (cells.map .int)) ∧ G pa = none ∧ G ca = none
def TabOk (G H : Hp) : Prop := ∀ p ∈ tabA, LamX.TabS H p.1 p.2 ∧ G p.1 = none
def PwOk (G : Hp) (w : Pw) (H : Hp) : Prop := PwOk0 G w H ∧ TabOk G H
theorem TabOk.to {G G' H H' : Hp} (t : TabOk G H) (k : ∀ a o, H a = some o → TOwn a → H' a = some o) (x : ∀ a φ, H a = some (.ext φ) → H' a = some (.ext φ)) (g : ∀ a, TOwn a → G' a = none) : TabOk G' H' := fun p hp => by
  obtain ⟨⟨ps, h1, h2, h3⟩, _⟩ := t p hp
  refine ⟨⟨ps, k _ _ h1 ⟨p.2, hp⟩, h2, fun pos cv hc => ?_⟩, g _ ⟨p.2, hp⟩⟩
  obtain ⟨c, e1, e2⟩ := h3 pos cv hc
  exact ⟨c, e1, x _ _ e2⟩
theorem TabOk.g {G H : Hp} (t : TabOk G H) {a : Addr} (z : TOwn a) : G a = none := by
  obtain ⟨q, hq⟩ := z
  exact (t _ hq).2
theorem TabOk.h {G H : Hp} (t : TabOk G H) {a : Addr} (z : TOwn a) : ∃ ps, H a = some (.tbl ps) := by
  obtain ⟨q, hq⟩ := z
  obtain ⟨⟨ps, h, _⟩, _⟩ := t _ hq
  exact ⟨ps, h⟩
theorem G_pown {G H : Hp} {w : Pw} (p : PwOk G w H) {a : Addr} (h : POwn w a) : G a = none := by
  rcases h with h | h
  · replace p := p.1
    unfold PwOk0 at p
    unfold POwn0 at h
    split at h
    · exact h.elim
    · rcases h with rfl | rfl
      · exact p.2.2.2.1
      · exact p.2.2.2.2
  · exact p.2.g h
theorem H_pown {G H : Hp} {w : Pw} (p : PwOk G w H) {a : Addr} (h : POwn w a) : (∃ xs, H a = some (.lst xs)) ∨ ∃ ps, H a = some (.tbl ps) := by
  rcases h with h | h
  · left
    replace p := p.1
    unfold PwOk0 at p
    unfold POwn0 at h
    split at h
    · exact h.elim
    · rcases h with rfl | rfl
      · exact ⟨_, p.2.1⟩
      · exact ⟨_, p.2.2.1⟩
  · exact .inr (p.2.h h)
theorem pwok_to {w : Pw} {G G' H H' : Hp} (q : PwOk G w H) (k : ∀ a o, H a = some o → POwn w a → H' a = some o) (x : ∀ a φ, H a = some (.ext φ) → H' a = some (.ext φ)) (g : ∀ a, POwn w a → G' a = none) : PwOk G' w H' := by
  refine ⟨?_, q.2.to (fun a o h z => k a o h (.inr z)) x fun a z => g a (.inr z)⟩
  have q := q.1
  unfold PwOk0 at q ⊢
  split
  · trivial
  · rename_i pa ca cells t
    exact ⟨q.1, k _ _ q.2.1 (.inl (.inl rfl)), k _ _ q.2.2.1 (.inl (.inr rfl)), g _ (.inl (.inl rfl)), g _ (.inl (.inr rfl))⟩
def SlOk (K : PySem.W.Frag) (G H : Hp) (x : Option V) : Sl → Prop
  | .no => True
  | .val d => ∃ v, x = some v ∧ Rp K G v d
  | .raw v => x = some v
  | .ob o => ∃ v, x = some v ∧ ObRel K G v o
  | .own ds => ∃ a xs, x = some (.ref a) ∧ H a = some (.lst xs) ∧ RpAll K G xs ds
structure SA (K : PySem.W.Frag) (G : Hp) (s : DSt) (σ : L2.St) (H : Hp) : Prop where
  len : s.d.length = σ.length
  gh : Ex G H
  slot : ∀ (i : Nat) (sl : Sl), s.d[i]? = some sl → SlOk K G H (σ[i]?.join) sl
  inj : ∀ i j a, OwnAt s σ i a → OwnAt s σ j a → i = j
  ownG : ∀ i a, OwnAt s σ i a → G a = none
  pw : PwOk G s.w H
  pne : ∀ i a, OwnAt s σ i a → ¬ POwn s.w a
structure Stp (G : Hp) (s : DSt) (σ : L2.St) (H : Hp) (G' : Hp) (s' : DSt) (σ' : L2.St) (H' : Hp) : Prop where
  ex : Ex G G'
  keep : ∀ a o, H a = some o → ¬ Own s σ a → H' a = some o ∧ G' a = G a
  own : ∀ a, Own s' σ' a → Own s σ a ∨ H a = none
  dom : ∀ a, H a ≠ none → H' a ≠ none
  pw : ∀ a, POwn s.w a → POwn s'.w a
theorem Stp.refl {G H : Hp} {s : DSt} {σ : L2.St} : Stp G s σ H G s σ H := ⟨Ex.refl G, fun _ _ h _ => ⟨h, rfl⟩, fun _ h => .inl h, fun _ h => h, fun _ h => h⟩
theorem Stp.trans {G G1 G2 H H1 H2 : Hp} {s s1 s2 : DSt} {σ σ1 σ2 : L2.St} (a : Stp G s σ H G1 s1 σ1 H1) (b : Stp G1 s1 σ1 H1 G2 s2 σ2 H2) : Stp G s σ H G2 s2 σ2 H2 where
  ex := a.ex.trans b.ex
  keep := fun x o h n => by
    obtain ⟨h1, g1⟩ := a.keep x o h n
    have n1 : ¬ Own s1 σ1 x := fun z => (a.own x z).elim n fun e => by rw [h] at e; cases e
    obtain ⟨h2, g2⟩ := b.keep x o h1 n1
    exact ⟨h2, g2.trans g1⟩
  own := fun x z => (b.own x z).elim (a.own x) fun e => .inr (Classical.byContradiction fun q => a.dom x q e)
  dom := fun x h => b.dom x (a.dom x h)
  pw := fun x h => b.pw x (a.pw x h)
def RRel (K : PySem.W.Frag) (H0 G : Hp) (s : DSt) (σ : L2.St) (H : Hp) (v : V) : R → Prop
  | .val d => Rp K G v d
  | .raw u => v = u
  | .ob o => ObRel K G v o
  | .slot i => σ[i]? = some (some v)
  | .new ds => ∃ a xs, v = .ref a ∧ H a = some (.lst xs) ∧ RpAll K G xs ds ∧ G a = none ∧ H0 a = none ∧ ¬ Own s σ a
theorem RRel.mono {K : PySem.W.Frag} {H0 G H G' H' : Hp} {s s' : DSt} {σ : L2.St} {v : V} {r : R} (h : RRel K H0 G s σ H v r) (t : Stp G s σ H G' s' σ H') : RRel K H0 G' s' σ H' v r := by
  cases r with
  | val d => exact dp_mono t.ex d v h
  | raw u => exact h
  | ob o => exact ob_mono t.ex h
  | slot i => exact h
  | new ds =>
    obtain ⟨a, xs, e, ha, hd, hg, h0, hn⟩ := h
    obtain ⟨h1, g1⟩ := t.keep a _ ha hn
    refine ⟨a, xs, e, h1, dps_mono t.ex _ _ hd, g1.trans hg, h0, fun z => (t.own a z).elim hn fun q => by rw [ha] at q; cases q⟩
theorem RRel.less {K : PySem.W.Frag} {H0 H1 G H : Hp} {s : DSt} {σ : L2.St} {v : V} {r : R} (h : RRel K H1 G s σ H v r) (d : ∀ a, H0 a ≠ none → H1 a ≠ none) : RRel K H0 G s σ H v r := by
  cases r with
  | val d => exact h
  | raw u => exact h
  | ob o => exact h
  | slot i => exact h
  | new ds =>
    obtain ⟨a, xs, e, ha, hd, hg, h0, hn⟩ := h
    exact ⟨a, xs, e, ha, hd, hg, Classical.byContradiction fun q => d a q h0, hn⟩
def look (r : R) (s : DSt) : Option PyData := match r with
  | .val d => some d
  | .raw _ => none
  | .ob _ => none
  | .new ds => some (.list ds)
  | .slot i => match s.d[i]? with
    | some (.own ds) => some (.list ds)
    | some (.val d) => some d
    | _ => none
end DL

/-! DL2: the judgements -/
noncomputable section
namespace DL
open PySem L2
open Evl (Ex)

def XRel (K : PySem.W.Frag) (cl : String → Addr) (x : Exn) (cls : Value) (d : Option Addr) (H : Hp) : Prop :=
  cls = .ref (cl x.name) ∧ ExA K H x.name d x.arg
section
variable (K : PySem.W.Frag) (cl : String → Addr) (W : WX)
def Out {α : Type} (G : Hp) (s : DSt) (σ : L2.St) (H : Hp) (r : Res α) (k : α → Hp → DSt → Hp → Prop) : Prop := match r with
  | .ok a s' => ∀ G' H', Stp G s σ H G' s' σ H' → SA K G' s' σ H' → k a G' s' H'
  | .err x s' => ∀ cls d G' H', Stp G s σ H G' s' σ H' → SA K G' s' σ H' → XRel K cl x cls d G' → W cls d σ H'
  | .stuck => False
def tD (f : M R) : TE := fun σ H Q => ∃ G s, SA K G s σ H ∧ Out K cl W G s σ H (f s) fun r G' s' H' => ∀ v, RRel K H G' s' σ H' v r → Q v H'
def tT (f : M Bool) : TT := fun σ H Q => ∃ G s, SA K G s σ H ∧ Out K cl W G s σ H (f s) fun b _ _ H' => Q b H'
def RRels (H0 G : Hp) (s : DSt) (σ : L2.St) (H : Hp) : List V → List R → Prop := Paired fun v r => RRel K H0 G s σ H v r
def tA (f : M (List R)) : TA := fun σ H Q => ∃ G s, SA K G s σ H ∧ Out K cl W G s σ H (f s) fun rs G' s' H' => ∀ vs, RRels K H G' s' σ H' vs rs → Q vs H'
def FOut (G : Hp) (s : DSt) (σ : L2.St) (H : Hp) (fl : Flow) (D : Ends) : Prop := match fl with
  | .next s' => ∀ G' σ' H', Stp G s σ H G' s' σ' H' → SA K G' s' σ' H' → D.nx σ' H'
  | .brk s' => ∀ G' σ' H', Stp G s σ H G' s' σ' H' → SA K G' s' σ' H' → D.bk σ' H'
  | .cnt s' => ∀ G' σ' H', Stp G s σ H G' s' σ' H' → SA K G' s' σ' H' → D.ct σ' H'
  | .ret r s' => ∀ v G' σ' H', Stp G s σ H G' s' σ' H' → SA K G' s' σ' H' → RRel K H G' s' σ' H' v r → D.rt v H'
  | .err x s' => ∀ cls d G' σ' H', Stp G s σ H G' s' σ' H' → SA K G' s' σ' H' → XRel K cl x cls d G' → W cls d σ' H'
  | .stuck => False
def tS (f : DSt → Flow) : TS := fun D σ H => ∃ G s, SA K G s σ H ∧ FOut K cl W G s σ H (f s) D
end
section
variable {K : PySem.W.Frag} {cl : String → Addr} {W : WX} {G H : Hp} {s : DSt} {σ : L2.St}
theorem out_mono {α : Type} {r : Res α} {k k' : α → Hp → DSt → Hp → Prop} (h : Out K cl W G s σ H r k) (i : ∀ a G' s' H', Stp G s σ H G' s' σ H' → SA K G' s' σ H' → k a G' s' H' → k' a G' s' H') : Out K cl W G s σ H r k' := by
  cases r with
  | ok a s' => exact fun G' H' st sa => i a G' s' H' st sa (h G' H' st sa)
  | err x s' => exact h
  | stuck => exact h
theorem out_bind {α β : Type} {r : Res α} {g : α → M β} {k : β → Hp → DSt → Hp → Prop} (h : Out K cl W G s σ H (r.bind g) k) :
    Out K cl W G s σ H r fun a G1 s1 H1 => Out K cl W G1 s1 σ H1 (g a s1) fun b G2 s2 H2 => k b G2 s2 H2 := by
  cases r with
  | ok a s' =>
    intro G1 H1 st sa
    have h : Out K cl W G s σ H (g a s') k := h
    cases e : g a s' with
    | ok b s2 => rw [e] at h; exact fun G2 H2 st2 sa2 => h G2 H2 (st.trans st2) sa2
    | err x s2 => rw [e] at h; exact fun c d G2 H2 st2 sa2 xr => h c d G2 H2 (st.trans st2) sa2 xr
    | stuck => rw [e] at h; exact h
  | err x s' => exact h
  | stuck => exact h
theorem out_less {f : Res R} {H0 : Hp} {Q : VK} (dm : ∀ a, H0 a ≠ none → H a ≠ none) (h : Out K cl W G s σ H f fun r G' s' H' => ∀ v, RRel K H0 G' s' σ H' v r → Q v H') :
    Out K cl W G s σ H f fun r G' s' H' => ∀ v, RRel K H G' s' σ H' v r → Q v H' := out_mono h fun _ _ _ _ _ _ k v q => k v (q.less dm)
end
section
variable {X : Cx} {cl : String → Addr} {W : WX}
theorem pe_imp {e : Expr} {t t' : TE} (h : PE X e t) (i : ∀ σ H Q, t' σ H Q → t σ H Q) : PE X e t' := ⟨fun pins s σ H Q I q => h.run pins s σ H Q I (i σ H Q q)⟩
theorem pt_imp {e : Expr} {t t' : TT} (h : PT X e t) (i : ∀ σ H Q, t' σ H Q → t σ H Q) : PT X e t' := ⟨fun pins s σ H Q I q => h.run pins s σ H Q I (i σ H Q q)⟩
theorem pw_imp {e : Expr} {t t' : TT} (h : PW X e t) (i : ∀ σ H Q, t' σ H Q → t σ H Q) : PW X e t' := ⟨fun wh pins s σ H Q I q => h.run wh pins s σ H Q I (i σ H Q q)⟩
theorem pa_imp {es : List Expr} {t t' : TA} (h : PA X es t) (i : ∀ σ H Q, t' σ H Q → t σ H Q) : PA X es t' := ⟨fun pos pins s σ H Q I q => h.run pos pins s σ H Q I (i σ H Q q)⟩
theorem ps_imp {st : Stmt} {t t' : TS} (h : PS X st t) (i : ∀ D σ H, t' D σ H → t D σ H) : PS X st t' := ⟨fun pins s σ H D I q => h.run pins s σ H D I (i D σ H q)⟩
theorem pss_imp {st : List Stmt} {t t' : TS} (h : PSs X st t) (i : ∀ D σ H, t' D σ H → t D σ H) : PSs X st t' := ⟨fun pins s σ H D I q => h.run pins s σ H D I (i D σ H q)⟩
abbrev DE (X : Cx) (cl : String → Addr) (W : WX) (e : Expr) (f : M R) : Prop := PE X e (tD X.K cl W f)
abbrev DT (X : Cx) (cl : String → Addr) (W : WX) (e : Expr) (f : M Bool) : Prop := PT X e (tT X.K cl W f)
abbrev DW (X : Cx) (cl : String → Addr) (W : WX) (e : Expr) (f : M Bool) : Prop := PW X e (tT X.K cl W f)
abbrev DA (X : Cx) (cl : String → Addr) (W : WX) (es : List Expr) (f : M (List R)) : Prop := PA X es (tA X.K cl W f)
abbrev DS (X : Cx) (cl : String → Addr) (W : WX) (st : Stmt) (f : DSt → Flow) : Prop := PS X st (tS X.K cl W f)
abbrev DSs (X : Cx) (cl : String → Addr) (W : WX) (st : List Stmt) (f : DSt → Flow) : Prop := PSs X st (tS X.K cl W f)

/-! ### names, constants -/
def fVar (i : Nat) : M R := fun s => match s.d[i]? with
  | some (.val d) => .ok (.val d) s
  | some (.raw v) => .ok (.raw v) s
  | some (.ob o) => .ok (.ob o) s
  | some (.own _) => .ok (.slot i) s
  | _ => .stuck
theorem d_var (i : Nat) {x : Str} {pos : Pos} (hN : X.N[i]? = some x := by rfl) (hv : Vis X.env.scope x := by first | exact Or.inl rfl | exact Or.inr (Or.inl rfl) | exact Or.inr (Or.inr rfl)) (hd : (x == ("__debug__" : Str)) = false := by decide)
    (hcd : (x == ("__classdict__" : Str)) = false := by decide) : DE X cl W (.Name x pos) (fVar i) := by
  refine pe_imp (pe_var hN hv hd hcd) fun σ H Q ⟨G, s, S, h⟩ => ?_
  unfold fVar at h
  split at h
  · rename_i d q
    obtain ⟨v, e, hd⟩ := S.slot i _ q
    have e' : σ[i]? = some (some v) := by
      cases z : σ[i]? with
      | none => rw [z] at e; cases e
      | some o => rw [z] at e; simp at e; rw [e]
    exact ⟨v, e', h G H Stp.refl S v hd⟩
  · rename_i u q
    have e : σ[i]?.join = some u := S.slot i _ q
    have e' : σ[i]? = some (some u) := by
      cases z : σ[i]? with
      | none => rw [z] at e; cases e
      | some o => rw [z] at e; simp at e; rw [e]
    exact ⟨u, e', h G H Stp.refl S u rfl⟩
  · rename_i o q
    obtain ⟨v, e, hd⟩ := S.slot i _ q
    have e' : σ[i]? = some (some v) := by
      cases z : σ[i]? with
      | none => rw [z] at e; cases e
      | some o => rw [z] at e; simp at e; rw [e]
    exact ⟨v, e', h G H Stp.refl S v hd⟩
  · rename_i ds q
    obtain ⟨a, xs, e, ha, hd⟩ := S.slot i _ q
    have e' : σ[i]? = some (some (.ref a)) := by
      cases z : σ[i]? with
      | none => rw [z] at e; cases e
      | some o => rw [z] at e; simp at e; rw [e]
    exact ⟨_, e', h G H Stp.refl S _ e'⟩
  · exact h.elim
def fC (d : PyData) : M R := ret (.val d)
theorem d_c {e : Expr} {d : PyData} {v : V} (hd : ∀ G, Rp X.K G v d) (h : PE X e (tC v)) : DE X cl W e (fC d) :=
  pe_imp h fun σ H Q ⟨G, s, S, q⟩ => q G H Stp.refl S v (hd G)
theorem d_int {i j pos} : DE X cl W (.Constant (.int i) j pos) (fC (.int i)) := d_c (fun _ => .int i) pe_int
theorem d_bl {b j pos} : DE X cl W (.Constant (.bool b) j pos) (fC (.bool b)) := d_c (fun _ => .bl b) pe_bl
theorem d_non {j pos} : DE X cl W (.Constant .none j pos) (fC .none) := d_c (fun _ => .non) pe_non
theorem d_str {x j pos} : DE X cl W (.Constant (.str x) j pos) (fC (.str x)) := d_c (fun _ => .str x) pe_str
theorem d_globI {x : Str} {i : Int} {t : Tok} {pos : Pos} (hg : Gl X x) (hm : X.mg x = some (.int i t)) (hd : (x == ("__debug__" : Str)) = false := by decide) : DE X cl W (.Name x pos) (fC (.int i)) := d_c (fun _ => .int i) (pe_glob (v := .int i) hg hm ⟨t, rfl⟩ hd)
def fRaw (v : V) : M R := ret (.raw v)
/-! ### operators -/
def OpS (K : PySem.W.Frag) (rl : R2) (o : R → R → M R) : Prop := ∀ (cl : String → Addr) (W : WX) (G : Hp) (s : DSt) (σ : L2.St) (H H0 : Hp) (v1 v2 : V) (r1 r2 : R) (Q : VK), SA K G s σ H → RRel K H0 G s σ H v1 r1 → RRel K H0 G s σ H v2 r2 →
  (Out K cl W G s σ H (o r1 r2 s) fun r G' s' H' => ∀ v, RRel K H G' s' σ H' v r → Q v H') → rl v1 v2 H Q
def fOp (o : R → R → M R) (f g : M R) : M R := bnd f fun x => bnd g fun y => o x y
theorem d_op2 {e : Expr} {a b : Expr} {f g : M R} {rl : R2} {o : R → R → M R} (h : ∀ {ta tb : TE}, PE X a ta → PE X b tb → PE X e (tOp rl ta tb)) (ho : OpS X.K rl o) (ha : DE X cl W a f) (hb : DE X cl W b g) : DE X cl W e (fOp o f g) := by
  refine pe_imp (h ha hb) fun σ H Q ⟨G, s, S, q⟩ => ?_
  refine ⟨G, s, S, out_mono (out_bind q) fun x G1 s1 H1 st1 S1 q1 v1 r1 => ⟨G1, s1, S1, ?_⟩⟩
  refine out_mono (out_bind q1) fun y G2 s2 H2 st2 S2 q2 v2 r2 => ?_
  refine ho cl W G2 s2 σ H2 H v1 v2 x y Q S2 (r1.mono st2) (r2.less st1.dom) (out_less (st1.trans st2).dom q2)
theorem OpR.or' {f : Value → Value → Sem Value} {r r' : R2} (h : OpR X f r) (h' : OpR X f r') : OpR X f (fun x y H Q => r x y H Q ∨ r' x y H Q) := by
  intro pins s σ H x y v u Q I rx ry q
  rcases q with q | q
  · exact h pins s σ H x y v u Q I rx ry q
  · exact h' pins s σ H x y v u Q I rx ry q
theorem SA.ownL {K : PySem.W.Frag} {G H : Hp} {s : DSt} {σ : L2.St} {i : Nat} {a : Addr} (S : SA K G s σ H) (z : OwnAt s σ i a) : ∃ xs, H a = some (.lst xs) := by
  obtain ⟨⟨es, e⟩, e2⟩ := z
  obtain ⟨b, xs, e3, ha, _⟩ := S.slot i _ e
  rw [e2] at e3
  cases e3
  exact ⟨xs, ha⟩
theorem SA.ownH {K : PySem.W.Frag} {G H : Hp} {s : DSt} {σ : L2.St} {a : Addr} (S : SA K G s σ H) (z : Own s σ a) : (∃ xs, H a = some (.lst xs)) ∨ ∃ ps, H a = some (.tbl ps) := by
  rcases z with ⟨i, z⟩ | z
  · exact .inl (S.ownL z)
  · exact H_pown S.pw z
theorem SA.ownS {K : PySem.W.Frag} {G H : Hp} {s : DSt} {σ : L2.St} {a : Addr} (S : SA K G s σ H) (z : Own s σ a) : ∃ o, H a = some o ∧ ∀ φ, o ≠ .ext φ := by
  rcases S.ownH z with ⟨xs, e⟩ | ⟨ps, e⟩
  · exact ⟨_, e, fun _ => nofun⟩
  · exact ⟨_, e, fun _ => nofun⟩
theorem new_list {K : PySem.W.Frag} {G H H0 : Hp} {s : DSt} {σ : L2.St} {p : Addr} {vs : List V} {ds : List PyData} (S : SA K G s σ H) (hp : H p = none) (hd : RpAll K G vs ds) (dm : ∀ a, H0 a ≠ none → H a ≠ none) :
    Stp G s σ H G s σ (upd H p (.lst vs)) ∧ SA K G s σ (upd H p (.lst vs)) ∧ RRel K H0 G s σ (upd H p (.lst vs)) (.ref p) (.new ds) := by
  have ne : ∀ a o, H a = some o → a ≠ p := fun a o h => ne_of_none h hp
  have up : ∀ a o, H a = some o → upd H p (.lst vs) a = some o := fun a o h => by rw [upd_ne (ne a o h)]; exact h
  have gp : G p = none := Evl.fresh_back S.gh hp
  refine ⟨⟨Ex.refl G, fun a o h _ => ⟨up a o h, rfl⟩, fun a z => .inl z, fun a h => ?_, fun _ h => h⟩, ⟨S.len, S.gh.trans fun a o h => up a o h, fun i sl h => ?_, S.inj, S.ownG, ?_, S.pne⟩, ⟨p, vs, rfl, upd_same, hd, gp, ?_, ?_⟩⟩
  · obtain ⟨o, e⟩ := Option.ne_none_iff_exists'.mp h
    rw [up a o e]; simp
  · have q := S.slot i sl h
    cases sl with
    | no => trivial
    | val d => exact q
    | raw v => exact q
    | ob o => exact q
    | own es => obtain ⟨a, xs, e, ha, hh⟩ := q; exact ⟨a, xs, e, up a _ ha, hh⟩
  · exact pwok_to S.pw (fun a o h _ => up a o h) (fun a φ h => up a _ h) fun a z => G_pown S.pw z
  · exact Classical.byContradiction fun q => dm p q hp
  · intro z
    obtain ⟨xs, e, _⟩ := S.ownS z
    rw [hp] at e; cases e
theorem new_known {K : PySem.W.Frag} {G H : Hp} {s : DSt} {σ : L2.St} {p : Addr} (o : HO) (S : SA K G s σ H) (hp : H p = none) :
    Stp G s σ H (upd G p o) s σ (upd H p o) ∧ SA K (upd G p o) s σ (upd H p o) := by
  have up : ∀ a u, H a = some u → upd H p o a = some u := fun a u h => by rw [upd_ne (ne_of_none h hp)]; exact h
  have gp : G p = none := Evl.fresh_back S.gh hp
  have ug : Ex G (upd G p o) := Ex.new gp
  have nown : ∀ a, Own s σ a → a ≠ p := by
    rintro a z rfl
    obtain ⟨xs, e, _⟩ := S.ownS z
    rw [hp] at e; cases e
  refine ⟨⟨ug, fun a u h _ => ⟨up a u h, by rw [upd_ne (ne_of_none h hp)]⟩, fun a z => .inl z, fun a h => ?_, fun _ h => h⟩, ⟨S.len, fun a u h => ?_, fun i sl h => ?_, S.inj, fun i a z => ?_, ?_, S.pne⟩⟩
  · obtain ⟨u, e⟩ := Option.ne_none_iff_exists'.mp h
    rw [up a u e]; simp
  · by_cases e : a = p
    · subst e; rw [upd_same] at h ⊢; exact h
    · rw [upd_ne e] at h ⊢; exact S.gh a u h
  · have q := S.slot i sl h
    cases sl with
    | no => trivial
    | val d => obtain ⟨v, e, hd⟩ := q; exact ⟨v, e, dp_mono ug _ _ hd⟩
    | raw v => exact q
    | ob o => obtain ⟨v, e, hd⟩ := q; exact ⟨v, e, ob_mono ug hd⟩
    | own es => obtain ⟨a, xs, e, ha, hh⟩ := q; exact ⟨a, xs, e, up a _ ha, dps_mono ug _ _ hh⟩
  · rw [upd_ne (nown a (.inl ⟨i, z⟩))]; exact S.ownG i a z
  · exact pwok_to S.pw (fun a o h _ => up a o h) (fun a φ h => up a _ h) fun a z => by rw [upd_ne (nown a (.inr z))]; exact G_pown S.pw z
end
end DL

/-! DL3: operators on data -/
noncomputable section
namespace DL
open PySem L2 PyProof.Rows
open Evl (Ex)

def Dq (K : PySem.W.Frag) (G H : Hp) (v : V) (d : PyData) : Prop := match d with
  | .list ds => ∃ a xs, v = .ref a ∧ H a = some (.lst xs) ∧ RpAll K G xs ds
  | d => Rp K G v d
theorem Dq.of {K : PySem.W.Frag} {G H : Hp} {v : V} : ∀ {d : PyData}, Ex G H → Rp K G v d → Dq K G H v d
  | .list ds, e, h => by cases h with | lst hs ha => exact ⟨_, _, rfl, e _ _ hs, ha⟩
  | .none, _, h | .bool _, _, h | .int _, _, h | .str _, _, h | .tuple _, _, h | .dict _, _, h => h
theorem Dq.rp {K : PySem.W.Frag} {G H : Hp} {v : V} : ∀ {d : PyData}, Ex G H → Dq K G H v d → Rp K H v d
  | .list ds, e, h => by obtain ⟨a, xs, rfl, ha, hd⟩ := h; exact .lst ha (dps_mono e _ _ hd)
  | .none, e, h | .bool _, e, h | .int _, e, h | .str _, e, h | .tuple _, e, h | .dict _, e, h => dp_mono e _ _ h
theorem look_q {K : PySem.W.Frag} {H0 G H : Hp} {s : DSt} {σ : L2.St} {v : V} {r : R} {d : PyData} (S : SA K G s σ H) (h : RRel K H0 G s σ H v r) (e : look r s = some d) : Dq K G H v d := by
  cases r with
  | val d' => cases e; exact .of S.gh h
  | raw u => cases e
  | ob o => cases e
  | new ds =>
    cases e
    obtain ⟨a, xs, rfl, ha, hd, _⟩ := h
    exact ⟨a, xs, rfl, ha, hd⟩
  | slot i =>
    simp only [look] at e
    have h' : σ[i]? = some (some v) := h
    split at e
    · rename_i ds q
      cases e
      obtain ⟨a, xs, e1, ha, hd⟩ := S.slot i _ q
      rw [h'] at e1
      cases e1
      exact ⟨a, xs, rfl, ha, hd⟩
    · rename_i d' q
      cases e
      obtain ⟨u, e1, hd⟩ := S.slot i _ q
      rw [h'] at e1
      cases e1
      exact .of S.gh hd
    · cases e
theorem dq_int {K : PySem.W.Frag} {G H : Hp} {v : V} {i : Int} (h : Dq K G H v (.int i)) : v = .int i := by cases (show Rp K G v (.int i) from h); rfl
theorem dq_bl {K : PySem.W.Frag} {G H : Hp} {v : V} {i : Bool} (h : Dq K G H v (.bool i)) : v = .bl i := by cases (show Rp K G v (.bool i) from h); rfl
theorem dq_str {K : PySem.W.Frag} {G H : Hp} {v : V} {i : Str} (h : Dq K G H v (.str i)) : v = .str i := by cases (show Rp K G v (.str i) from h); rfl
theorem dq_lst {K : PySem.W.Frag} {G H : Hp} {v : V} {ds : List PyData} (h : Dq K G H v (.list ds)) : ∃ a xs, v = .ref a ∧ H a = some (.lst xs) ∧ RpAll K G xs ds := h
theorem dq_tup {K : PySem.W.Frag} {G H : Hp} {v : V} {ds : List PyData} (x : Ex G H) (h : Dq K G H v (.tuple ds)) : ∃ a xs, v = .ref a ∧ SqT K H a xs ∧ RpAll K G xs ds ∧ Rp K G v (.tuple ds) := by
  have h' : Rp K G v (.tuple ds) := h
  cases id h' with
  | tup hs ha => exact ⟨_, _, rfl, .of (x _ _ hs), ha, h'⟩
def Ans (K : PySem.W.Frag) (G H : Hp) (r : R) (Q : VK) : Prop := match r with
  | .val d => (∀ v, Rp K G v d → Q v H) ∧ ∀ ds p vs, d = .tuple ds → H p = none → RpAll K G vs ds → Q (.ref p) (upd H p (.tup vs))
  | .new ds => ∀ p vs, H p = none → RpAll K G vs ds → Q (.ref p) (upd H p (.lst vs))
  | .raw v => Q v H
  | .ob o => (∀ v, ObRel K G v o → Q v H) ∧ (∀ kvs p vs, o = .dict kvs → H p = none → KRp K G vs kvs → Q (.ref p) (upd H p (.dK vs))) ∧ ∀ S n p, o = .set S n → H p = none → Q (.ref p) (upd H p (.set S n))
  | .slot _ => False
theorem ans_of {K : PySem.W.Frag} {cl : String → Addr} {W : WX} {G H H0 : Hp} {s : DSt} {σ : L2.St} {r : R} {Q : VK} (S : SA K G s σ H) (dm : ∀ a, H0 a ≠ none → H a ≠ none) (hr : ∀ i, r ≠ .slot i)
    (h : Out K cl W G s σ H (.ok r s) fun r G' s' H' => ∀ v, RRel K H0 G' s' σ H' v r → Q v H') : Ans K G H r Q := by
  cases r with
  | val d =>
    refine ⟨fun v q => h G H Stp.refl S v q, fun ds p vs e hp hd => ?_⟩
    subst e
    obtain ⟨st, sa⟩ := new_known (.tup vs) S hp
    refine h _ _ st sa _ ?_
    exact .tup upd_same (dps_mono st.ex _ _ hd)
  | new ds =>
    intro p vs hp hd
    obtain ⟨st, sa, rr⟩ := new_list S hp hd dm
    exact h _ _ st sa _ rr
  | raw v => exact h G H Stp.refl S v rfl
  | ob o =>
    refine ⟨fun v q => h G H Stp.refl S v q, fun kvs p vs e hp hd => ?_, fun S' n p e hp => ?_⟩
    · subst e
      obtain ⟨st, sa⟩ := new_known (.dK vs) S hp
      exact h _ _ st sa _ ⟨p, vs, rfl, upd_same, krp_mono st.ex hd⟩
    · subst e
      obtain ⟨st, sa⟩ := new_known (.set S' n) S hp
      exact h _ _ st sa _ ⟨p, rfl, upd_same⟩
  | slot i => exact (hr i rfl).elim
def lift1 (o : PyData → Option R) : R → M R := fun x s => match look x s with
  | some d => match o d with
    | some (.slot _) => .stuck
    | some r => .ok r s
    | none => .stuck
  | none => .stuck
def lift2 (o : PyData → PyData → Option R) : R → R → M R := fun x y s => match look x s, look y s with
  | some d, some e => match o d e with
    | some (.slot _) => .stuck
    | some r => .ok r s
    | none => .stuck
  | _, _ => .stuck
def OpD (K : PySem.W.Frag) (rl : R2) (o : PyData → PyData → Option R) : Prop := ∀ (G H : Hp) (x y : V) (d e : PyData) (r : R) (Q : VK), Ex G H → Dq K G H x d → Dq K G H y e → o d e = some r → Ans K G H r Q → rl x y H Q
theorem ops_lift {K : PySem.W.Frag} {rl : R2} {o : PyData → PyData → Option R} (h : OpD K rl o) : OpS K rl (lift2 o) := by
  intro cl W G s σ H H0 v1 v2 r1 r2 Q S q1 q2 k
  unfold lift2 at k
  split at k
  · rename_i d e e1 e2
    split at k
    · exact k.elim
    · rename_i r ns ho
      exact h G H v1 v2 d e r Q S.gh (look_q S q1 e1) (look_q S q2 e2) ho (ans_of S (fun a z => z) (fun i z => ns i z) k)
    · exact k.elim
  · exact k.elim

/-! ### sums, products .. -/
def addO : PyData → PyData → Option R
  | .int i, .int j => some (.val (.int (i + j)))
  | .list a, .list b => if leS (a.length + b.length) then some (.new (a ++ b)) else none
  | .str a, .str b => if leS (a.length + b.length) then some (.val (.str (a ++ b))) else none
  | .tuple a, .tuple b => if leS (a.length + b.length) then some (.val (.tuple (a ++ b))) else none
  | _, _ => none
def rAddA (K : PySem.W.Frag) : R2 := fun x y H Q => rI0 (fun i j => .int (i + j)) x y H Q ∨ (rCat x y H Q ∨ ((∃ i j, x = .str i ∧ y = .str j ∧ i.length + j.length ≤ sizeLine ∧ Q (.str (i ++ j)) H) ∨ rCatA K x y H Q))
theorem opd_add {K : PySem.W.Frag} : OpD K (rAddA K) addO := by
  intro G H x y d e r Q ex hx hy ho k
  unfold addO at ho
  split at ho
  · cases ho
    obtain rfl := dq_int hx
    obtain rfl := dq_int hy
    exact .inl ⟨_, _, rfl, rfl, k.1 _ (.int _)⟩
  · split at ho
    · cases ho
      rename_i a b hl
      obtain ⟨p, xs, rfl, hp, hpx⟩ := dq_lst hx
      obtain ⟨q, ys, rfl, hq, hqx⟩ := dq_lst hy
      exact .inr (.inl ⟨p, q, xs, ys, rfl, rfl, hp, hq, by rw [dps_len hpx, dps_len hqx]; exact hl, fun l hl => k l _ hl (dps_app hpx hqx)⟩)
    · cases ho
  · split at ho
    · cases ho
      obtain rfl := dq_str hx
      obtain rfl := dq_str hy
      exact .inr (.inr (.inl ⟨_, _, rfl, rfl, by assumption, k.1 _ (.str _)⟩))
    · cases ho
  · split at ho
    · cases ho
      rename_i a b hl
      obtain ⟨p, xs, rfl, hp, hpx, h1⟩ := dq_tup ex hx
      obtain ⟨q, ys, rfl, hq, hqx, h2⟩ := dq_tup ex hy
      refine .inr (.inr (.inr ⟨p, q, xs, ys, rfl, rfl, hp, hq, by rw [dps_len hpx, dps_len hqx]; exact hl, fun z => ?_, fun _ z => ?_, fun _ _ l hl => k.2 _ l _ rfl hl (dps_app hpx hqx)⟩))
      · subst z
        cases hpx
        exact k.1 _ h2
      · subst z
        cases hqx
        simp only [List.append_nil] at k
        exact k.1 _ h1
    · cases ho
  · cases ho
def subO : PyData → PyData → Option R
  | .int i, .int j => some (.val (.int (i - j)))
  | _, _ => none
theorem opd_sub {K : PySem.W.Frag} : OpD K (rI0 fun i j => .int (i - j)) subO := by
  intro G H x y d e r Q ex hx hy ho k
  unfold subO at ho
  split at ho
  · cases ho
    obtain rfl := dq_int hx
    obtain rfl := dq_int hy
    exact ⟨_, _, rfl, rfl, k.1 _ (.int _)⟩
  · cases ho
def mulO : PyData → PyData → Option R
  | .int i, .int j => if lgM i j then some (.val (.int (i * j))) else none
  | .list a, .int k => if inW k ∧ leS (a.length * k.toNat) then some (.new (List.replicate k.toNat a).flatten) else none
  | _, _ => none
theorem dps_rep {K : PySem.W.Frag} {H : Hp} {ds : List PyData} {vs : List V} (h : RpAll K H vs ds) : ∀ n, RpAll K H (List.replicate n vs).flatten (List.replicate n ds).flatten
  | 0 => .nil
  | n + 1 => by
    rw [List.replicate_succ, List.replicate_succ, List.flatten_cons, List.flatten_cons]
    exact dps_app h (dps_rep h n)
def rMulA : R2 := fun x y H Q => rI CMulW (fun i j => .int (i * j)) x y H Q ∨ rRep x y H Q
theorem opd_mul {K : PySem.W.Frag} : OpD K rMulA mulO := by
  intro G H x y d e r Q ex hx hy ho k
  unfold mulO at ho
  split at ho
  · split at ho
    · cases ho
      obtain rfl := dq_int hx
      obtain rfl := dq_int hy
      exact .inl ⟨_, _, rfl, rfl, by assumption, k.1 _ (.int _)⟩
    · cases ho
  · split at ho
    · cases ho
      rename_i a n hl
      obtain ⟨p, xs, rfl, hp, hpx⟩ := dq_lst hx
      obtain rfl := dq_int hy
      exact .inr ⟨p, n, xs, rfl, rfl, hp, hl.1.1, hl.1.2, by rw [dps_len hpx]; exact hl.2, fun l hl => k l _ hl (dps_rep hpx _)⟩
    · cases ho
  · cases ho
def fdivO : PyData → PyData → Option R
  | .int i, .int j => if 0 < j ∧ lgD j then some (.val (.int (i / j))) else none
  | _, _ => none
theorem opd_fdiv {K : PySem.W.Frag} : OpD K (rI CDivW fun i j => .int (i / j)) fdivO := by
  intro G H x y d e r Q ex hx hy ho k
  unfold fdivO at ho
  split at ho
  · split at ho
    · cases ho
      obtain rfl := dq_int hx
      obtain rfl := dq_int hy
      exact ⟨_, _, rfl, rfl, by assumption, k.1 _ (.int _)⟩
    · cases ho
  · cases ho
def modO : PyData → PyData → Option R
  | .int i, .int j => if 0 < j then some (.val (.int (i % j))) else none
  | _, _ => none
theorem opd_mod {K : PySem.W.Frag} : OpD K (rI (fun _ j => 0 < j) fun i j => .int (i % j)) modO := by
  intro G H x y d e r Q ex hx hy ho k
  unfold modO at ho
  split at ho
  · split at ho
    · cases ho
      obtain rfl := dq_int hx
      obtain rfl := dq_int hy
      exact ⟨_, _, rfl, rfl, by assumption, k.1 _ (.int _)⟩
    · cases ho
  · cases ho
def powO : PyData → PyData → Option R
  | .int i, .int j => if 0 ≤ j ∧ leP j ∧ lgP i then some (.val (.int (i ^ j.toNat))) else none
  | _, _ => none
def CPowW (i j : Int) : Prop := 0 ≤ j ∧ j ≤ 30000 ∧ i.natAbs.log2 < 4000
theorem bits_log (i : Int) : Builtin.Int.intBits i ≤ i.natAbs.log2 + 1 := by
  unfold Builtin.Int.intBits
  split <;> omega
theorem op_powW {X : Cx} : OpR X (binaryOp .Pow) (rI CPowW fun i j => .int (i ^ j.toNat)) := by
  intro pins s σ H x y v u Q I r1 r2 h
  obtain ⟨i, j, rfl, rfl, hc, q⟩ := h
  obtain ⟨t, rfl⟩ := r1
  obtain ⟨t', rfl⟩ := r2
  refine pow_int hc.1 ?_ ⟨.int _, H, I.tok _, ⟨_, rfl⟩, q⟩
  have h1 := bits_log i
  have h2 : (Builtin.Int.intBits i : Int) ≤ 4000 := by have := hc.2.2; omega
  have h3 : (Builtin.Int.intBits i : Int) * j ≤ 4000 * 30000 := Int.mul_le_mul h2 hc.2.1 hc.1 (by decide)
  have : (4000 * 30000 : Int) ≤ 2 ^ 27 := by decide
  omega
theorem opd_pow {K : PySem.W.Frag} : OpD K (rI CPowW fun i j => .int (i ^ j.toNat)) powO := by
  intro G H x y d e r Q ex hx hy ho k
  unfold powO at ho
  split at ho
  · split at ho
    · cases ho
      obtain rfl := dq_int hx
      obtain rfl := dq_int hy
      exact ⟨_, _, rfl, rfl, by assumption, k.1 _ (.int _)⟩
    · cases ho
  · cases ho

/-! ### comparisons -/
def ltO : PyData → PyData → Option R
  | .int i, .int j => some (.val (.bool (decide (i < j))))
  | _, _ => none
def leO : PyData → PyData → Option R
  | .int i, .int j => some (.val (.bool (decide (i ≤ j))))
  | _, _ => none
def gtO : PyData → PyData → Option R
  | .int i, .int j => some (.val (.bool (decide (j < i))))
  | _, _ => none
def geO : PyData → PyData → Option R
  | .int i, .int j => some (.val (.bool (decide (j ≤ i))))
  | _, _ => none
theorem opd_cmpI {K : PySem.W.Frag} {p : Int → Int → Bool} {o : PyData → PyData → Option R} (h1 : ∀ i j, o (.int i) (.int j) = some (.val (.bool (p i j)))) (h2 : ∀ d e r, o d e = some r → ∃ i j, d = .int i ∧ e = .int j) :
    OpD K (rI0 fun i j => .bl (p i j)) o := by
  intro G H x y d e r Q ex hx hy ho k
  obtain ⟨i, j, rfl, rfl⟩ := h2 d e r ho
  rw [h1] at ho
  cases ho
  obtain rfl := dq_int hx
  obtain rfl := dq_int hy
  exact ⟨_, _, rfl, rfl, k.1 _ (.bl _)⟩
theorem opd_lt {K : PySem.W.Frag} : OpD K (rI0 fun i j => .bl (decide (i < j))) ltO := opd_cmpI (fun _ _ => rfl) fun d e r h => by unfold ltO at h; split at h <;> simp_all
theorem opd_le {K : PySem.W.Frag} : OpD K (rI0 fun i j => .bl (decide (i ≤ j))) leO := opd_cmpI (fun _ _ => rfl) fun d e r h => by unfold leO at h; split at h <;> simp_all
theorem opd_gt {K : PySem.W.Frag} : OpD K (rI0 fun i j => .bl (decide (j < i))) gtO := opd_cmpI (fun _ _ => rfl) fun d e r h => by unfold gtO at h; split at h <;> simp_all
theorem opd_ge {K : PySem.W.Frag} : OpD K (rI0 fun i j => .bl (decide (j ≤ i))) geO := opd_cmpI (fun _ _ => rfl) fun d e r h => by unfold geO at h; split at h <;> simp_all
def rEqP (K : PySem.W.Frag) (neg : Bool) : R2 := fun x y H Q => ∃ d e, Dp K H x d ∧ Dp K H y e ∧ d.plain = true ∧ e.plain = true ∧ min d.depth e.depth ≤ 60 ∧ Q (.bl (if neg then !PyData.eqv d e else PyData.eqv d e)) H
section
variable {X : Cx}
theorem op_eqP (hu : X.A.units + 64 < cLine) : OpR X (compareOp .Eq) (rEqP X.K false) := by
  intro pins s σ H x y v u Q I rx ry h
  obtain ⟨d, e, hd, he, sd, se, dm, q⟩ := h
  obtain ⟨as, r1⟩ := Dp.reads I d x v hd rx
  obtain ⟨bs, r2⟩ := Dp.reads I e y u he ry
  exact SeqAt.eq_plain r1 r2 sd se (by omega) ⟨.bl _, H, I, rfl, q⟩
theorem op_neP (hu : X.A.units + 64 < cLine) : OpR X (compareOp .NotEq) (rEqP X.K true) := by
  intro pins s σ H x y v u Q I rx ry h
  obtain ⟨d, e, hd, he, sd, se, dm, q⟩ := h
  obtain ⟨as, r1⟩ := Dp.reads I d x v hd rx
  obtain ⟨bs, r2⟩ := Dp.reads I e y u he ry
  exact SeqAt.ne_plain r1 r2 sd se (by omega) ⟨.bl _, H, I, rfl, q⟩
end
def eqO (d e : PyData) : Option R := if min d.depth e.depth ≤ 60 then some (.val (.bool (PyData.eqv d e))) else none
def neO (d e : PyData) : Option R := if min d.depth e.depth ≤ 60 then some (.val (.bool (!PyData.eqv d e))) else none
theorem opd_eq {K : PySem.W.Frag} : OpD K (rEqP K false) eqO := by
  intro G H x y d e r Q ex hx hy ho k
  unfold eqO at ho
  split at ho
  · cases ho
    have h1 := hx.rp ex
    have h2 := hy.rp ex
    exact ⟨d, e, rp_dp _ _ h1, rp_dp _ _ h2, rp_plain _ _ h1, rp_plain _ _ h2, by assumption, k.1 _ (.bl _)⟩
  · cases ho
theorem opd_ne {K : PySem.W.Frag} : OpD K (rEqP K true) neO := by
  intro G H x y d e r Q ex hx hy ho k
  unfold neO at ho
  split at ho
  · cases ho
    have h1 := hx.rp ex
    have h2 := hy.rp ex
    exact ⟨d, e, rp_dp _ _ h1, rp_dp _ _ h2, rp_plain _ _ h1, rp_plain _ _ h2, by assumption, k.1 _ (.bl _)⟩
  · cases ho
def rInP (K : PySem.W.Frag) (neg : Bool) : R2 := fun x y H Q => ∃ d ds, Dp K H x d ∧ (Dp K H y (.list ds) ∨ Dp K H y (.tuple ds)) ∧ d.plain = true ∧ PyData.plainAll ds = true ∧ min (PyData.depthAll ds) d.depth ≤ 60 ∧
  Q (.bl (if neg then !ds.any fun z => PyData.eqv z d else ds.any fun z => PyData.eqv z d)) H
section
variable {X : Cx}
theorem op_inP (hu : X.A.units + 64 < cLine) : OpR X (compareOp .In) (rInP X.K false) := by
  intro pins s σ H x y v u Q I rx ry h
  obtain ⟨d, ds, hd, he, sd, se, dm, q⟩ := h
  obtain ⟨as, r1⟩ := Dp.reads I d x v hd rx
  rcases he with he | he
  · obtain ⟨bs, r2⟩ := Dp.reads I _ y u he ry
    exact SeqAt.in_list_data r2 r1 se sd (by omega) ⟨.bl _, H, I, rfl, q⟩
  · obtain ⟨bs, r2⟩ := Dp.reads I _ y u he ry
    exact SeqAt.in_tuple_data r2 r1 se sd (by omega) ⟨.bl _, H, I, rfl, q⟩
theorem op_notInP (hu : X.A.units + 64 < cLine) : OpR X (compareOp .NotIn) (rInP X.K true) := by
  intro pins s σ H x y v u Q I rx ry h
  obtain ⟨d, ds, hd, he, sd, se, dm, q⟩ := h
  obtain ⟨as, r1⟩ := Dp.reads I d x v hd rx
  rcases he with he | he
  · obtain ⟨bs, r2⟩ := Dp.reads I _ y u he ry
    exact SeqAt.notIn_list_data r2 r1 se sd (by omega) ⟨.bl _, H, I, rfl, q⟩
  · obtain ⟨bs, r2⟩ := Dp.reads I _ y u he ry
    exact SeqAt.notIn_tuple_data r2 r1 se sd (by omega) ⟨.bl _, H, I, rfl, q⟩
end
def items : PyData → Option (List PyData)
  | .list ds => some ds
  | .tuple ds => some ds
  | _ => none
def inO (d e : PyData) : Option R := match items e with
  | some ds => if min (PyData.depthAll ds) d.depth ≤ 60 then some (.val (.bool (ds.any fun z => PyData.eqv z d))) else none
  | none => none
def notInO (d e : PyData) : Option R := match items e with
  | some ds => if min (PyData.depthAll ds) d.depth ≤ 60 then some (.val (.bool (!ds.any fun z => PyData.eqv z d))) else none
  | none => none
theorem items_dp {K : PySem.W.Frag} {H : Hp} {v : V} {e : PyData} {ds : List PyData} (h : Rp K H v e) (q : items e = some ds) : (Dp K H v (.list ds) ∨ Dp K H v (.tuple ds)) ∧ PyData.plainAll ds = true := by
  unfold items at q
  split at q
  · cases q
    refine ⟨.inl (rp_dp _ _ h), ?_⟩
    have := rp_plain _ _ h
    simpa [PyData.plain] using this
  · cases q
    refine ⟨.inr (rp_dp _ _ h), ?_⟩
    have := rp_plain _ _ h
    simpa [PyData.plain] using this
  · cases q
theorem opd_in {K : PySem.W.Frag} : OpD K (rInP K false) inO := by
  intro G H x y d e r Q ex hx hy ho k
  unfold inO at ho
  split at ho
  · rename_i ds hi
    split at ho
    · cases ho
      have h1 := hx.rp ex
      obtain ⟨h2, h3⟩ := items_dp (hy.rp ex) hi
      exact ⟨d, ds, rp_dp _ _ h1, h2, rp_plain _ _ h1, h3, by assumption, k.1 _ (.bl _)⟩
    · cases ho
  · cases ho
theorem opd_notIn {K : PySem.W.Frag} : OpD K (rInP K true) notInO := by
  intro G H x y d e r Q ex hx hy ho k
  unfold notInO at ho
  split at ho
  · rename_i ds hi
    split at ho
    · cases ho
      have h1 := hx.rp ex
      obtain ⟨h2, h3⟩ := items_dp (hy.rp ex) hi
      exact ⟨d, ds, rp_dp _ _ h1, h2, rp_plain _ _ h1, h3, by assumption, k.1 _ (.bl _)⟩
    · cases ho
  · cases ho
/-! ### places -/
def ixO : PyData → PyData → Option R
  | .list ds, .int i => (atI ds i).map .val
  | .tuple ds, .int i => (atI ds i).map .val
  | .str z, .int i => if leS (z.length) then (atI z.cps.toList i).map fun c => .val (.str ⟨#[c]⟩) else none
  | _, _ => none
theorem atI_rp {K : PySem.W.Frag} {G : Hp} {xs : List V} {ds : List PyData} {i : Int} {d : PyData} (h : RpAll K G xs ds) (e : atI ds i = some d) : ∃ v, atI xs i = some v ∧ Rp K G v d := by
  unfold atI at e ⊢
  rw [dps_len h]
  cases q : ixN ds.length i with
  | none => rw [q] at e; cases e
  | some j =>
    rw [q] at e
    have e : ds[j]? = some d := e
    have hj : j < xs.length := by rw [dps_len h]; exact (List.getElem?_eq_some_iff.mp e).1
    obtain ⟨d', e', r⟩ := dps_get h (List.getElem?_eq_getElem hj)
    rw [e] at e'
    cases e'
    exact ⟨xs[j], by simp [hj], r⟩
theorem opd_ix {K : PySem.W.Frag} : OpD K (rIx K) ixO := by
  intro G H x y d e r Q ex hx hy ho k
  unfold ixO at ho
  split at ho
  · rename_i ds i
    cases q : atI ds i with
    | none => rw [q] at ho; cases ho
    | some z =>
      rw [q] at ho
      cases ho
      obtain rfl := dq_int hy
      obtain ⟨p, xs, rfl, hp, hpx⟩ := dq_lst hx
      obtain ⟨v, e1, r1⟩ := atI_rp hpx q
      exact .inl ⟨p, xs, i, v, rfl, rfl, .of hp, e1, k.1 _ r1⟩
  · rename_i ds i
    cases q : atI ds i with
    | none => rw [q] at ho; cases ho
    | some z =>
      rw [q] at ho
      cases ho
      obtain rfl := dq_int hy
      obtain ⟨p, xs, rfl, hp, hpx, _⟩ := dq_tup ex hx
      obtain ⟨v, e1, r1⟩ := atI_rp hpx q
      exact .inr (.inl ⟨p, xs, i, v, rfl, rfl, hp, e1, k.1 _ r1⟩)
  · rename_i z i
    split at ho
    · cases q : atI z.cps.toList i with
      | none => rw [q] at ho; cases ho
      | some c =>
        rw [q] at ho
        cases ho
        obtain rfl := dq_int hy
        obtain rfl := dq_str hx
        exact .inr (.inr ⟨z, i, c, rfl, rfl, by assumption, q, k.1 _ (.str _)⟩)
    · cases ho
  · cases ho
section
variable {X : Cx} {cl : String → Addr} {W : WX} {a b : Expr} {f g : M R} {pos : Pos}
theorem d_add (ha : DE X cl W a f) (hb : DE X cl W b g) : DE X cl W (.BinOp a .Add b pos) (fOp (lift2 addO) f g) := d_op2 (pe_op (OpR.or' op_add (OpR.or' op_cat (OpR.or' op_add_str op_catA)))) (ops_lift opd_add) ha hb
theorem d_sub (ha : DE X cl W a f) (hb : DE X cl W b g) : DE X cl W (.BinOp a .Sub b pos) (fOp (lift2 subO) f g) := d_op2 (pe_op op_sub) (ops_lift opd_sub) ha hb
theorem d_mul (ha : DE X cl W a f) (hb : DE X cl W b g) : DE X cl W (.BinOp a .Mult b pos) (fOp (lift2 mulO) f g) := d_op2 (pe_op (OpR.or' op_mulW op_rep)) (ops_lift opd_mul) ha hb
theorem d_fdiv (ha : DE X cl W a f) (hb : DE X cl W b g) : DE X cl W (.BinOp a .FloorDiv b pos) (fOp (lift2 fdivO) f g) := d_op2 (pe_op op_fdivW) (ops_lift opd_fdiv) ha hb
theorem d_mod (ha : DE X cl W a f) (hb : DE X cl W b g) : DE X cl W (.BinOp a .Mod b pos) (fOp (lift2 modO) f g) := d_op2 (pe_op op_mod) (ops_lift opd_mod) ha hb
theorem d_pow (ha : DE X cl W a f) (hb : DE X cl W b g) : DE X cl W (.BinOp a .Pow b pos) (fOp (lift2 powO) f g) := d_op2 (pe_op op_powW) (ops_lift opd_pow) ha hb
theorem d_lt (ha : DE X cl W a f) (hb : DE X cl W b g) : DE X cl W (.Compare a [.Lt] [b] pos) (fOp (lift2 ltO) f g) := d_op2 (fun h1 h2 => pe_cmpR op_lt h1 h2 (nomark _)) (ops_lift opd_lt) ha hb
theorem d_le (ha : DE X cl W a f) (hb : DE X cl W b g) : DE X cl W (.Compare a [.LtE] [b] pos) (fOp (lift2 leO) f g) := d_op2 (fun h1 h2 => pe_cmpR op_le h1 h2 (nomark _)) (ops_lift opd_le) ha hb
theorem d_gt (ha : DE X cl W a f) (hb : DE X cl W b g) : DE X cl W (.Compare a [.Gt] [b] pos) (fOp (lift2 gtO) f g) := d_op2 (fun h1 h2 => pe_cmpR op_gt h1 h2 (nomark _)) (ops_lift opd_gt) ha hb
theorem d_ge (ha : DE X cl W a f) (hb : DE X cl W b g) : DE X cl W (.Compare a [.GtE] [b] pos) (fOp (lift2 geO) f g) := d_op2 (fun h1 h2 => pe_cmpR op_ge h1 h2 (nomark _)) (ops_lift opd_ge) ha hb
theorem d_eq (hu : X.A.units + 64 < cLine) (ha : DE X cl W a f) (hb : DE X cl W b g) : DE X cl W (.Compare a [.Eq] [b] pos) (fOp (lift2 eqO) f g) := d_op2 (fun h1 h2 => pe_cmpR (op_eqP hu) h1 h2 (nomark _)) (ops_lift opd_eq) ha hb
theorem d_in (hu : X.A.units + 64 < cLine) (hm : behindInMarks .In b = false) (ha : DE X cl W a f) (hb : DE X cl W b g) : DE X cl W (.Compare a [.In] [b] pos) (fOp (lift2 inO) f g) := d_op2 (fun h1 h2 => pe_cmpR (op_inP hu) h1 h2 hm) (ops_lift opd_in) ha hb
theorem d_ix (ha : DE X cl W a f) (hb : DE X cl W b g) (hs : PlainIx b) : DE X cl W (.Subscript a b pos) (fOp (lift2 ixO) f g) := d_op2 (fun h1 h2 => pe_ix ix_seq h1 h2 hs) (ops_lift opd_ix) ha hb
end
end DL

/-! DL4: tests, argument lists, displays, statements -/
noncomputable section
namespace DL
open PySem L2 PyProof.Rows
open Evl (Ex)

/-! ### tests -/
def fB (f : M R) : M Bool := bnd f fun r s => match look r s with
  | some (.bool b) => .ok b s
  | _ => .stuck
section
variable {X : Cx} {cl : String → Addr} {W : WX}
theorem test_of {K : PySem.W.Frag} {f : M R} {σ : L2.St} {H : Hp} {Q : Bool → Hp → Prop} (h : tT K cl W (fB f) σ H Q) : tD K cl W f σ H fun x H1 => ∃ k, x = .bl k ∧ Q k H1 := by
  obtain ⟨G, s, S, q⟩ := h
  refine ⟨G, s, S, out_mono (out_bind q) fun r G1 s1 H1 st S1 q1 v rr => ?_⟩
  split at q1
  · rename_i b e
    obtain rfl := dq_bl (look_q S1 rr e)
    exact ⟨b, rfl, q1 G1 H1 Stp.refl S1⟩
  · exact q1.elim
theorem d_tval {e : Expr} {f : M R} (h : DE X cl W e f) (he : ∀ whole, isTrue e X.env whole = (do let v ← whole; standAt e.pos; holding [v] (truthy v)) := by intro _; rfl) : DT X cl W e (fB f) :=
  pt_imp (pt_val h he) fun σ H Q q => test_of q
theorem d_opT {e a b : Expr} {f g : M R} {rl : R2} {o : R → R → M R} (h : ∀ {ta tb : TE}, PE X a ta → PE X b tb → PT X e (tTest (tOp rl ta tb))) (ho : OpS X.K rl o) (ha : DE X cl W a f) (hb : DE X cl W b g) : DT X cl W e (fB (fOp o f g)) := by
  refine pt_imp (h ha hb) fun σ H Q q => ?_
  obtain ⟨G, s, S, q⟩ := test_of q
  refine ⟨G, s, S, out_mono (out_bind q) fun x G1 s1 H1 st1 S1 q1 v1 r1 => ⟨G1, s1, S1, ?_⟩⟩
  refine out_mono (out_bind q1) fun y G2 s2 H2 st2 S2 q2 v2 r2 => ?_
  exact ho cl W G2 s2 σ H2 H v1 v2 x y _ S2 (r1.mono st2) (r2.less st1.dom) (out_less (st1.trans st2).dom q2)
def fAnd (f g : M Bool) : M Bool := bnd f fun b => if b then g else ret false
def fOr (f g : M Bool) : M Bool := bnd f fun b => if b then ret true else g
def fNot (f : M Bool) : M Bool := bnd f fun b => ret (!b)
theorem tand_of {K : PySem.W.Frag} {f g : M Bool} {σ : L2.St} {H : Hp} {Q : Bool → Hp → Prop} (h : tT K cl W (fAnd f g) σ H Q) : tAnd (tT K cl W f) (tT K cl W g) σ H Q := by
  obtain ⟨G, s, S, q⟩ := h
  refine ⟨G, s, S, out_mono (out_bind q) fun b G1 s1 H1 st S1 q1 => ?_⟩
  cases b with
  | true => exact ⟨G1, s1, S1, q1⟩
  | false => exact q1 G1 H1 Stp.refl S1
theorem tor_of {K : PySem.W.Frag} {f g : M Bool} {σ : L2.St} {H : Hp} {Q : Bool → Hp → Prop} (h : tT K cl W (fOr f g) σ H Q) : tOr (tT K cl W f) (tT K cl W g) σ H Q := by
  obtain ⟨G, s, S, q⟩ := h
  refine ⟨G, s, S, out_mono (out_bind q) fun b G1 s1 H1 st S1 q1 => ?_⟩
  cases b with
  | true => exact q1 G1 H1 Stp.refl S1
  | false => exact ⟨G1, s1, S1, q1⟩
theorem d_tnot {a : Expr} {f : M Bool} {pos : Pos} (ha : DT X cl W a f) : DT X cl W (.UnaryOp .Not a pos) (fNot f) := pt_imp (pt_not ha) fun σ H Q ⟨G, s, S, q⟩ =>
  ⟨G, s, S, out_mono (out_bind q) fun b G1 s1 H1 st S1 q1 => q1 G1 H1 Stp.refl S1⟩
theorem w_and1 {a : Expr} {f : M Bool} {pos : Pos} (ha : DT X cl W a f) : DW X cl W (.BoolOp .And [a] pos) f := pw_and1 ha
theorem w_or1 {a : Expr} {f : M Bool} {pos : Pos} (ha : DT X cl W a f) : DW X cl W (.BoolOp .Or [a] pos) f := pw_or1 ha
theorem w_and {a b : Expr} {rest : List Expr} {f g : M Bool} {pos : Pos} (ha : DT X cl W a f) (hb : DW X cl W (.BoolOp .And (b :: rest) pos) g) : DW X cl W (.BoolOp .And (a :: b :: rest) pos) (fAnd f g) := pw_imp (pw_and ha hb) fun σ H Q q => tand_of q
theorem w_or {a b : Expr} {rest : List Expr} {f g : M Bool} {pos : Pos} (ha : DT X cl W a f) (hb : DW X cl W (.BoolOp .Or (b :: rest) pos) g) : DW X cl W (.BoolOp .Or (a :: b :: rest) pos) (fOr f g) := pw_imp (pw_or ha hb) fun σ H Q q => tor_of q
theorem d_tw {e : Expr} {f : M Bool} (h : DW X cl W e f) : DT X cl W e f := PW.pt h
def fV (f : M Bool) : M R := bnd f fun b => ret (.val (.bool b))
def fAndV (f g : M R) : M R := bnd (fB f) fun b => if b then g else ret (.val (.bool false))
def fOrV (f g : M R) : M R := bnd (fB f) fun b => if b then ret (.val (.bool true)) else g
theorem v_one {op} {a : Expr} {f : M R} {pos : Pos} (h : DE X cl W a f) : DE X cl W (.BoolOp op [a] pos) f := pe_one h
theorem v_and {a b : Expr} {rest : List Expr} {f g : M R} {pos : Pos} (ha : DE X cl W a f) (hb : DE X cl W (.BoolOp .And (b :: rest) pos) g) : DE X cl W (.BoolOp .And (a :: b :: rest) pos) (fAndV f g) := by
  refine pe_imp (pe_and ha hb) fun σ H Q q => ?_
  obtain ⟨G, s, S, q⟩ := q
  have q2 : tT X.K cl W (fB f) σ H fun b H1 => if b = true then tD X.K cl W g σ H1 Q else Q (.bl false) H1 := by
    refine ⟨G, s, S, out_mono (out_bind q) fun b G1 s1 H1 st S1 k => ?_⟩
    cases b with
    | true => exact ⟨G1, s1, S1, out_less st.dom k⟩
    | false => exact k G1 H1 Stp.refl S1 _ (.bl false)
  exact test_of q2
theorem v_not {a : Expr} {f : M R} {pos : Pos} (ha : DE X cl W a f) : DE X cl W (.UnaryOp .Not a pos) (fV (fNot (fB f))) := by
  refine pe_imp (pe_not ha) fun σ H Q q => ?_
  obtain ⟨G, s, S, q⟩ := q
  have q2 : tT X.K cl W (fB f) σ H fun b H1 => Q (.bl (!b)) H1 := by
    refine ⟨G, s, S, out_mono (out_bind (out_bind q)) fun b G1 s1 H1 st S1 k => ?_⟩
    exact k G1 H1 Stp.refl S1 G1 H1 Stp.refl S1 _ (.bl _)
  exact test_of q2
def fIf (c : M Bool) (f g : M R) : M R := bnd c fun b => if b then f else g
/-! ### what is handed on: known from then on -/
def AR (K : PySem.W.Frag) (G : Hp) (v : V) : R → Prop
  | .val d => Rp K G v d
  | .raw u => v = u
  | .ob o => ObRel K G v o
  | _ => False
def esc (r : R) (s : DSt) : Option (R × DSt) := match r with
  | .val d => some (.val d, s)
  | .raw v => some (.raw v, s)
  | .ob o => some (.ob o, s)
  | .new ds => some (.val (.list ds), s)
  | .slot i => match s.d[i]? with
    | some (.own ds) => some (.val (.list ds), { s with d := s.d.set i (.val (.list ds)) })
    | some (.val d) => some (.val d, s)
    | _ => none
theorem know {K : PySem.W.Frag} {G H : Hp} {s : DSt} {σ : L2.St} {a : Addr} {xs : List V} {ds : List PyData} (S : SA K G s σ H) (ha : H a = some (.lst xs)) (hd : RpAll K G xs ds) (hg : G a = none) (hn : ¬ Own s σ a) :
    Ex G (upd G a (.lst xs)) ∧ SA K (upd G a (.lst xs)) s σ H ∧ Rp K (upd G a (.lst xs)) (.ref a) (.list ds) := by
  have ug : Ex G (upd G a (.lst xs)) := Ex.new hg
  refine ⟨ug, ⟨S.len, fun b u h => ?_, fun i sl h => ?_, S.inj, fun i b z => ?_, ?_, S.pne⟩, .lst upd_same (dps_mono ug _ _ hd)⟩
  · by_cases e : b = a
    · subst e; rw [upd_same] at h; rw [ha]; exact h
    · rw [upd_ne e] at h; exact S.gh b u h
  · have q := S.slot i sl h
    cases sl with
    | no => trivial
    | val d => obtain ⟨v, e, hd⟩ := q; exact ⟨v, e, dp_mono ug _ _ hd⟩
    | raw v => exact q
    | ob o => obtain ⟨v, e, hd⟩ := q; exact ⟨v, e, ob_mono ug hd⟩
    | own es => obtain ⟨b, ys, e, hb, hh⟩ := q; exact ⟨b, ys, e, hb, dps_mono ug _ _ hh⟩
  · rw [upd_ne fun e => hn (by subst e; exact .inl ⟨i, z⟩)]; exact S.ownG i b z
  · exact pwok_to S.pw (fun a o h _ => h) (fun a φ h => h) fun b z => by rw [upd_ne fun q => hn (by subst q; exact .inr z)]; exact G_pown S.pw z
theorem own_set {s : DSt} {σ : L2.St} {i j : Nat} {d : PyData} {a : Addr} : OwnAt { s with d := s.d.set i (.val d) } σ j a ↔ j ≠ i ∧ OwnAt s σ j a := by
  constructor
  · rintro ⟨⟨ds, e⟩, h⟩
    by_cases q : j = i
    · subst q
      simp only [List.getElem?_set] at e
      split at e
      · split at e <;> cases e
      · rename_i z; simp at z
    · simp only [List.getElem?_set_ne (Ne.symm q)] at e
      exact ⟨q, ⟨ds, e⟩, h⟩
  · rintro ⟨q, ⟨ds, e⟩, h⟩
    refine ⟨⟨ds, ?_⟩, h⟩
    simp only [List.getElem?_set_ne (Ne.symm q)]
    exact e
theorem slot_known {K : PySem.W.Frag} {G H : Hp} {s : DSt} {σ : L2.St} {i : Nat} {ds : List PyData} (S : SA K G s σ H) (h : s.d[i]? = some (.own ds)) :
    ∃ a xs, σ[i]? = some (some (.ref a)) ∧ H a = some (.lst xs) ∧ Stp G s σ H (upd G a (.lst xs)) { s with d := s.d.set i (.val (.list ds)) } σ H ∧ SA K (upd G a (.lst xs)) { s with d := s.d.set i (.val (.list ds)) } σ H ∧ Rp K (upd G a (.lst xs)) (.ref a) (.list ds) := by
  obtain ⟨a, xs, e, ha, hd⟩ := S.slot i _ h
  have e' : σ[i]? = some (some (.ref a)) := by
    cases z : σ[i]? with
    | none => rw [z] at e; cases e
    | some o => rw [z] at e; simp at e; rw [e]
  have hown : OwnAt s σ i a := ⟨⟨ds, h⟩, e'⟩
  have hg := S.ownG i a hown
  have il : i < s.d.length := (List.getElem?_eq_some_iff.mp h).1
  have ug : Ex G (upd G a (.lst xs)) := Ex.new hg
  have rp : Rp K (upd G a (.lst xs)) (.ref a) (.list ds) := .lst upd_same (dps_mono ug _ _ hd)
  refine ⟨a, xs, e', ha, ⟨ug, fun b u hb nb => ⟨hb, upd_ne fun z => nb (by subst z; exact .inl ⟨i, hown⟩)⟩, fun b z => ?_, fun b z => z, fun b z => z⟩, ⟨by simp [S.len], fun b u hb => ?_, fun j sl hj => ?_, fun j k b h1 h2 => ?_, fun j b z => ?_, ?_, fun j b z => ?_⟩, rp⟩
  · refine .inl ?_
    rcases z with ⟨j, z⟩ | z
    · exact .inl ⟨j, (own_set.mp z).2⟩
    · exact .inr z
  · by_cases q : b = a
    · subst q; rw [upd_same] at hb; rw [ha]; exact hb
    · rw [upd_ne q] at hb; exact S.gh b u hb
  · by_cases q : j = i
    · subst q
      simp only [List.getElem?_set_self il] at hj
      cases hj
      exact ⟨.ref a, by rw [e'] <;> rfl, rp⟩
    · simp only [List.getElem?_set_ne (Ne.symm q)] at hj
      have z := S.slot j sl hj
      cases sl with
      | no => trivial
      | val d => obtain ⟨v, e, hd⟩ := z; exact ⟨v, e, dp_mono ug _ _ hd⟩
      | raw v => exact z
      | ob o => obtain ⟨v, e, hd⟩ := z; exact ⟨v, e, ob_mono ug hd⟩
      | own es => obtain ⟨b, ys, e, hb, hh⟩ := z; exact ⟨b, ys, e, hb, dps_mono ug _ _ hh⟩
  · exact S.inj j k b (own_set.mp h1).2 (own_set.mp h2).2
  · obtain ⟨q, z⟩ := own_set.mp z
    rw [upd_ne fun e => q (by subst e; exact S.inj j i b z hown)]
    exact S.ownG j b z
  · exact pwok_to S.pw (fun a o h _ => h) (fun a φ h => h) fun b z => by rw [upd_ne fun q => S.pne i a hown (by subst q; exact z)]; exact G_pown S.pw z
  · exact S.pne j b (own_set.mp z).2
theorem esc_ok {K : PySem.W.Frag} {G0 H0 G H : Hp} {s0 s : DSt} {σ0 σ : L2.St} {v : V} {r r' : R} {s' : DSt} (S : SA K G s σ H) (st : Stp G0 s0 σ0 H0 G s σ H) (h : RRel K H0 G s σ H v r) (e : esc r s = some (r', s')) :
    ∃ G', Stp G0 s0 σ0 H0 G' s' σ H ∧ SA K G' s' σ H ∧ Ex G G' ∧ AR K G' v r' := by
  cases r with
  | val d => cases e; exact ⟨G, st, S, Ex.refl G, h⟩
  | raw u => cases e; exact ⟨G, st, S, Ex.refl G, h⟩
  | ob o => cases e; exact ⟨G, st, S, Ex.refl G, h⟩
  | new ds =>
    cases e
    obtain ⟨a, xs, rfl, ha, hd, hg, h0, hn⟩ := h
    obtain ⟨ug, S', rp⟩ := know S ha hd hg hn
    refine ⟨_, ⟨st.ex.trans ug, fun b u hb nb => ?_, st.own, st.dom, st.pw⟩, S', ug, rp⟩
    obtain ⟨h1, g1⟩ := st.keep b u hb nb
    exact ⟨h1, by rw [upd_ne fun z => by subst z; rw [h0] at hb; cases hb]; exact g1⟩
  | slot i =>
    simp only [esc] at e
    split at e
    · rename_i ds q
      cases e
      obtain ⟨a, xs, e1, ha, st', S', rp⟩ := slot_known S q
      have h' : σ[i]? = some (some v) := h
      rw [e1] at h'
      cases h'
      exact ⟨_, st.trans st', S', st'.ex, rp⟩
    · rename_i d q
      cases e
      have h' : σ[i]? = some (some v) := h
      obtain ⟨u, e1, hd⟩ := S.slot i _ q
      rw [h'] at e1
      cases e1
      exact ⟨G, st, S, Ex.refl G, hd⟩
    · cases e
def fEsc (r : R) : M R := fun s => match esc r s with
  | some (r', s') => .ok r' s'
  | none => .stuck
theorem ar_mono {K : PySem.W.Frag} {G G' : Hp} {v : V} {r : R} (e : Ex G G') (h : AR K G v r) : AR K G' v r := by
  cases r with
  | val d => exact dp_mono e _ _ h
  | raw u => exact h
  | ob o => exact ob_mono e h
  | new ds => exact h
  | slot i => exact h
end
end DL

/-! DL5: argument lists, displays, slices, statements -/
noncomputable section
namespace DL
open PySem L2 PyProof.Rows
open Evl (Ex)
section
variable {K : PySem.W.Frag} {cl : String → Addr} {W : WX} {G H : Hp} {s : DSt} {σ : L2.St}
def OutF {α : Type} (K : PySem.W.Frag) (cl : String → Addr) (W : WX) (G0 : Hp) (s0 : DSt) (σ0 : L2.St) (H0 : Hp) (σ : L2.St) (r : Res α) (k : α → Hp → DSt → Hp → Prop) : Prop := match r with
  | .ok a s' => ∀ G' H', Stp G0 s0 σ0 H0 G' s' σ H' → SA K G' s' σ H' → k a G' s' H'
  | .err x s' => ∀ cls d G' H', Stp G0 s0 σ0 H0 G' s' σ H' → SA K G' s' σ H' → XRel K cl x cls d G' → W cls d σ H'
  | .stuck => False
theorem out_esc {β : Type} {f : Res R} {g : R → M β} {k : β → Hp → DSt → Hp → Prop} (h : Out K cl W G s σ H (f.bind fun r => bnd (fEsc r) g) k) :
    Out K cl W G s σ H f fun r G1 s1 H1 => ∀ v, RRel K H G1 s1 σ H1 v r → ∃ G2 s2 r2, Stp G s σ H G2 s2 σ H1 ∧ SA K G2 s2 σ H1 ∧ AR K G2 v r2 ∧ Ex G1 G2 ∧
      Out K cl W G2 s2 σ H1 (g r2 s2) k := by
  cases f with
  | ok r s1 =>
    intro G1 H1 st S1 v rr
    have h : Out K cl W G s σ H ((fEsc r s1).bind g) k := h
    unfold fEsc at h
    cases e : esc r s1 with
    | none => rw [e] at h; exact h.elim
    | some p =>
      obtain ⟨r2, s2⟩ := p
      rw [e] at h
      obtain ⟨G2, st2, S2, ex, ar⟩ := esc_ok S1 st rr e
      refine ⟨G2, s2, r2, st2, S2, ar, ex, ?_⟩
      have h : Out K cl W G s σ H (g r2 s2) k := h
      cases q : g r2 s2 with
      | ok b s3 => rw [q] at h; exact fun G3 H3 st3 S3 => h G3 H3 (st2.trans st3) S3
      | err x s3 => rw [q] at h; exact fun c d G3 H3 st3 S3 xr => h c d G3 H3 (st2.trans st3) S3 xr
      | stuck => rw [q] at h; exact h
  | err x s1 => exact h
  | stuck => exact h
def tAe (K : PySem.W.Frag) (cl : String → Addr) (W : WX) (f : M (List R)) : TA := fun σ H Q => ∃ G s, SA K G s σ H ∧ Out K cl W G s σ H (f s) fun rs G' s' H' => ∀ vs, Paired (AR K G') vs rs → Q vs H'
end
section
variable {X : Cx} {cl : String → Addr} {W : WX} {e a b c : Expr} {es : List Expr} {f g : M R} {fs : M (List R)} {pos : Pos}
abbrev DAe (X : Cx) (cl : String → Addr) (W : WX) (es : List Expr) (f : M (List R)) : Prop := PA X es (tAe X.K cl W f)
def fNil : M (List R) := ret []
def fCons (f : M R) (fs : M (List R)) : M (List R) := bnd f fun r => bnd (fEsc r) fun r' => bnd fs fun rs => ret (r' :: rs)
def pCons (f : M R) (fs : M (List R)) : M (List R) := bnd f fun r => bnd fs fun rs => ret (r :: rs)
theorem ae_nil : DAe X cl W [] fNil := pa_imp pa_nil fun σ H Q ⟨G, s, S, q⟩ => q G H Stp.refl S [] .nil
theorem ae_cons (ha : DE X cl W e f) (hr : DAe X cl W es fs) (hs : starEach (e :: es) X.env = (false, eval e X.env) :: starEach es X.env := by rfl) : DAe X cl W (e :: es) (fCons f fs) := by
  refine pa_imp (pa_cons ha hr hs) fun σ H Q ⟨G, s, S, q⟩ => ?_
  refine ⟨G, s, S, out_mono (out_esc q) fun r G1 s1 H1 st S1 k v rr => ?_⟩
  obtain ⟨G2, s2, r2, st2, S2, ar, ex, k2⟩ := k v rr
  refine ⟨G2, s2, S2, out_mono (out_bind k2) fun rs G3 s3 H3 st3 S3 k3 vs hv => ?_⟩
  exact k3 G3 H3 Stp.refl S3 (v :: vs) (.cons (ar_mono st3.ex ar) hv)
theorem ap_nil : DA X cl W [] fNil := pa_imp pa_nil fun σ H Q ⟨G, s, S, q⟩ => q G H Stp.refl S [] .nil
theorem pair_less {K : PySem.W.Frag} {H0 H1 G H : Hp} {s : DSt} {σ : L2.St} (d : ∀ a, H0 a ≠ none → H1 a ≠ none) : ∀ {vs : List V} {rs : List R}, RRels K H1 G s σ H vs rs → RRels K H0 G s σ H vs rs
  | _, _, .nil => .nil
  | _, _, .cons h t => .cons (h.less d) (pair_less d t)
theorem ap_cons (ha : DE X cl W e f) (hr : DA X cl W es fs) (hs : starEach (e :: es) X.env = (false, eval e X.env) :: starEach es X.env := by rfl) : DA X cl W (e :: es) (pCons f fs) := by
  refine pa_imp (pa_cons ha hr hs) fun σ H Q ⟨G, s, S, q⟩ => ?_
  refine ⟨G, s, S, out_mono (out_bind q) fun r G1 s1 H1 st S1 k v rr => ?_⟩
  refine ⟨G1, s1, S1, out_mono (out_bind k) fun rs G3 s3 H3 st3 S3 k3 vs hv => ?_⟩
  exact k3 G3 H3 Stp.refl S3 (v :: vs) (.cons (rr.mono st3) (pair_less st.dom hv))
def datas : List R → Option (List PyData)
  | [] => some []
  | .val d :: r => (datas r).map (d :: ·)
  | _ :: _ => none
theorem datas_rp {K : PySem.W.Frag} {G : Hp} : ∀ {rs : List R} {vs : List V} {ds : List PyData}, Paired (AR K G) vs rs → datas rs = some ds → RpAll K G vs ds
  | [], _, ds, .nil, e => by cases e; exact .nil
  | .val d :: r, _, ds, .cons h t, e => by
    simp only [datas] at e
    cases q : datas r with
    | none => rw [q] at e; cases e
    | some es => rw [q] at e; cases e; exact .cons h (datas_rp t q)
  | .raw _ :: _, _, _, _, e | .ob _ :: _, _, _, _, e | .new _ :: _, _, _, _, e | .slot _ :: _, _, _, _, e => by cases e
def fLst (fs : M (List R)) : M R := bnd fs fun rs s => match datas rs with
  | some ds => if leS (ds.length) then .ok (.new ds) s else .stuck
  | none => .stuck
def fTup (fs : M (List R)) : M R := bnd fs fun rs s => match datas rs with
  | some ds => if leS (ds.length) then .ok (.val (.tuple ds)) s else .stuck
  | none => .stuck
theorem d_lst (h : DAe X cl W es fs) : DE X cl W (.List es pos) (fLst fs) := by
  refine pe_imp (pe_lst h) fun σ H Q ⟨G, s, S, q⟩ => ?_
  refine ⟨G, s, S, out_mono (out_bind q) fun rs G1 s1 H1 st S1 k vs hv => ?_⟩
  split at k
  · rename_i ds e
    split at k
    · rename_i hl
      have hd := datas_rp hv e
      refine ⟨by rw [dps_len hd]; exact hl, fun p hp => ?_⟩
      obtain ⟨st2, S2, rr⟩ := new_list S1 hp hd st.dom
      exact k _ _ st2 S2 _ rr
    · exact k.elim
  · exact k.elim
theorem d_tup {x1} (h : DAe X cl W es fs) : DE X cl W (.Tuple es x1 pos) (fTup fs) := by
  refine pe_imp (pe_tup h) fun σ H Q ⟨G, s, S, q⟩ => ?_
  refine ⟨G, s, S, out_mono (out_bind q) fun rs G1 s1 H1 st S1 k vs hv => ?_⟩
  split at k
  · rename_i ds e
    split at k
    · rename_i hl
      have hd := datas_rp hv e
      refine ⟨by rw [dps_len hd]; exact hl, fun p hp => ?_⟩
      obtain ⟨st2, S2⟩ := new_known (.tup vs) S1 hp
      exact k _ _ st2 S2 _ (.tup upd_same (dps_mono st2.ex _ _ hd))
    · exact k.elim
  · exact k.elim

/-! ### slices -/
def fPart (f : M R) : M (Option Int) := bnd f fun r s => match look r s with
  | some (.int i) => .ok (some i) s
  | _ => .stuck
def fNoPart : M (Option Int) := ret none
def tP (K : PySem.W.Frag) (cl : String → Addr) (W : WX) (f : M (Option Int)) : TO := fun σ H Q => ∃ G s, SA K G s σ H ∧ Out K cl W G s σ H (f s) fun o _ _ H' => Q o H'
theorem po_imp {o : Option Expr} {t t' : TO} (h : PO X o t) (i : ∀ σ H Q, t' σ H Q → t σ H Q) : PO X o t' := ⟨fun pins s σ H Q I q => h.run pins s σ H Q I (i σ H Q q)⟩
abbrev DP (X : Cx) (cl : String → Addr) (W : WX) (o : Option Expr) (f : M (Option Int)) : Prop := PO X o (tP X.K cl W f)
theorem dp_none : DP X cl W none fNoPart := po_imp po_none fun σ H Q ⟨G, s, S, q⟩ => q G H Stp.refl S
theorem dp_some (h : DE X cl W e f) : DP X cl W (some e) (fPart f) := po_imp (po_some h) fun σ H Q ⟨G, s, S, q⟩ => by
  refine ⟨G, s, S, out_mono (out_bind q) fun r G1 s1 H1 st S1 k v rr => ?_⟩
  split at k
  · rename_i i e
    obtain rfl := dq_int (look_q S1 rr e)
    exact ⟨i, rfl, k G1 H1 Stp.refl S1⟩
  · exact k.elim
def cutD (xs : List PyData) (lo hi : Option Int) : List PyData := (xs.drop (HT.sIx xs.length 0 lo)).take (HT.sIx xs.length xs.length hi - HT.sIx xs.length 0 lo)
def sliceO (d : PyData) (lo hi : Option Int) : Option R := match d with
  | .list xs => some (.new (cutD xs lo hi))
  | .tuple xs => some (.val (.tuple (cutD xs lo hi)))
  | _ => none
def fSlice (f : M R) (l h : M (Option Int)) : M R := bnd f fun x => bnd l fun lo => bnd h fun hi s => match look x s with
  | some d => match sliceO d lo hi with
    | some (.slot _) => .stuck
    | some r => .ok r s
    | none => .stuck
  | none => .stuck
theorem cut_rp {K : PySem.W.Frag} {G : Hp} {xs : List V} {ds : List PyData} {lo hi : Option Int} (h : RpAll K G xs ds) : RpAll K G (cutV xs lo hi) (cutD ds lo hi) := by
  unfold cutV cutD
  rw [dps_len h]
  exact dps_take _ (dps_drop _ h)
theorem d_slice {lo hi : Option Expr} {l h : M (Option Int)} {p2 : Pos} (ha : DE X cl W e f) (hl : DP X cl W lo l) (hh : DP X cl W hi h) : DE X cl W (.Subscript e (.Slice lo hi none p2) pos) (fSlice f l h) := by
  refine pe_imp (pe_slice (sl_list.or sl_tupA) ha hl hh) fun σ H Q ⟨G, s, S, q⟩ => ?_
  refine ⟨G, s, S, out_mono (out_bind q) fun x G1 s1 H1 st1 S1 q1 v1 r1 => ⟨G1, s1, S1, ?_⟩⟩
  refine out_mono (out_bind q1) fun lo G2 s2 H2 st2 S2 q2 => ⟨G2, s2, S2, ?_⟩
  refine out_mono (out_bind q2) fun hi G3 s3 H3 st3 S3 q3 => ?_
  have r3 := (r1.mono st2).mono st3
  split at q3
  · rename_i d e
    have hd := look_q S3 r3 e
    split at q3
    · exact q3.elim
    · rename_i r ns ho
      have an := ans_of S3 ((st1.trans st2).trans st3).dom (fun i z => ns i z) q3
      unfold sliceO at ho
      split at ho
      · cases ho
        obtain ⟨p, xs, rfl, hp, hpx⟩ := dq_lst hd
        exact .inl ⟨p, xs, rfl, .of hp, fun l hl => an l _ hl (cut_rp hpx)⟩
      · rename_i ds
        cases ho
        obtain ⟨p, xs, rfl, hp, hpx, h1⟩ := dq_tup S3.gh hd
        refine .inr ⟨p, xs, rfl, hp, fun ⟨z1, z2⟩ => ?_, fun _ l hl => an.2 _ l _ rfl hl (cut_rp hpx)⟩
        refine an.1 _ ?_
        have e1 : cutD ds lo hi = ds := by
          unfold cutD
          rw [← dps_len hpx, z1, z2, dps_len hpx]
          simp
        rw [e1]
        exact h1
      · cases ho
    · exact q3.elim
  · exact q3.elim
def revO : PyData → Option R
  | .list xs => some (.new xs.reverse)
  | _ => none
def fUn (o : R → M R) (f : M R) : M R := bnd f o
theorem d_rev {k : Nat} {p1 p2 p3 : Pos} (ha : DE X cl W e f) : DE X cl W (.Subscript e (.Slice none none (some (.UnaryOp .USub (.Constant (.int 1) k p1) p2)) p3) pos) (fUn (lift1 revO) f) := by
  refine pe_imp (pe_revL ha) fun σ H Q ⟨G, s, S, q⟩ => ?_
  refine ⟨G, s, S, out_mono (out_bind q) fun x G1 s1 H1 st1 S1 q1 v1 r1 => ?_⟩
  unfold lift1 at q1
  split at q1
  · rename_i d e
    have hd := look_q S1 r1 e
    split at q1
    · exact q1.elim
    · rename_i r ns ho
      have an := ans_of S1 st1.dom (fun i z => ns i z) q1
      unfold revO at ho
      split at ho
      · cases ho
        obtain ⟨p, xs, rfl, hp, hpx⟩ := dq_lst hd
        exact ⟨p, xs, rfl, .of hp, fun l hl => an l _ hl (dps_rev hpx)⟩
      · cases ho
    · exact q1.elim
  · exact q1.elim
def negO : PyData → Option R
  | .int i => some (.val (.int (-i)))
  | _ => none
theorem d_neg (ha : DE X cl W e f) : DE X cl W (.UnaryOp .USub e pos) (fUn (lift1 negO) f) := by
  refine pe_imp (pe_un un_neg ha) fun σ H Q ⟨G, s, S, q⟩ => ?_
  refine ⟨G, s, S, out_mono (out_bind q) fun x G1 s1 H1 st1 S1 q1 v1 r1 => ?_⟩
  unfold lift1 at q1
  split at q1
  · rename_i d e
    have hd := look_q S1 r1 e
    split at q1
    · exact q1.elim
    · rename_i r ns ho
      have an := ans_of S1 st1.dom (fun i z => ns i z) q1
      unfold negO at ho
      split at ho
      · cases ho
        obtain rfl := dq_int hd
        exact ⟨_, rfl, an.1 _ (.int _)⟩
      · cases ho
    · exact q1.elim
  · exact q1.elim
def isNR (r : R) (s : DSt) : Option Bool := match r with
  | .raw v => some (decide (v = .non))
  | .ob _ => some false
  | r => match look r s with
    | some .none => some true
    | some _ => some false
    | none => none
def fIsN (neg : Bool) (f : M R) : M R := bnd f fun r s => match isNR r s with
  | some b => .ok (.val (.bool (if neg then !b else b))) s
  | none => .stuck
theorem isNR_ok {K : PySem.W.Frag} {H0 G H : Hp} {s : DSt} {σ : L2.St} {v : V} {r : R} {b : Bool} (S : SA K G s σ H) (h : RRel K H0 G s σ H v r) (e : isNR r s = some b) : decide (v = .non) = b := by
  have go : ∀ d, Dq K G H v d → (match some d with | some PyData.none => some true | some _ => some false | none => none) = some b → decide (v = .non) = b := by
    intro d hd e
    cases d with
    | none => cases e; cases (show Rp K G v .none from hd); rfl
    | bool x => cases e; cases (show Rp K G v (.bool x) from hd); rfl
    | int x => cases e; cases (show Rp K G v (.int x) from hd); rfl
    | str x => cases e; cases (show Rp K G v (.str x) from hd); rfl
    | list x => cases e; obtain ⟨a, xs, rfl, _⟩ := dq_lst hd; rfl
    | tuple x => cases e; cases (show Rp K G v (.tuple x) from hd); rfl
    | dict x => cases (show Rp K G v (.dict x) from hd)
  unfold isNR at e
  split at e
  · cases e
    have h : v = _ := h
    rw [h]
  · cases e
    rename_i o
    cases o with
    | dict kvs => obtain ⟨a, vs, rfl, _⟩ := h; rfl
    | dictT kvs => obtain ⟨a, vs, rfl, _⟩ := h; rfl
    | exc x => obtain ⟨a, d, rfl, _⟩ := h; rfl
    | set S n => obtain ⟨a, rfl, _⟩ := h; rfl
    | scr ns => obtain ⟨a, rfl, _⟩ := h; rfl
    | excs n is => obtain ⟨a, vs, rfl, _⟩ := h; rfl
  · split at e
    · rename_i q; exact go _ (look_q S h q) e
    · rename_i d _ q
      refine go d (look_q S h q) ?_
      rw [← e]
      split
      · rename_i z _ w; exact absurd (Option.some.inj w) (by assumption)
      · rfl
      · rename_i w; cases w
    · cases e
theorem is_reads {rl : TE → TE} (neg : Bool) (hf : ∀ te σ H Q, te σ H (fun x H1 => Q (.bl (if neg then !decide (x = V.non) else decide (x = V.non))) H1) → rl te σ H Q) {K : PySem.W.Frag} {σ : L2.St} {H : Hp} {Q : VK} (q : tD K cl W (fIsN neg f) σ H Q) : rl (tD K cl W f) σ H Q := by
  obtain ⟨G, s, S, q⟩ := q
  refine hf _ _ _ _ ⟨G, s, S, out_mono (out_bind q) fun x G1 s1 H1 st1 S1 q1 v1 r1 => ?_⟩
  split at q1
  · rename_i b e
    have z := isNR_ok S1 r1 e
    have an := q1 G1 H1 Stp.refl S1 (.bl (if neg then !b else b)) (.bl _)
    rw [← z] at an
    exact an
  · exact q1.elim
theorem d_isN {j pos'} (ha : DE X cl W a f) : DE X cl W (.Compare a [.Is] [.Constant .none j pos'] pos) (fIsN false f) := pe_imp (pe_cmp (pc_isN ha) rfl) fun σ H Q q => is_reads (rl := tIsN) false (fun _ _ _ _ h => h) q
theorem d_notN {j pos'} (ha : DE X cl W a f) : DE X cl W (.Compare a [.IsNot] [.Constant .none j pos'] pos) (fIsN true f) := pe_imp (pe_cmp (pc_notN ha) rfl) fun σ H Q q => is_reads (rl := tNotN) true (fun _ _ _ _ h => h) q
theorem t_notN {j pos'} (ha : DE X cl W a f) : DT X cl W (.Compare a [.IsNot] [.Constant .none j pos'] pos) (fB (fIsN true f)) := pt_imp (pt_cmp (pc_notN ha) rfl) fun σ H Q q => is_reads (rl := tNotN) true (fun _ _ _ _ h => h) (test_of q)
theorem t_lt (ha : DE X cl W a f) (hb : DE X cl W b g) : DT X cl W (.Compare a [.Lt] [b] pos) (fB (fOp (lift2 ltO) f g)) := d_opT (fun h1 h2 => pt_cmpR op_lt h1 h2 (nomark _)) (ops_lift opd_lt) ha hb
theorem t_gt (ha : DE X cl W a f) (hb : DE X cl W b g) : DT X cl W (.Compare a [.Gt] [b] pos) (fB (fOp (lift2 gtO) f g)) := d_opT (fun h1 h2 => pt_cmpR op_gt h1 h2 (nomark _)) (ops_lift opd_gt) ha hb
theorem t_eq (hu : X.A.units + 64 < cLine) (ha : DE X cl W a f) (hb : DE X cl W b g) : DT X cl W (.Compare a [.Eq] [b] pos) (fB (fOp (lift2 eqO) f g)) := d_opT (fun h1 h2 => pt_cmpR (op_eqP hu) h1 h2 (nomark _)) (ops_lift opd_eq) ha hb
theorem t_ne (hu : X.A.units + 64 < cLine) (ha : DE X cl W a f) (hb : DE X cl W b g) : DT X cl W (.Compare a [.NotEq] [b] pos) (fB (fOp (lift2 neO) f g)) := d_opT (fun h1 h2 => pt_cmpR (op_neP hu) h1 h2 (nomark _)) (ops_lift opd_ne) ha hb
theorem t_in (hu : X.A.units + 64 < cLine) (hm : behindInMarks .In b = false) (ha : DE X cl W a f) (hb : DE X cl W b g) : DT X cl W (.Compare a [.In] [b] pos) (fB (fOp (lift2 inO) f g)) := d_opT (fun h1 h2 => pt_cmpR (op_inP hu) h1 h2 hm) (ops_lift opd_in) ha hb
theorem t_notIn (hu : X.A.units + 64 < cLine) (hm : behindInMarks .NotIn b = false) (ha : DE X cl W a f) (hb : DE X cl W b g) : DT X cl W (.Compare a [.NotIn] [b] pos) (fB (fOp (lift2 notInO) f g)) := d_opT (fun h1 h2 => pt_cmpR (op_notInP hu) h1 h2 hm) (ops_lift opd_notIn) ha hb
end
end DL

/-! DL6: statements, loops -/
noncomputable section
namespace DL
open PySem L2 PyProof.Rows
open Evl (Ex)
/-! ### a slot is set -/
def putS (i : Nat) (x : Sl) (s : DSt) : DSt := { s with d := s.d.set i x }
def store (i : Nat) (r : R) (s : DSt) : Option DSt := match r with
  | .val d => some (putS i (.val d) s)
  | .raw v => some (putS i (.raw v) s)
  | .ob o => some (putS i (.ob o) s)
  | .new ds => some (putS i (.own ds) s)
  | .slot j => match s.d[j]? with
    | some (.own ds) => some (putS i (.val (.list ds)) (putS j (.val (.list ds)) s))
    | some (.val d) => some (putS i (.val d) s)
    | _ => none
section
variable {K : PySem.W.Frag} {G H G0 H0 : Hp} {s s0 : DSt} {σ σ0 : L2.St}
theorem own_put {i j : Nat} {x : Sl} {v : V} {a : Addr} (hi : i < s.d.length) (hl : s.d.length = σ.length) : OwnAt (putS i x s) (σ.set i (some v)) j a → (j = i ∧ (∃ ds, x = .own ds) ∧ v = .ref a) ∨ (j ≠ i ∧ OwnAt s σ j a) := by
  rintro ⟨⟨ds, e⟩, h⟩
  by_cases q : j = i
  · subst q
    unfold putS at e
    simp only [List.getElem?_set_self hi] at e
    rw [List.getElem?_set_self (by omega)] at h
    cases e
    cases h
    exact .inl ⟨rfl, ⟨ds, rfl⟩, rfl⟩
  · unfold putS at e
    simp only [List.getElem?_set_ne (Ne.symm q)] at e
    rw [List.getElem?_set_ne (Ne.symm q)] at h
    exact .inr ⟨q, ⟨ds, e⟩, h⟩
theorem put_ok {i : Nat} {x : Sl} {v : V} (S : SA K G s σ H) (hi : i < s.d.length) (hx : SlOk K G H (some v) x) (ho : ∀ ds a, x = .own ds → v = .ref a → G a = none ∧ ¬ POwn s.w a ∧ ∀ j, j ≠ i → ¬ OwnAt s σ j a) : SA K G (putS i x s) (σ.set i (some v)) H := by
  refine ⟨by simp [putS, S.len], S.gh, fun j sl h => ?_, fun j k a h1 h2 => ?_, fun j a h => ?_, S.pw, fun j a h => ?_⟩
  · by_cases q : j = i
    · subst q
      simp only [putS, List.getElem?_set_self hi] at h
      cases h
      rw [List.getElem?_set_self (by rw [← S.len]; exact hi)]
      exact hx
    · simp only [putS, List.getElem?_set_ne (Ne.symm q)] at h
      rw [List.getElem?_set_ne (Ne.symm q)]
      exact S.slot j sl h
  · rcases own_put hi S.len h1 with ⟨e1, ⟨ds, e2⟩, e3⟩ | ⟨e1, h1⟩ <;> rcases own_put hi S.len h2 with ⟨f1, ⟨es, f2⟩, f3⟩ | ⟨f1, h2⟩
    · rw [e1, f1]
    · exact absurd h2 ((ho ds a e2 e3).2.2 k f1)
    · exact absurd h1 ((ho es a f2 f3).2.2 j e1)
    · exact S.inj j k a h1 h2
  · rcases own_put hi S.len h with ⟨e1, ⟨ds, e2⟩, e3⟩ | ⟨e1, h1⟩
    · exact (ho ds a e2 e3).1
    · exact S.ownG j a h1
  · rcases own_put hi S.len h with ⟨e1, ⟨ds, e2⟩, e3⟩ | ⟨e1, h1⟩
    · exact (ho ds a e2 e3).2.1
    · exact S.pne j a h1
theorem put_stp {i : Nat} {x : Sl} {v : V} (S : SA K G s σ H) (st : Stp G0 s0 σ0 H0 G s σ H) (hi : i < s.d.length) (ho : ∀ ds a, x = .own ds → v = .ref a → H0 a = none ∨ Own s σ a) : Stp G0 s0 σ0 H0 G (putS i x s) (σ.set i (some v)) H := by
  refine ⟨st.ex, st.keep, fun a z => ?_, st.dom, st.pw⟩
  rcases z with ⟨j, z⟩ | z
  · rcases own_put hi S.len z with ⟨e1, ⟨ds, e2⟩, e3⟩ | ⟨e1, h1⟩
    · rcases ho ds a e2 e3 with q | q
      · exact .inr q
      · exact st.own a q
    · exact st.own a (.inl ⟨j, h1⟩)
  · exact st.own a (.inr z)
theorem store_good {i : Nat} {r : R} {v : V} {s' : DSt} (S : SA K G s σ H) (st : Stp G0 s0 σ0 H0 G s σ H) (h : RRel K H0 G s σ H v r) (hi : i < s.d.length) (e : store i r s = some s') :
    ∃ G', Stp G0 s0 σ0 H0 G' s' (σ.set i (some v)) H ∧ SA K G' s' (σ.set i (some v)) H ∧ Ex G G' := by
  cases r with
  | val d => cases e; exact ⟨G, put_stp S st hi (by intro _ _ z; cases z), put_ok S hi ⟨v, rfl, h⟩ (by intro _ _ z; cases z), Ex.refl G⟩
  | ob o => cases e; exact ⟨G, put_stp S st hi (by intro _ _ z; cases z), put_ok S hi ⟨v, rfl, h⟩ (by intro _ _ z; cases z), Ex.refl G⟩
  | raw u =>
    cases e
    have h : v = u := h
    subst h
    exact ⟨G, put_stp S st hi (by intro _ _ z; cases z), put_ok S hi rfl (by intro _ _ z; cases z), Ex.refl G⟩
  | new ds =>
    cases e
    obtain ⟨a, xs, rfl, ha, hd, hg, h0, hn⟩ := h
    refine ⟨G, put_stp S st hi (fun es b z1 z2 => ?_), put_ok S hi ⟨a, xs, rfl, ha, hd⟩ (fun es b z1 z2 => ?_), Ex.refl G⟩
    · cases z2; exact .inl h0
    · cases z2; exact ⟨hg, fun z => hn (.inr z), fun j _ z => hn (.inl ⟨j, z⟩)⟩
  | slot j =>
    simp only [store] at e
    split at e
    · rename_i ds q
      cases e
      obtain ⟨a, xs, e1, ha, st', S', rp⟩ := slot_known S q
      have h' : σ[j]? = some (some v) := h
      rw [e1] at h'
      cases h'
      have hi' : i < ({ s with d := s.d.set j (.val (.list ds)) } : DSt).d.length := by simpa using hi
      exact ⟨_, put_stp S' (st.trans st') hi' (by intro _ _ z; cases z), put_ok S' hi' ⟨_, rfl, rp⟩ (by intro _ _ z; cases z), st'.ex⟩
    · rename_i d q
      cases e
      have h' : σ[j]? = some (some v) := h
      obtain ⟨u, e1, hd⟩ := S.slot j _ q
      rw [h'] at e1
      cases e1
      exact ⟨G, put_stp S st hi (by intro _ _ z; cases z), put_ok S hi ⟨v, rfl, hd⟩ (by intro _ _ z; cases z), Ex.refl G⟩
    · cases e
end
/-! ### flows -/
def fseq (f g : DSt → Flow) : DSt → Flow := fun s => match f s with
  | .next s' => g s'
  | x => x
def fnext : DSt → Flow := fun s => .next s
section
variable {K : PySem.W.Frag} {cl : String → Addr} {W : WX} {G H G' H' : Hp} {s s' : DSt} {σ σ' : L2.St}
theorem fout_shift {fl : Flow} {D : Ends} (st : Stp G s σ H G' s' σ' H') (h : FOut K cl W G s σ H fl D) : FOut K cl W G' s' σ' H' fl D := by
  cases fl with
  | next s2 => exact fun G2 σ2 H2 st2 S2 => h G2 σ2 H2 (st.trans st2) S2
  | brk s2 => exact fun G2 σ2 H2 st2 S2 => h G2 σ2 H2 (st.trans st2) S2
  | cnt s2 => exact fun G2 σ2 H2 st2 S2 => h G2 σ2 H2 (st.trans st2) S2
  | ret r s2 => exact fun v G2 σ2 H2 st2 S2 rr => h v G2 σ2 H2 (st.trans st2) S2 (rr.less st.dom)
  | err x s2 => exact fun c d G2 σ2 H2 st2 S2 xr => h c d G2 σ2 H2 (st.trans st2) S2 xr
  | stuck => exact h
def onRes {α : Type} (r : Res α) (g : α → DSt → Flow) : Flow := match r with
  | .ok a s => g a s
  | .err x s => .err x s
  | .stuck => .stuck
theorem fout_res {α : Type} {r : Res α} {g : α → DSt → Flow} {D : Ends} (h : FOut K cl W G s σ H (onRes r g) D) : Out K cl W G s σ H r fun a G1 s1 H1 => FOut K cl W G s σ H (g a s1) D := by
  cases r with
  | ok a s1 => exact fun G1 H1 st S1 => h
  | err x s1 => exact fun c d G1 H1 st S1 xr => h c d G1 σ H1 st S1 xr
  | stuck => exact h
end
section
variable {X : Cx} {cl : String → Addr} {W : WX} {e a b c : Expr} {es : List Expr} {f g : M R} {fs : M (List R)} {pos : Pos} {st : Stmt} {rest : List Stmt} {p q : DSt → Flow}
theorem ss_nil : DSs X cl W [] fnext := pss_imp pss_nil fun D σ H ⟨G, s, S, h⟩ => h G σ H Stp.refl S
theorem ss_cons (h1 : DS X cl W st p) (h2 : DSs X cl W rest q) : DSs X cl W (st :: rest) (fseq p q) := by
  refine pss_imp (pss_cons h1 h2) fun D σ H ⟨G, s, S, h⟩ => ⟨G, s, S, ?_⟩
  unfold fseq at h
  cases z : p s with
  | next s' =>
    rw [z] at h
    exact fun G1 σ1 H1 st1 S1 => ⟨G1, s', S1, fout_shift st1 h⟩
  | brk s' => rw [z] at h; exact h
  | cnt s' => rw [z] at h; exact h
  | ret r s' => rw [z] at h; exact h
  | err x s' => rw [z] at h; exact h
  | stuck => rw [z] at h; exact h
theorem ss_one (h1 : DS X cl W st p) : DSs X cl W [st] p := pss_one h1
def fbrk : DSt → Flow := fun s => .brk s
def fcnt : DSt → Flow := fun s => .cnt s
def fnever : DSt → Flow := fun _ => .stuck
theorem s_never : DS X cl W st fnever := ps_imp ps_never fun D σ H ⟨G, s, S, h⟩ => h
def fDrop (f : M R) : DSt → Flow := fun s => onRes (f s) fun _ s' => .next s'
theorem s_expr (h : DE X cl W e f) (hs : swapsWith e none pos.line X.env = pure false := by rfl) : DS X cl W (.Expr e pos) (fDrop f) := by
  refine ps_imp (ps_expr h hs) fun D σ H ⟨G, s, S, h⟩ => ⟨G, s, S, out_mono (fout_res h) fun r G1 s1 H1 st1 S1 k v rr => ?_⟩
  exact k G1 σ H1 st1 S1
def fRet (f : M R) : DSt → Flow := fun s => onRes (f s) fun r s' => .ret r s'
theorem s_ret (h : DE X cl W e f) : DS X cl W (.Return (some e) pos) (fRet f) := by
  refine ps_imp (ps_ret h) fun D σ H ⟨G, s, S, h⟩ => ⟨G, s, S, out_mono (fout_res h) fun r G1 s1 H1 st1 S1 k v rr => ?_⟩
  exact k v G1 σ H1 st1 S1 rr
def fRetN : DSt → Flow := fun s => .ret (.val .none) s
def fIfS (c : M Bool) (p q : DSt → Flow) : DSt → Flow := fun s => onRes (c s) fun b s' => if b then p s' else q s'
theorem s_if {c : Expr} {t : M Bool} {as bs : List Stmt} (hc : DT X cl W c t) (ha : DSs X cl W as p) (hb : DSs X cl W bs q) : DS X cl W (.If c as bs pos) (fIfS t p q) := by
  refine ps_imp (ps_if hc ha hb) fun D σ H ⟨G, s, S, h⟩ => ⟨G, s, S, out_mono (fout_res h) fun b G1 s1 H1 st1 S1 k => ?_⟩
  cases b with
  | true => exact ⟨G1, s1, S1, fout_shift st1 k⟩
  | false => exact ⟨G1, s1, S1, fout_shift st1 k⟩
def fSet (i : Nat) (f : M R) : DSt → Flow := fun s => onRes (f s) fun r s' => if i < s'.d.length then match store i r s' with
  | some s2 => .next s2
  | none => .stuck
  else .stuck
theorem set_reads {i : Nat} {D : Ends} {σ : L2.St} {H : Hp} {K : PySem.W.Frag} (q : tS K cl W (fSet i f) D σ H) : tAsg (tD K cl W f) (gName i) D σ H := by
  obtain ⟨G, s, S, h⟩ := q
  refine ⟨G, s, S, out_mono (fout_res h) fun r G1 s1 H1 st1 S1 k v rr => ?_⟩
  split at k
  · rename_i hi
    split at k
    · rename_i s2 e
      obtain ⟨G2, st2, S2, _⟩ := store_good S1 st1 rr hi e
      exact k G2 _ H1 st2 S2
    · exact k.elim
  · exact k.elim
theorem s_set {i : Nat} {x : Str} {pos' : Pos} (hN : X.N.Nodup) (hi : X.N[i]? = some x) (hx : Loc X.env.scope x) (he : DE X cl W e f) (hs : swapsWith e (some (.Name x pos')) pos.line X.env = pure false := by rfl) (hf : X.fn x = true ∨ X.env.scope.names.lookup x = some .local := by first | exact .inl rfl | exact .inr rfl | assumption) :
    DS X cl W (.Assign [.Name x pos'] e pos) (fSet i f) := ps_imp (ps_set hN hi hx he hs hf) fun D σ H q => set_reads q
end
end DL

/-! DL7: targets, what is walked, loops, comprehensions -/
noncomputable section
namespace DL
open PySem L2 PyProof.Rows
open Evl (Ex)
/-! ### targets -/
abbrev Bd := PyData → DSt → Option DSt
def GOk (K : PySem.W.Frag) (g : TG) (b : Bd) (js : List Nat) : Prop := ∀ (x : V) (d : PyData) (G : Hp) (s : DSt) (σ : L2.St) (H : Hp) (s' : DSt) (Q : L2.St → Hp → Prop), SA K G s σ H → Rp K G x d → b d s = some s' →
  (∀ σ', σ'.length = σ.length → (∀ i, i ∉ js → σ'[i]? = σ[i]?) → (∀ i : Nat, i ∉ js → s'.d[i]? = s.d[i]?) → s'.w = s.w → Stp G s σ H G s' σ' H → SA K G s' σ' H → Q σ' H) → g x σ H Q
def bName (i : Nat) : Bd := fun d s => if i < s.d.length then some (putS i (.val d) s) else none
theorem g_name {K : PySem.W.Frag} (i : Nat) : GOk K (gName i) (bName i) [i] := by
  intro x d G s σ H s' Q S rp e k
  unfold bName at e
  split at e
  · rename_i hi
    cases e
    refine k _ (by simp) (fun j hj => ?_) (fun j hj => ?_) rfl (put_stp S Stp.refl hi (by intro _ _ z; cases z)) (put_ok S hi ⟨x, rfl, rp⟩ (by intro _ _ z; cases z))
    · rw [List.getElem?_set_ne (fun z => hj (by simp [z]))]
    · simp only [putS]
      rw [List.getElem?_set_ne (fun z => hj (by simp [z]))]
  · cases e
abbrev Bds := List PyData → DSt → Option DSt
def GsOk (K : PySem.W.Frag) (g : TGs) (b : Bds) (js : List Nat) : Prop := ∀ (xs : List V) (ds : List PyData) (G : Hp) (s : DSt) (σ : L2.St) (H : Hp) (s' : DSt) (Q : L2.St → Hp → Prop), SA K G s σ H → RpAll K G xs ds → b ds s = some s' →
  (∀ σ', σ'.length = σ.length → (∀ i, i ∉ js → σ'[i]? = σ[i]?) → (∀ i : Nat, i ∉ js → s'.d[i]? = s.d[i]?) → s'.w = s.w → Stp G s σ H G s' σ' H → SA K G s' σ' H → Q σ' H) → g xs σ H Q
def bNil : Bds := fun ds s => match ds with
  | [] => some s
  | _ => none
def bCons (b : Bd) (bs : Bds) : Bds := fun ds s => match ds with
  | d :: r => match b d s with
    | some s' => bs r s'
    | none => none
  | [] => none
theorem g_nil {K : PySem.W.Frag} : GsOk K gNil bNil [] := by
  intro xs ds G s σ H s' Q S rp e k
  unfold bNil at e
  split at e
  · cases e
    cases rp
    exact ⟨rfl, k σ rfl (fun _ _ => rfl) (fun _ _ => rfl) rfl Stp.refl S⟩
  · cases e
theorem g_cons {K : PySem.W.Frag} {g : TG} {gs : TGs} {b : Bd} {bs : Bds} {js ks : List Nat} (h1 : GOk K g b js) (h2 : GsOk K gs bs ks) : GsOk K (gCons g gs) (bCons b bs) (js ++ ks) := by
  intro xs ds G s σ H s' Q S rp e k
  unfold bCons at e
  split at e
  · rename_i d r
    split at e
    · rename_i s1 e1
      cases rp with
      | cons rp1 rp2 =>
        refine ⟨_, _, rfl, h1 _ d G s σ H s1 _ S rp1 e1 fun σ1 l1 n1 m1 w1 st1 S1 => ?_⟩
        refine h2 _ r G s1 σ1 H s' _ S1 rp2 e fun σ2 l2 n2 m2 w2 st2 S2 => ?_
        exact k σ2 (l2.trans l1) (fun i hi => (n2 i fun z => hi (List.mem_append_right _ z)).trans (n1 i fun z => hi (List.mem_append_left _ z))) (fun i hi => (m2 i fun z => hi (List.mem_append_right _ z)).trans (m1 i fun z => hi (List.mem_append_left _ z))) (w2.trans w1) (st1.trans st2) S2
    · cases e
  · cases e
def bTup (n : Nat) (bs : Bds) : Bd := fun d s => match d with
  | .tuple ds => if ds.length = n then bs ds s else none
  | _ => none
theorem g_tup {K : PySem.W.Frag} {n : Nat} {gs : TGs} {bs : Bds} {js : List Nat} (h : GsOk K gs bs js) : GOk K (gTup K n gs) (bTup n bs) js := by
  intro x d G s σ H s' Q S rp e k
  unfold bTup at e
  split at e
  · split at e
    · rename_i ds hl
      cases rp with
      | tup hs ha => exact ⟨_, _, rfl, .of (S.gh _ _ hs), by rw [dps_len ha]; exact hl, h _ ds G s σ H s' Q S ha e k⟩
    · cases e
  · cases e
def bUnl (n : Nat) (bs : Bds) : Bd := fun d s => match d with
  | .list ds => if ds.length = n then bs ds s else none
  | _ => none
theorem g_unl {K : PySem.W.Frag} {n : Nat} {gs : TGs} {bs : Bds} {js : List Nat} (h : GsOk K gs bs js) : GOk K (gUnl K n gs) (bUnl n bs) js := by
  intro x d G s σ H s' Q S rp e k
  unfold bUnl at e
  split at e
  · split at e
    · rename_i ds hl
      cases rp with
      | lst hs ha => exact ⟨_, _, rfl, .of (S.gh _ _ hs), by rw [dps_len ha]; exact hl, h _ ds G s σ H s' Q S ha e k⟩
    · cases e
  · cases e

/-! ### what is walked -/
def ItOk (K : PySem.W.Frag) (J : It) (ds : List PyData) (G : Hp) : Prop := ∀ (G' : Hp) (s' : DSt) (σ' : L2.St) (H' : Hp), Ex G G' → SA K G' s' σ' H' → ∀ i,
  (∀ d, ds[i]? = some d → J.go i H' ∧ ∀ x H2, J.yld i H' x H2 → ∃ G2, Stp G' s' σ' H' G2 s' σ' H2 ∧ SA K G2 s' σ' H2 ∧ Rp K G2 x d) ∧ (ds.length ≤ i → J.stop i H')
def tI (K : PySem.W.Frag) (cl : String → Addr) (W : WX) (f : M (List PyData)) : TI := fun σ H R => ∃ G s, SA K G s σ H ∧ Out K cl W G s σ H (f s) fun ds G' s' H' => ∀ J, ItOk K J ds G' → R J H'
section
variable {X : Cx} {cl : String → Addr} {W : WX} {e a b c tg iter : Expr} {es : List Expr} {f g : M R} {fs : M (List R)} {fi : M (List PyData)} {pos : Pos}
abbrev DI (X : Cx) (cl : String → Addr) (W : WX) (tg e : Expr) (f : M (List PyData)) : Prop := PI X tg e (tI X.K cl W f)
theorem pi_imp {t t' : TI} (h : PI X tg e t) (i : ∀ σ H R, t' σ H R → t σ H R) : PI X tg e t' := ⟨fun pins s σ H R I q => h.run pins s σ H R I (i σ H R q)⟩
theorem it_list {K : PySem.W.Frag} {G : Hp} {a : Addr} {xs : List V} {ds : List PyData} (h : G a = some (.lst xs)) (hd : RpAll K G xs ds) (uq : ∀ (G' : Hp) (s' : DSt) (σ' : L2.St) (H' : Hp), Ex G G' → SA K G' s' σ' H' → H' a = some (.lst xs)) : ItOk K (Itl K a) ds G := by
  intro G' s' σ' H' ex S i
  have hH := uq G' s' σ' H' ex S
  refine ⟨fun d e => ?_, fun hl => ⟨xs, .of hH, by rw [dps_len hd]; exact hl⟩⟩
  have hi : i < xs.length := by rw [dps_len hd]; exact (List.getElem?_eq_some_iff.mp e).1
  refine ⟨⟨xs, xs[i], .of hH, by simp [hi]⟩, fun x H2 ⟨e2, y⟩ => ?_⟩
  subst e2
  obtain ⟨d', e', r⟩ := dps_get hd (y xs (.of hH))
  rw [e] at e'
  cases e'
  exact ⟨G', Stp.refl, S, dp_mono ex _ _ r⟩
theorem it_tup {K : PySem.W.Frag} {G : Hp} {a : Addr} {xs : List V} {ds : List PyData} (h : SqT K G a xs) (hd : RpAll K G xs ds) : ItOk K (Itt K a) ds G := by
  intro G' s' σ' H' ex S i
  have hH := Evl.ex_t S.gh (Evl.ex_t ex h)
  refine ⟨fun d e => ?_, fun hl => ⟨xs, hH, by rw [dps_len hd]; exact hl⟩⟩
  have hi : i < xs.length := by rw [dps_len hd]; exact (List.getElem?_eq_some_iff.mp e).1
  refine ⟨⟨xs, xs[i], hH, by simp [hi]⟩, fun x H2 ⟨e2, y⟩ => ?_⟩
  subst e2
  obtain ⟨d', e', r⟩ := dps_get hd (y xs hH)
  rw [e] at e'
  cases e'
  exact ⟨G', Stp.refl, S, dp_mono ex _ _ r⟩
def iSeq (K : PySem.W.Frag) (tl : TE) : TI := fun σ H R => tl σ H fun x H1 => (∃ a, x = .ref a ∧ (∃ xs, SqL K H1 a xs) ∧ R (Itl K a) H1) ∨ ∃ a, x = .ref a ∧ (∃ xs, SqT K H1 a xs) ∧ R (Itt K a) H1
theorem pi_seq {l : Expr} {tl : TE} (hl : PE X l tl) : PI X tg l (iSeq X.K tl) := by
  refine ⟨fun pins s σ H R I h => ?_⟩
  refine thn (hl.run pins s σ H _ I h) fun v s1 ⟨x, H1, I1, r1, q1⟩ => ?_
  rcases q1 with ⟨a, e, ⟨xs, hq⟩, q⟩ | ⟨a, e, ⟨xs, hq⟩, q⟩
  · subst e
    cases r1
    obtain ⟨its, rv, p, hz⟩ := I1.list hq
    refine wpAny_pyIter_list p.isList ?_
    refine ⟨s1.heap.objs.size, [s1.heap.objs.size], _, _, H1, rfl, I1.kept (t' := s1.toks) fun b o e => Heap.get?_push_of_some _ e, turn_list a _, ⟨_, Heap.get?_push_size _ rfl, rfl, rfl⟩, fun b hb => ?_, q⟩
    have e : b = s1.heap.objs.size := by simpa using hb
    subst e
    exact I1.fpOk (Nat.le_refl _) (I1.hok.fresh (Nat.le_refl _))
  · subst e
    cases r1
    obtain ⟨its, rv, p, hz⟩ := I1.tuple hq
    refine wpAny_pyIter_tuple (show s1.heap.IsTuple a its.toArray from p) ?_
    refine ⟨s1.heap.objs.size, [s1.heap.objs.size], _, _, H1, rfl, I1.kept (t' := s1.toks) fun b o e => Heap.get?_push_of_some _ e, turn_tuple a _, ⟨_, Heap.get?_push_size _ rfl, rfl, rfl⟩, fun b hb => ?_, q⟩
    have e : b = s1.heap.objs.size := by simpa using hb
    subst e
    exact I1.fpOk (Nat.le_refl _) (I1.hok.fresh (Nat.le_refl _))
def fLstI (f : M R) : M (List PyData) := bnd f fun r => bnd (fEsc r) fun r' s => match r' with
  | .val (.list ds) => .ok ds s
  | .val (.tuple ds) => .ok ds s
  | _ => .stuck
theorem i_list (h : DE X cl W e f) : DI X cl W tg e (fLstI f) := by
  refine pi_imp (pi_seq h) fun σ H R ⟨G, s, S, q⟩ => ?_
  refine ⟨G, s, S, out_mono (out_esc q) fun r G1 s1 H1 st1 S1 k v rr => ?_⟩
  obtain ⟨G2, s2, r2, st2, S2, ar, ex, k2⟩ := k v rr
  split at k2
  · rename_i ds
    cases (show Rp X.K G2 v (.list ds) from ar) with
    | lst hs ha => exact .inl ⟨_, rfl, ⟨_, .of (S2.gh _ _ hs)⟩, k2 G2 H1 Stp.refl S2 _ (it_list hs ha fun G' s' σ' H' ex' S' => S'.gh _ _ (ex' _ _ hs))⟩
  · rename_i ds
    cases (show Rp X.K G2 v (.tuple ds) from ar) with
    | tup hs ha => exact .inr ⟨_, rfl, ⟨_, .of (S2.gh _ _ hs)⟩, k2 G2 H1 Stp.refl S2 _ (it_tup (.of hs) ha)⟩
  · exact k2.elim
def fTupI (f : M R) : M (List PyData) := bnd f fun r s => match look r s with
  | some (.tuple ds) => .ok ds s
  | _ => .stuck
def rangeD (lo : Int) (n : Nat) : List PyData := (List.range n).map fun (k : Nat) => PyData.int (lo + (k : Int))
theorem it_range {K : PySem.W.Frag} {G : Hp} {lo : Int} {n : Nat} : ItOk K (Itr lo n) (rangeD lo n) G := by
  intro G' s' σ' H' ex S i
  refine ⟨fun d e => ?_, fun hl => show n ≤ i by simpa [rangeD] using hl⟩
  have hi : i < n := by have := (List.getElem?_eq_some_iff.mp e).1; simpa [rangeD] using this
  have e2 : d = .int (lo + (i : Int)) := by simp [rangeD, hi] at e; exact e.symm
  subst e2
  exact ⟨hi, fun x H2 ⟨e1, e3⟩ => by subst e1 e3; exact ⟨G', Stp.refl, S, .int _⟩⟩
def fRng1 (fs : M (List R)) : M (List PyData) := bnd fs fun rs s => match rs with
  | [r] => match look r s with
    | some (.int j) => if inB j then .ok (rangeD 0 j.toNat) s else .stuck
    | _ => .stuck
  | _ => .stuck
theorem i_range1 {p pos : Pos} (hg : Gl X "range") (hm : X.mg "range" = none) (ha : DA X cl W [a] fs) (hs : starEach [a] X.env = [(false, eval a X.env)] := by rfl) : DI X cl W tg (.Call (.Name "range" p) [a] [] pos) (fRng1 fs) := by
  refine pi_imp (pi_range1 hg hm ha hs) fun σ H R ⟨G, s, S, q⟩ => ?_
  refine ⟨G, s, S, out_mono (out_bind q) fun rs G1 s1 H1 st1 S1 k vs rr => ?_⟩
  split at k
  · rename_i r
    split at k
    · rename_i j e
      split at k
      · rename_i hb
        cases rr with
        | cons r1 r2 =>
          cases r2
          obtain rfl := dq_int (look_q S1 r1 e)
          exact ⟨j, rfl, hb.1, hb.2, k G1 H1 Stp.refl S1 _ it_range⟩
      · exact k.elim
    · exact k.elim
  · exact k.elim
def fRng2 (fs : M (List R)) : M (List PyData) := bnd fs fun rs s => match rs with
  | [r, r2] => match look r s, look r2 s with
    | some (.int i), some (.int j) => if inB i ∧ inB j then .ok (rangeD i (j - i).toNat) s else .stuck
    | _, _ => .stuck
  | _ => .stuck
theorem i_range2 {p pos : Pos} (hg : Gl X "range") (hm : X.mg "range" = none) (ha : DA X cl W [a, b] fs) (hs : starEach [a, b] X.env = [(false, eval a X.env), (false, eval b X.env)] := by rfl) (hs2 : starEach [b] X.env = [(false, eval b X.env)] := by rfl) :
    DI X cl W tg (.Call (.Name "range" p) [a, b] [] pos) (fRng2 fs) := by
  refine pi_imp (pi_range2 hg hm ha hs hs2) fun σ H R ⟨G, s, S, q⟩ => ?_
  refine ⟨G, s, S, out_mono (out_bind q) fun rs G1 s1 H1 st1 S1 k vs rr => ?_⟩
  split at k
  · split at k
    · rename_i i j e1 e2
      split at k
      · rename_i hb
        cases rr with
        | cons r1 r2 =>
          cases r2 with
          | cons r2 r3 =>
            cases r3
            obtain rfl := dq_int (look_q S1 r1 e1)
            obtain rfl := dq_int (look_q S1 r2 e2)
            exact ⟨i, j, rfl, ⟨hb.1.1, hb.1.2, hb.2.1, hb.2.2⟩, k G1 H1 Stp.refl S1 _ it_range⟩
      · exact k.elim
    · exact k.elim
  · exact k.elim
def enumD (ds : List PyData) : List PyData := ds.zipIdx.map fun p => .tuple [.int (p.2 : Int), p.1]
theorem it_enum {K : PySem.W.Frag} {G : Hp} {a : Addr} {xs : List V} {ds : List PyData} (h : G a = some (.lst xs)) (hd : RpAll K G xs ds) : ItOk K (Ite K a) (enumD ds) G := by
  intro G' s' σ' H' ex S i
  have hH : H' a = some (.lst xs) := S.gh _ _ (ex _ _ h)
  refine ⟨fun d e => ?_, fun hl => ⟨xs, .of hH, by rw [dps_len hd]; simpa [enumD] using hl⟩⟩
  have hi : i < ds.length := by have := (List.getElem?_eq_some_iff.mp e).1; simpa [enumD] using this
  have hx : i < xs.length := by rw [dps_len hd]; exact hi
  have e2 : d = .tuple [.int (i : Int), ds[i]] := by
    simp [enumD, hi] at e
    exact e.symm
  subst e2
  refine ⟨⟨xs, xs[i], .of hH, by simp [hx]⟩, fun x H2 ⟨T, y, e3, hT, e4, hy⟩ => ?_⟩
  subst e3 e4
  obtain ⟨d', e', r⟩ := dps_get hd (hy xs (.of hH))
  have e5 : d' = ds[i] := by rw [List.getElem?_eq_getElem hi] at e'; exact (Option.some.inj e').symm
  subst e5
  obtain ⟨st, S2⟩ := new_known (.tup [.int (i : Nat), y]) S hT
  exact ⟨_, st, S2, .tup upd_same (.cons (.int _) (.cons (dp_mono (ex.trans st.ex) _ _ r) .nil))⟩
def fEnum (fs : M (List R)) : M (List PyData) := bnd fs fun rs s => match rs with
  | [.val (.list ds)] => .ok (enumD ds) s
  | _ => .stuck
theorem i_enum {p pos tpos : Pos} {elts : List Expr} {kk : Nat} (hg : Gl X "enumerate") (hm : X.mg "enumerate" = none) (ha : DAe X cl W [e] fs) (hs : starEach [e] X.env = [(false, eval e X.env)] := by rfl) :
    DI X cl W (.Tuple elts kk tpos) (.Call (.Name "enumerate" p) [e] [] pos) (fEnum fs) := by
  refine pi_imp (pi_enum hg hm ha hs) fun σ H R ⟨G, s, S, q⟩ => ?_
  refine ⟨G, s, S, out_mono (out_bind q) fun rs G1 s1 H1 st1 S1 k vs rr => ?_⟩
  split at k
  · rename_i ds
    cases rr with
    | cons r1 r2 =>
      cases r2
      cases (show Rp X.K G1 _ (.list ds) from r1) with
      | lst h ha => exact ⟨_, _, rfl, .of (S1.gh _ _ h), k G1 H1 Stp.refl S1 _ (it_enum h ha)⟩
  · exact k.elim
def zipD (ds es : List PyData) : List PyData := (ds.zip es).map fun p => .tuple [p.1, p.2]
theorem it_zip {K : PySem.W.Frag} {G : Hp} {a b : Addr} {xs ys : List V} {ds es : List PyData} (h : G a = some (.lst xs)) (hd : RpAll K G xs ds) (h2 : G b = some (.lst ys)) (hd2 : RpAll K G ys es) : ItOk K (Itz K a b) (zipD ds es) G := by
  intro G' s' σ' H' ex S i
  have hH : H' a = some (.lst xs) := S.gh _ _ (ex _ _ h)
  have hH2 : H' b = some (.lst ys) := S.gh _ _ (ex _ _ h2)
  refine ⟨fun d e => ?_, fun hl => ⟨xs, ys, .of hH, .of hH2, ?_⟩⟩
  · have hi : i < ds.length ∧ i < es.length := by have := (List.getElem?_eq_some_iff.mp e).1; simp [zipD] at this; omega
    have hx : i < xs.length := by rw [dps_len hd]; exact hi.1
    have hy : i < ys.length := by rw [dps_len hd2]; exact hi.2
    have e2 : d = .tuple [ds[i], es[i]] := by
      have hz : i < (ds.zip es).length := by simp; omega
      simp only [zipD, List.getElem?_map, List.getElem?_eq_getElem hz, Option.map_some, List.getElem_zip] at e
      exact (Option.some.inj e).symm
    subst e2
    refine ⟨⟨xs, ys, xs[i], ys[i], .of hH, .of hH2, by simp [hx], by simp [hy]⟩, fun x H2 ⟨T, y, z, e3, hT, e4, q1, q2⟩ => ?_⟩
    subst e3 e4
    obtain ⟨d', e', r⟩ := dps_get hd (q1 xs (.of hH))
    obtain ⟨d2, e5, r2⟩ := dps_get hd2 (q2 ys (.of hH2))
    have e6 : d' = ds[i] := by rw [List.getElem?_eq_getElem hi.1] at e'; exact (Option.some.inj e').symm
    have e7 : d2 = es[i] := by rw [List.getElem?_eq_getElem hi.2] at e5; exact (Option.some.inj e5).symm
    subst e6 e7
    obtain ⟨st, S2⟩ := new_known (.tup [y, z]) S hT
    exact ⟨_, st, S2, .tup upd_same (.cons (dp_mono (ex.trans st.ex) _ _ r) (.cons (dp_mono (ex.trans st.ex) _ _ r2) .nil))⟩
  · rw [dps_len hd, dps_len hd2]
    simp [zipD] at hl
    omega
def fZip (fs : M (List R)) : M (List PyData) := bnd fs fun rs s => match rs with
  | [.val (.list ds), .val (.list es)] => .ok (zipD ds es) s
  | _ => .stuck
theorem i_zip {e2 : Expr} {p pos tpos : Pos} {elts : List Expr} {kk : Nat} (hg : Gl X "zip") (hm : X.mg "zip" = none) (ha : DAe X cl W [e, e2] fs) (h : ∀ {ta : TA}, PA X [e, e2] ta → PI X (.Tuple elts kk tpos) (.Call (.Name "zip" p) [e, e2] [] pos) (iZip X.K ta) := by intro ta h; exact pi_zip (by rfl) (by assumption) h) :
    DI X cl W (.Tuple elts kk tpos) (.Call (.Name "zip" p) [e, e2] [] pos) (fZip fs) := by
  refine pi_imp (h ha) fun σ H R ⟨G, s, S, q⟩ => ?_
  refine ⟨G, s, S, out_mono (out_bind q) fun rs G1 s1 H1 st1 S1 k vs rr => ?_⟩
  split at k
  · rename_i ds es
    cases rr with
    | cons r1 r2 =>
      cases r2 with
      | cons r2 r3 =>
        cases r3
        cases (show Rp X.K G1 _ (.list ds) from r1) with
        | lst h ha =>
          cases (show Rp X.K G1 _ (.list es) from r2) with
          | lst h' ha' => exact ⟨_, _, _, _, rfl, .of (S1.gh _ _ h), .of (S1.gh _ _ h'), k G1 H1 Stp.refl S1 _ (it_zip h ha h' ha')⟩
  · exact k.elim
end
end DL

/-! DL8: loops, comprehensions -/
noncomputable section
namespace DL
open PySem L2 PyProof.Rows
open Evl (Ex)
def loopF (b : Bd) (p : DSt → Flow) : List PyData → DSt → Flow
  | [], s => .next s
  | d :: ds, s => match b d s with
    | none => .stuck
    | some s1 => match p s1 with
      | .next s2 => loopF b p ds s2
      | .cnt s2 => loopF b p ds s2
      | .brk s2 => .next s2
      | .ret r s2 => .ret r s2
      | .err x s2 => .err x s2
      | .stuck => .stuck
def fFor (fi : M (List PyData)) (b : Bd) (p : DSt → Flow) : DSt → Flow := fun s => onRes (fi s) fun ds s' => loopF b p ds s'
def whileF (c : M Bool) (p : DSt → Flow) : Nat → DSt → Flow
  | 0, _ => .stuck
  | n + 1, s => onRes (c s) fun t s1 => if t then match p s1 with
      | .next s2 => whileF c p n s2
      | .cnt s2 => whileF c p n s2
      | .brk s2 => .next s2
      | .ret r s2 => .ret r s2
      | .err x s2 => .err x s2
      | .stuck => .stuck
    else .next s1
section
variable {X : Cx} {cl : String → Addr} {W : WX} {e a b c tg iter : Expr} {es : List Expr} {f g : M R} {fs : M (List R)} {fi : M (List PyData)} {pos : Pos} {p q : DSt → Flow}
theorem s_for {body : List Stmt} {gg : TG} {bd : Bd} {js : List Nat} (hp : PassesOwn (model X.prog X.w) X.A X.env X.xe) (hc : X.calm = true) (hi : DI X cl W tg iter fi) (hg : PG X tg gg) (ho : GOk X.K gg bd js) (hb : DSs X cl W body p)
    (hs : ∀ x, foldedSetIterable iter X.env x = pure x := by intro _; rfl) : DS X cl W (.For tg iter body [] pos) (fFor fi bd p) := by
  refine ps_imp (ps_for hp hc hi hg hb hs) fun D σ H ⟨G, s, S, h⟩ => ⟨G, s, S, out_mono (fout_res h) fun ds G1 s1 H1 st1 S1 k J hJ => ?_⟩
  have k := fout_shift st1 k
  refine ⟨fun i m σ2 H2 => ∃ G2 s2, SA X.K G2 s2 σ2 H2 ∧ Ex G1 G2 ∧ m = ds.length - i ∧ i ≤ ds.length ∧ FOut X.K cl W G2 s2 σ2 H2 (loopF bd p (ds.drop i) s2) D, ⟨ds.length, G1, s1, S1, Ex.refl G1, by simp, Nat.zero_le _, by simpa using k⟩, ?_⟩
  rintro i m σ2 H2 ⟨G2, s2, S2, ex2, rfl, hi, k2⟩
  obtain ⟨j1, j2⟩ := hJ G2 s2 σ2 H2 ex2 S2 i
  by_cases hl : i < ds.length
  · obtain ⟨go, yl⟩ := j1 ds[i] (List.getElem?_eq_getElem hl)
    rw [List.drop_eq_getElem_cons hl] at k2
    refine .inr ⟨go, fun σ3 H3 => ∃ G3 s3, SA X.K G3 s3 σ3 H3 ∧ Ex G1 G3 ∧ FOut X.K cl W G3 s3 σ3 H3 (loopF bd p (ds.drop (i + 1)) s3) D, fun σ3 H3 ⟨G3, s3, S3, ex3, k3⟩ => ⟨ds.length - (i + 1), by omega, G3, s3, S3, ex3, rfl, hl, k3⟩, fun x H3 y => ?_⟩
    obtain ⟨G3, st3, S3, rp⟩ := yl x H3 y
    unfold loopF at k2
    cases q : bd ds[i] s2 with
    | none => rw [q] at k2; exact k2.elim
    | some s4 =>
      rw [q] at k2
      refine ho x ds[i] G3 s2 σ2 H3 s4 _ S3 rp q fun σ4 l4 n4 m4 w4 st4 S4 => ⟨G3, s4, S4, ?_⟩
      have st34 := st3.trans st4
      have k2 := fout_shift st34 k2
      have ex4 := ex2.trans st34.ex
      dsimp only at k2 ⊢
      cases z : p s4 with
      | next s5 => rw [z] at k2; exact fun G5 σ5 H5 st5 S5 => ⟨G5, s5, S5, ex4.trans st5.ex, fout_shift st5 k2⟩
      | cnt s5 => rw [z] at k2; exact fun G5 σ5 H5 st5 S5 => ⟨G5, s5, S5, ex4.trans st5.ex, fout_shift st5 k2⟩
      | brk s5 => rw [z] at k2; exact fun G5 σ5 H5 st5 S5 => k2 G5 σ5 H5 st5 S5
      | ret r s5 => rw [z] at k2; exact k2
      | err x s5 => rw [z] at k2; exact k2
      | stuck => rw [z] at k2; exact k2
  · have e : i = ds.length := by omega
    subst e
    rw [List.drop_length] at k2
    exact .inl ⟨j2 (Nat.le_refl _), k2 G2 σ2 H2 Stp.refl S2⟩
def fAsgB (f : M R) (bd : Bd) : DSt → Flow := fun s => onRes (bnd f fEsc s) fun r s' => match r with
  | .val d => match bd d s' with
    | some s2 => .next s2
    | none => .stuck
  | _ => .stuck
theorem out_esc1 {K : PySem.W.Frag} {G : Hp} {s : DSt} {σ : L2.St} {H : Hp} {f : Res R} {k : R → Hp → DSt → Hp → Prop} (h : Out K cl W G s σ H (f.bind fEsc) k) :
    Out K cl W G s σ H f fun r G1 s1 H1 => ∀ v, RRel K H G1 s1 σ H1 v r → ∃ G2 s2 r2, Stp G s σ H G2 s2 σ H1 ∧ SA K G2 s2 σ H1 ∧ AR K G2 v r2 ∧ Ex G1 G2 ∧ esc r s1 = some (r2, s2) ∧ k r2 G2 s2 H1 := by
  cases f with
  | ok r s1 =>
    intro G1 H1 st S1 v rr
    have h : Out K cl W G s σ H (fEsc r s1) k := h
    unfold fEsc at h
    cases e : esc r s1 with
    | none => rw [e] at h; exact h.elim
    | some p =>
      obtain ⟨r2, s2⟩ := p
      rw [e] at h
      obtain ⟨G2, st2, S2, ex, ar⟩ := esc_ok S1 st rr e
      exact ⟨G2, s2, r2, st2, S2, ar, ex, rfl, h G2 H1 st2 S2⟩
  | err x s1 => exact h
  | stuck => exact h
theorem s_asgB {gg : TG} {bd : Bd} {js : List Nat} (he : DE X cl W e f) (hg : PG X tg gg) (ho : GOk X.K gg bd js) (hs : swapsWithSole [tg] e pos.line X.env = pure false := by rfl) (hw : swappedStores [tg] e X.env = pure none := by rfl)
    (h1 : (assignEach [tg] X.env).map (·.2) = [assign tg X.env] := by rfl) : DS X cl W (.Assign [tg] e pos) (fAsgB f bd) := by
  refine ps_imp (ps_asg he hg hs hw h1) fun D σ H ⟨G, s, S, h⟩ => ⟨G, s, S, ?_⟩
  have h' : Out X.K cl W G s σ H ((f s).bind fEsc) fun r G2 s2 H1 => ∀ v, AR X.K G2 v r → gg v σ H1 D.nx := by
    have h := fout_res h
    refine out_mono h fun r G1 s1 H1 st1 S1 k v ar => ?_
    split at k
    · rename_i d
      split at k
      · rename_i s2 e
        exact ho v d G1 s1 σ H1 s2 _ S1 ar e fun σ2 _ _ _ _ st2 S2 => k G1 σ2 H1 (st1.trans st2) S2
      · exact k.elim
    · exact k.elim
  refine out_mono (out_esc1 h') fun r G1 s1 H1 st1 S1 k v rr => ?_
  obtain ⟨G2, s2, r2, st2, S2, ar, ex, _, k2⟩ := k v rr
  exact k2 v ar

/-! ### comprehensions -/
def putBack (vs : List Nat) (old new : List Sl) : List Sl := vs.foldl (fun l v => l.set v (old.getD v .no)) new
def blank (vs : List Nat) (d : List Sl) : List Sl := vs.foldl (fun l v => l.set v .no) d
def noOwn (vs : List Nat) (d : List Sl) : Bool := vs.all fun v => match d[v]? with
  | some (.own _) => false
  | _ => true
def nerr {α : Type} (r : Res α) : Res α := match r with
  | .err _ _ => .stuck
  | r => r
def loopC (b : Bd) (ft : M Bool) (fe : M R) (vs : List Nat) : List PyData → List PyData → M (List PyData)
  | [], acc, s => .ok acc s
  | d :: ds, acc, s => if noOwn vs s.d then match b d { s with d := blank vs s.d } with
      | none => .stuck
      | some s1 => (nerr (ft s1)).bind fun t s2 => if t then (nerr (bnd fe fEsc s2)).bind fun r s3 => match r with
            | .val x => loopC b ft fe vs ds (acc ++ [x]) { s3 with d := putBack vs s.d s3.d }
            | _ => .stuck
          else loopC b ft fe vs ds acc { s2 with d := putBack vs s.d s2.d }
    else .stuck
def fLc (fi : M (List PyData)) (b : Bd) (ft : M Bool) (fe : M R) (vs : List Nat) : M R := bnd fi fun ds => bnd (fun s => if leS (ds.length) then loopC b ft fe vs ds [] s else .stuck) fun acc => ret (.new acc)
theorem blank_get (d : List Sl) (i : Nat) : ∀ vs : List Nat, (blank vs d)[i]? = if i ∈ vs then (if i < d.length then some .no else none) else d[i]? := by
  intro vs
  unfold blank
  induction vs generalizing d with
  | nil => simp
  | cons v vs ih =>
    rw [List.foldl_cons, ih]
    by_cases h : i ∈ vs
    · simp [h]
    · by_cases hv : i = v
      · subst hv; simp [h, List.getElem?_set]
      · simp [h, hv, List.getElem?_set_ne (Ne.symm hv)]
theorem blank_len (d : List Sl) : ∀ vs : List Nat, (blank vs d).length = d.length := by
  intro vs
  unfold blank
  induction vs generalizing d with
  | nil => rfl
  | cons v vs ih => rw [List.foldl_cons, ih]; simp
theorem back_len (old new : List Sl) : ∀ vs : List Nat, (putBack vs old new).length = new.length := by
  intro vs
  unfold putBack
  induction vs generalizing new with
  | nil => rfl
  | cons v vs ih => rw [List.foldl_cons, ih]; simp
theorem back_get (old new : List Sl) (i : Nat) : ∀ vs : List Nat, (putBack vs old new)[i]? = if i ∈ vs then (if i < new.length then some (old.getD i .no) else none) else new[i]? := by
  intro vs
  unfold putBack
  induction vs generalizing new with
  | nil => simp
  | cons v vs ih =>
    rw [List.foldl_cons, ih]
    by_cases h : i ∈ vs
    · simp [h]
    · by_cases hv : i = v
      · subst hv; simp [h, List.getElem?_set]
      · simp [h, hv, List.getElem?_set_ne (Ne.symm hv)]
theorem wipe_get (σ : L2.St) (i : Nat) : ∀ vs : List Nat, (wipe σ vs)[i]? = if i ∈ vs then (if i < σ.length then some none else none) else σ[i]? := by
  intro vs
  induction vs with
  | nil => simp [wipe]
  | cons v vs ih =>
    unfold wipe
    by_cases hv : i = v
    · subst hv
      simp [List.getElem?_set, wipe_length]
    · rw [List.getElem?_set_ne (Ne.symm hv), ih]
      simp [hv]
theorem wipe_same {σ σ' : L2.St} {vs : List Nat} (hl : σ'.length = σ.length) (h : ∀ i, i ∉ vs → σ'[i]? = σ[i]?) : wipe σ' vs = wipe σ vs := by
  apply List.ext_getElem?
  intro i
  rw [wipe_get, wipe_get, hl]
  by_cases q : i ∈ vs
  · simp [q]
  · simp [q, h i q]
theorem wipe_wipe (σ : L2.St) (vs : List Nat) : wipe (wipe σ vs) vs = wipe σ vs := wipe_same (wipe_length _ _) fun i hi => by rw [wipe_get]; simp [hi]
section
variable {K : PySem.W.Frag} {G H : Hp} {s : DSt} {σ : L2.St}
theorem own_blank {vs : List Nat} {i : Nat} {a : Addr} (h : OwnAt { s with d := blank vs s.d } (wipe σ vs) i a) : OwnAt s σ i a ∧ i ∉ vs := by
  obtain ⟨⟨ds, e⟩, h⟩ := h
  simp only [blank_get] at e
  by_cases q : i ∈ vs
  · rw [if_pos q] at e; split at e <;> cases e
  · rw [if_neg q] at e
    rw [wipe_get, if_neg q] at h
    exact ⟨⟨⟨ds, e⟩, h⟩, q⟩
theorem sa_blank (vs : List Nat) (S : SA K G s σ H) (hn : noOwn vs s.d = true) : Stp G s σ H G { s with d := blank vs s.d } (wipe σ vs) H ∧ SA K G { s with d := blank vs s.d } (wipe σ vs) H := by
  refine ⟨⟨Ex.refl G, fun a o h _ => ⟨h, rfl⟩, fun a z => .inl ?_, fun a h => h, fun a h => h⟩, ⟨by simp [blank_len, wipe_length, S.len], S.gh, fun i sl h => ?_, fun i j a h1 h2 => S.inj i j a (own_blank h1).1 (own_blank h2).1, fun i a h => S.ownG i a (own_blank h).1, S.pw, fun i a h => S.pne i a (own_blank h).1⟩⟩
  · rcases z with ⟨i, z⟩ | z
    · exact .inl ⟨i, (own_blank z).1⟩
    · exact .inr z
  · simp only [blank_get] at h
    by_cases q : i ∈ vs
    · rw [if_pos q] at h
      split at h
      · cases h; trivial
      · cases h
    · rw [if_neg q] at h
      rw [wipe_get, if_neg q]
      exact S.slot i sl h
theorem sa_back {G2 H2 : Hp} {s2 : DSt} {σ2 : L2.St} {vs : List Nat} (S : SA K G s σ H) (hn : noOwn vs s.d = true) (S2 : SA K G2 s2 σ2 H2) (ex : Ex G G2) (hw : wipe σ2 vs = wipe σ vs) :
    SA K G2 { s2 with d := putBack vs s.d s2.d } σ H2 ∧ ∀ a, Own { s2 with d := putBack vs s.d s2.d } σ a → Own s2 σ2 a := by
  have hl : σ2.length = σ.length := by rw [← wipe_length σ2 vs, hw, wipe_length]
  have hs : ∀ i, i ∉ vs → σ2[i]? = σ[i]? := fun i hi => by
    have := congrArg (fun l : L2.St => l[i]?) hw
    simp only [wipe_get, if_neg hi] at this
    exact this
  have ho : ∀ i a, OwnAt { s2 with d := putBack vs s.d s2.d } σ i a → OwnAt s2 σ2 i a := by
    rintro i a ⟨⟨ds, e⟩, h⟩
    simp only [back_get] at e
    by_cases q : i ∈ vs
    · rw [if_pos q] at e
      split at e
      · have e := Option.some.inj e
        have hn := List.all_eq_true.mp hn i q
        have e2 : s.d[i]? = some (.own ds) := by
          rw [List.getD_eq_getElem?_getD] at e
          cases z : s.d[i]? with
          | none => rw [z] at e; cases e
          | some o => rw [z] at e; simp at e; rw [e]
        rw [e2] at hn
        cases hn
      · cases e
    · rw [if_neg q] at e
      exact ⟨⟨ds, e⟩, by rw [hs i q]; exact h⟩
  refine ⟨⟨by simp [back_len, S2.len, hl], S2.gh, fun i sl h => ?_, fun i j a h1 h2 => S2.inj i j a (ho i a h1) (ho j a h2), fun i a h => S2.ownG i a (ho i a h), S2.pw, fun i a h => S2.pne i a (ho i a h)⟩, fun a z => ?_⟩
  · simp only [back_get] at h
    by_cases q : i ∈ vs
    · rw [if_pos q] at h
      split at h
      · have h := Option.some.inj h
        have hn := List.all_eq_true.mp hn i q
        rw [List.getD_eq_getElem?_getD] at h
        cases z : s.d[i]? with
        | none => rw [z] at h; simp at h; subst h; trivial
        | some o =>
          rw [z] at h
          simp at h
          subst h
          have sl := S.slot i _ z
          cases o with
          | no => trivial
          | val d => obtain ⟨v, e, hd⟩ := sl; exact ⟨v, e, dp_mono ex _ _ hd⟩
          | raw v => exact sl
          | ob o => obtain ⟨v, e, hd⟩ := sl; exact ⟨v, e, ob_mono ex hd⟩
          | own ds => rw [z] at hn; cases hn
      · cases h
    · rw [if_neg q] at h
      rw [← hs i q]
      exact S2.slot i sl h
  · rcases z with ⟨i, z⟩ | z
    · exact .inl ⟨i, ho i a z⟩
    · exact .inr z
end
theorem sa_write {K : PySem.W.Frag} {G H : Hp} {s : DSt} {σ : L2.St} {D : Addr} {o : HO} (S : SA K G s σ H) (hg : G D = none) (hn : ¬ Own s σ D) (hx : ∀ φ, H D ≠ some (.ext φ)) : SA K G s σ (upd H D o) := by
  refine ⟨S.len, fun a u h => ?_, fun i sl h => ?_, S.inj, S.ownG, ?_, S.pne⟩
  · rw [upd_ne fun z => by subst z; rw [hg] at h; cases h]; exact S.gh a u h
  · have q := S.slot i sl h
    cases sl with
    | no => trivial
    | val d => exact q
    | raw v => exact q
    | ob o => exact q
    | own es =>
      obtain ⟨a, xs, e, ha, hh⟩ := q
      refine ⟨a, xs, e, ?_, hh⟩
      rw [upd_ne fun z => hn (by
        subst z
        refine .inl ⟨i, ⟨es, h⟩, ?_⟩
        cases w : σ[i]? with
        | none => rw [w] at e; cases e
        | some o => rw [w] at e; simp at e; rw [e])]
      exact ha
  · exact pwok_to S.pw (fun b o h z => by rw [upd_ne fun q => hn (by subst q; exact .inr z)]; exact h) (fun b φ h => by rw [upd_ne fun q => by subst q; exact hx φ h]; exact h) fun b z => G_pown S.pw z
theorem lc_reads {K : PySem.W.Frag} {gg : TG} {bd : Bd} {js vs : List Nat} {ft : M Bool} {fe : M R} {fi : M (List PyData)} (ho : GOk K gg bd js) (hj : ∀ j ∈ js, j ∈ vs) {σ : L2.St} {H : Hp} {Q : VK} (q : tD K cl W (fLc fi bd ft fe vs) σ H Q) :
    tLc (tI K cl W fi) gg (tT K cl (fun _ _ _ _ => False) ft) (tD K cl (fun _ _ _ _ => False) fe) vs σ H Q := by
  obtain ⟨G, s, S, q⟩ := q
  refine ⟨G, s, S, out_mono (out_bind q) fun ds G1 s1 H1 st1 S1 k J hJ D hD => ?_⟩
  have k : Out K cl W G1 s1 σ H1 (if leS (ds.length) then loopC bd ft fe vs ds [] s1 else .stuck) _ := out_bind k
  by_cases hz : leS ds.length
  rotate_left
  · rw [if_neg hz] at k; exact k.elim
  rw [if_pos hz] at k
  have hz : ds.length ≤ sizeLine := hz
  obtain ⟨stD, SD, rrD⟩ := new_list (ds := []) S1 hD .nil st1.dom
  obtain ⟨aD, xD, eD, _, _, gD, _, nD⟩ := rrD
  cases eD
  refine ⟨fun i m H2 => ∃ G2 s2 acc accv, SA K G2 s2 σ H2 ∧ Stp G1 s1 σ H1 G2 s2 σ H2 ∧ H2 D = some (.lst accv) ∧ RpAll K G2 accv acc ∧ G2 D = none ∧ ¬ Own s2 σ D ∧ acc.length ≤ i ∧ m = ds.length - i ∧ i ≤ ds.length ∧
      Out K cl W G1 s1 σ H1 (loopC bd ft fe vs (ds.drop i) acc s2) _, ⟨ds.length, G1, s1, [], [], SD, stD, upd_same, .nil, gD, nD, Nat.le_refl _, by simp, Nat.zero_le _, by simpa using k⟩, ?_⟩
  rintro i m H2 ⟨G2, s2, acc, accv, S2, st2, hD2, hacc, gD2, nD2, hla, rfl, hi, k2⟩
  obtain ⟨j1, j2⟩ := hJ G2 s2 σ H2 st2.ex S2 i
  by_cases hl : i < ds.length
  · obtain ⟨go, yl⟩ := j1 ds[i] (List.getElem?_eq_getElem hl)
    rw [List.drop_eq_getElem_cons hl] at k2
    unfold loopC at k2
    refine .inr ⟨go, fun H3 => ∃ G3 s3 acc accv, SA K G3 s3 σ H3 ∧ Stp G1 s1 σ H1 G3 s3 σ H3 ∧ H3 D = some (.lst accv) ∧ RpAll K G3 accv acc ∧ G3 D = none ∧ ¬ Own s3 σ D ∧ acc.length ≤ i + 1 ∧
      Out K cl W G1 s1 σ H1 (loopC bd ft fe vs (ds.drop (i + 1)) acc s3) _, fun H3 ⟨G3, s3, acc, accv, a1, a2, a3, a4, a5, a6, a7, a8⟩ => ⟨ds.length - (i + 1), by omega, G3, s3, acc, accv, a1, a2, a3, a4, a5, a6, a7, rfl, hl, a8⟩, fun x H3 y => ?_⟩
    by_cases hn : noOwn vs s2.d = true
    rotate_left
    · rw [if_neg hn] at k2; exact k2.elim
    rw [if_pos hn] at k2
    obtain ⟨stB, SB⟩ := sa_blank vs S2 hn
    obtain ⟨j3, _⟩ := hJ G2 _ _ H2 st2.ex SB i
    obtain ⟨_, yl⟩ := j3 ds[i] (List.getElem?_eq_getElem hl)
    obtain ⟨G3, st3, S3, rp⟩ := yl x H3 y
    cases eb : bd ds[i] { s2 with d := blank vs s2.d } with
    | none => rw [eb] at k2; exact k2.elim
    | some s4 =>
      rw [eb] at k2
      refine ho x ds[i] G3 _ (wipe σ vs) H3 s4 _ S3 rp eb fun σ4 l4 n4 m4 w4 st4 S4 => ?_
      have hw : wipe σ4 vs = wipe σ vs := (wipe_same l4 fun i hi => n4 i fun z => hi (hj i z)).trans (wipe_wipe σ vs)
      refine ⟨hw, G3, s4, S4, ?_⟩
      have stA := (stB.trans st3).trans st4
      -- what holds behind the turn
      have fin : ∀ {G5 : Hp} {s5 : DSt} {H5 : Hp}, Stp G2 s2 σ H2 G5 s5 σ4 H5 → SA K G5 s5 σ4 H5 → SA K G5 { s5 with d := putBack vs s2.d s5.d } σ H5 ∧ Stp G1 s1 σ H1 G5 { s5 with d := putBack vs s2.d s5.d } σ H5 ∧ H5 D = some (.lst accv) ∧ G5 D = none ∧ ¬ Own { s5 with d := putBack vs s2.d s5.d } σ D := by
        intro G5 s5 H5 st5 S5
        obtain ⟨b1, b2⟩ := sa_back S2 hn S5 st5.ex hw
        obtain ⟨c1, c2⟩ := st5.keep D _ hD2 nD2
        have st6 : Stp G2 s2 σ H2 G5 { s5 with d := putBack vs s2.d s5.d } σ H5 := ⟨st5.ex, st5.keep, fun a z => st5.own a (b2 a z), st5.dom, st5.pw⟩
        exact ⟨b1, st2.trans st6, c1, c2.trans gD2, fun z => (st6.own D z).elim nD2 fun z => by rw [hD2] at z; cases z⟩
      have k2 : Out K cl W G1 s1 σ H1 ((nerr (ft s4)).bind _) _ := k2
      cases et : ft s4 with
      | err x s5 => rw [et] at k2; exact k2.elim
      | stuck => rw [et] at k2; exact k2.elim
      | ok t s5 =>
        rw [et] at k2
        intro G5 H5 st5 S5
        have st25 := stA.trans st5
        cases t with
        | false =>
          obtain ⟨b1, b2, b3, b4, b5⟩ := fin st25 S5
          exact ⟨G5, _, acc, accv, b1, b2, b3, dps_mono st25.ex _ _ hacc, b4, b5, Nat.le_succ_of_le hla, k2⟩
        | true =>
          have k2 : Out K cl W G1 s1 σ H1 ((nerr (bnd fe fEsc s5)).bind _) _ := k2
          refine ⟨G5, s5, S5, ?_⟩
          cases ef : fe s5 with
          | err x s6 => rw [bnd_app, ef] at k2; exact k2.elim
          | stuck => rw [bnd_app, ef] at k2; exact k2.elim
          | ok r s6 =>
            rw [bnd_app, ef] at k2
            intro G6 H6 st6 S6 v rr
            have k2 : Out K cl W G1 s1 σ H1 ((nerr (fEsc r s6)).bind _) _ := k2
            unfold fEsc at k2
            cases ee : esc r s6 with
            | none => rw [ee] at k2; exact k2.elim
            | some p =>
              obtain ⟨r2, s7⟩ := p
              rw [ee] at k2
              obtain ⟨G7, st7, S7, ex7, ar⟩ := esc_ok S6 st6 rr ee
              have st27 := st25.trans st7
              obtain ⟨b1, b2, b3, b4, b5⟩ := fin st27 S7
              cases r2 with
              | raw u => exact k2.elim
              | ob o => exact k2.elim
              | new u => exact k2.elim
              | slot u => exact k2.elim
              | val d =>
                have hacc7 := dps_mono st27.ex _ _ hacc
                refine ⟨accv, b3, ?_, G7, _, acc ++ [d], accv ++ [v], sa_write b1 b4 b5 (fun φ q => by rw [b3] at q; cases q), ⟨b2.ex, fun a o h1 h2 => ?_, b2.own, fun a h1 => ?_, b2.pw⟩, upd_same, dps_app hacc7 (.cons ar .nil), b4, b5, by simp; omega, k2⟩
                · rw [dps_len hacc]
                  omega
                · have ne : a ≠ D := fun z => by subst z; rw [hD] at h1; cases h1
                  rw [upd_ne ne]
                  exact b2.keep a o h1 h2
                · by_cases ne : a = D
                  · subst ne; rw [upd_same]; simp
                  · rw [upd_ne ne]; exact b2.dom a h1
  · have e : i = ds.length := by omega
    subst e
    rw [List.drop_length] at k2
    refine .inl ⟨j2 (Nat.le_refl _), ?_⟩
    have k3 := k2 G2 H2 st2 S2
    have k4 := k3 G2 H2 Stp.refl S2 (.ref D) ⟨D, accv, rfl, hD2, hacc, gD2, Classical.byContradiction fun z => st1.dom D z hD, nD2⟩
    exact k4
abbrev W0 : WX := fun _ _ _ _ => False
theorem d_lc {elt : Expr} {ifs : List Expr} {scope : Scope} {own : List (Str × Nat)} {gg : TG} {bd : Bd} {js : List Nat} {ft : M Bool} {fe : M R} (hc : X.calm = true) (hN : X.N.Nodup) (hi : DI X cl W tg iter fi) (ok : BlkOk X.N X.env.scope scope own) (ho : GOk X.K gg bd js) (hj : ∀ j ∈ js, j ∈ own.map (·.2))
    (hg : ∀ (s : Shared) (H : Hp) (C : Addr) (cl : List (Str × Addr)) (fp : List Addr), PG (X.blk s H scope (compEnvC scope cl C X.env) fp) tg gg) (ht : ∀ (s : Shared) (H : Hp) (C : Addr) (clo : List (Str × Addr)) (fp : List Addr), PTs (X.blk s H scope (compEnvC scope clo C X.env) fp) ifs (tT X.K cl W0 ft))
    (he : ∀ (s : Shared) (H : Hp) (C : Addr) (clo : List (Str × Addr)) (fp : List Addr), DE (X.blk s H scope (compEnvC scope clo C X.env) fp) cl W0 elt fe) (hs : ∀ x, foldedSetIterable iter X.env x = pure x := by intro _; rfl) :
    DE X cl W (.ListComp elt [⟨tg, iter, ifs, 0⟩] scope pos) (fLc fi bd ft fe (own.map (·.2))) := pe_imp (pe_lc hc hN hi ok hg ht he hs) fun σ H Q q => lc_reads ho hj q
theorem s_setLc {i : Nat} {y : Str} {py : Pos} {elt : Expr} {ifs : List Expr} {scope : Scope} {own : List (Str × Nat)} {spos : Pos} {gg : TG} {bd : Bd} {js : List Nat} {ft : M Bool} {fe : M R} (hc : X.calm = true) (hN : X.N.Nodup) (hy : X.N[i]? = some y) (hyl : X.env.scope.names.lookup y = some .local)
    (hsw : swapsWith (.ListComp elt [⟨tg, iter, ifs, 0⟩] scope pos) (some (.Name y py)) spos.line X.env = pure true) (hi : DI X cl W tg iter fi) (ok : BlkOk X.N X.env.scope scope own) (ho : GOk X.K gg bd js) (hj : ∀ j ∈ js, j ∈ own.map (·.2))
    (hg : ∀ (s : Shared) (H : Hp) (C : Addr) (cl : List (Str × Addr)) (fp : List Addr), PG (X.blk s H scope (compEnvC scope cl C X.env) fp) tg gg) (ht : ∀ (s : Shared) (H : Hp) (C : Addr) (clo : List (Str × Addr)) (fp : List Addr), PTs (X.blk s H scope (compEnvC scope clo C X.env) fp) ifs (tT X.K cl W0 ft))
    (he : ∀ (s : Shared) (H : Hp) (C : Addr) (clo : List (Str × Addr)) (fp : List Addr), DE (X.blk s H scope (compEnvC scope clo C X.env) fp) cl W0 elt fe) (hs : ∀ x, foldedSetIterable iter X.env x = pure x := by intro _; rfl) :
    DS X cl W (.Assign [.Name y py] (.ListComp elt [⟨tg, iter, ifs, 0⟩] scope pos) spos) (fSet i (fLc fi bd ft fe (own.map (·.2)))) := ps_imp (ps_setLc hc hN hy hyl hsw hi ok hg ht he hs) fun D σ H q => by
  have q' := set_reads q
  exact lc_reads ho hj q'
def fYes : M Bool := ret true
theorem dts_nil {K : PySem.W.Frag} : PTs X [] (tT K cl W fYes) := ⟨fun pins s σ H Q I ⟨G, st, S, h⟩ => pts_nil.run pins s σ H Q I (h G H Stp.refl S)⟩
theorem dts_one {t : M Bool} (h : DT X cl W c t) : PTs X [c] (tT X.K cl W t) := pts_one h
end
end DL

/-! DL9: built-ins, methods -/
noncomputable section
namespace DL
open PySem L2 PyProof.Rows
open Evl (Ex)
def looks : List R → DSt → Option (List PyData)
  | [], _ => some []
  | r :: rs, s => match look r s, looks rs s with
    | some d, some ds => some (d :: ds)
    | _, _ => none
theorem looks_q {K : PySem.W.Frag} {H0 G H : Hp} {s : DSt} {σ : L2.St} (S : SA K G s σ H) : ∀ {rs : List R} {vs : List V} {ds : List PyData}, RRels K H0 G s σ H vs rs → looks rs s = some ds → Paired (Dq K G H) vs ds
  | [], _, _, .nil, e => by cases e; exact .nil
  | r :: rs, _, ds, .cons h t, e => by
    simp only [looks] at e
    split at e
    · rename_i d es e1 e2
      cases e
      exact .cons (look_q S h e1) (looks_q S t e2)
    · cases e
def CallD (K : PySem.W.Frag) (r : List V → Hp → VK → Prop) (o : List PyData → Option R) : Prop := ∀ (G H : Hp) (vs : List V) (ds : List PyData) (r' : R) (Q : VK), Ex G H → Paired (Dq K G H) vs ds → o ds = some r' → Ans K G H r' Q → r vs H Q
def fCall (o : List PyData → Option R) (fs : M (List R)) : M R := bnd fs fun rs s => match looks rs s with
  | some ds => match o ds with
    | some (.slot _) => .stuck
    | some r => .ok r s
    | none => .stuck
  | none => .stuck
section
variable {X : Cx} {cl : String → Addr} {W : WX} {e a b c tg iter : Expr} {es : List Expr} {f g : M R} {fs : M (List R)} {fi : M (List PyData)} {pos : Pos} {p q : DSt → Flow}
theorem call_reads {K : PySem.W.Frag} {r : List V → Hp → VK → Prop} {o : List PyData → Option R} (h : CallD K r o) {σ : L2.St} {H : Hp} {Q : VK} (q : tD K cl W (fCall o fs) σ H Q) : tCB r (tA K cl W fs) σ H Q := by
  obtain ⟨G, s, S, q⟩ := q
  refine ⟨G, s, S, out_mono (out_bind q) fun rs G1 s1 H1 st1 S1 k vs hv => ?_⟩
  split at k
  · rename_i ds e1
    split at k
    · exact k.elim
    · rename_i r' ns ho
      exact h G1 H1 vs ds r' Q S1.gh (looks_q S1 hv e1) ho (ans_of S1 st1.dom (fun i z => ns i z) k)
    · exact k.elim
  · exact k.elim
theorem d_callB {x : Str} {p : Pos} {id : String} {r : List V → Hp → VK → Prop} {o : List PyData → Option R} (hc : CallR X (.builtin id) r) (h : CallD X.K r o) (hg : Gl X x) (hm : X.mg x = none) (hv : bootBuiltins x = some (.builtin id)) (ha : DA X cl W (e :: es) fs) (hn : x ≠ "__name__" := by decide) (hdb : (x == ("__debug__" : Str)) = false := by decide)
    (he : starEach (e :: es) X.env = (false, eval e X.env) :: starEach es X.env := by rfl) (hpl : (backTo pos (starEach es X.env)).any (·.1) = false := by rfl) : DE X cl W (.Call (.Name x p) (e :: es) [] pos) (fCall o fs) :=
  pe_imp (pe_callB hc hg hm hv ha hn hdb he hpl) fun σ H Q q => call_reads h q
theorem d_callTy {x : Str} {p : Pos} {T : String} {r : List V → Hp → VK → Prop} {o : List PyData → Option R} (hc : CallR X (.type T) r) (h : CallD X.K r o) (hg : Gl X x) (hm : X.mg x = none) (hv : bootBuiltins x = some (.type T)) (ha : DA X cl W (e :: es) fs) (hn : x ≠ "__name__" := by decide) (hdb : (x == ("__debug__" : Str)) = false := by decide)
    (he : starEach (e :: es) X.env = (false, eval e X.env) :: starEach es X.env := by rfl) (hpl : (backTo pos (starEach es X.env)).any (·.1) = false := by rfl) : DE X cl W (.Call (.Name x p) (e :: es) [] pos) (fCall o fs) :=
  pe_imp (pe_callTy hc hg hm hv ha hn hdb he hpl) fun σ H Q q => call_reads h q
theorem CallR.or' {f : Value} {r r' : List V → Hp → VK → Prop} (h : CallR X f r) (h' : CallR X f r') : CallR X f (fun vs H Q => r vs H Q ∨ r' vs H Q) := by
  intro pins s σ H vs us Q I rv q
  rcases q with q | q
  · exact h pins s σ H vs us Q I rv q
  · exact h' pins s σ H vs us Q I rv q
end
/-! the built-ins -/
def lenO : List PyData → Option R
  | [.list ds] => some (.val (.int ds.length))
  | [.tuple ds] => some (.val (.int ds.length))
  | [.str z] => if leS (z.length) then some (.val (.int z.length)) else none
  | _ => none
theorem cd_len {K : PySem.W.Frag} : CallD K (fun xs H Q => (∃ p ys, xs = [.ref p] ∧ (SqL K H p ys ∨ SqT K H p ys) ∧ Q (.int ys.length) H) ∨ ∃ z, xs = [.str z] ∧ z.length ≤ sizeLine ∧ Q (.int z.length) H) lenO := by
  intro G H vs ds r' Q ex hv ho k
  unfold lenO at ho
  split at ho
  · cases ho
    cases hv with
    | cons h t =>
      cases t
      obtain ⟨p, xs, rfl, hp, hx⟩ := dq_lst h
      refine .inl ⟨p, xs, rfl, .inl (.of hp), ?_⟩
      rw [dps_len hx]
      exact k.1 _ (.int _)
  · cases ho
    cases hv with
    | cons h t =>
      cases t
      obtain ⟨p, xs, rfl, hp, hx, _⟩ := dq_tup ex h
      refine .inl ⟨p, xs, rfl, .inr hp, ?_⟩
      rw [dps_len hx]
      exact k.1 _ (.int _)
  · split at ho
    · cases ho
      cases hv with
      | cons h t =>
        cases t
        obtain rfl := dq_str h
        exact .inr ⟨_, rfl, by assumption, k.1 _ (.int _)⟩
    · cases ho
  · cases ho
def listO : List PyData → Option R
  | [.list ds] => some (.new ds)
  | [.tuple ds] => some (.new ds)
  | _ => none
theorem cd_list {K : PySem.W.Frag} : CallD K (fun xs H Q => ∃ p ys, xs = [.ref p] ∧ (SqL K H p ys ∨ SqT K H p ys) ∧ ∀ l, H l = none → Q (.ref l) (upd H l (.lst ys))) listO := by
  intro G H vs ds r' Q ex hv ho k
  unfold listO at ho
  split at ho
  · cases ho
    cases hv with
    | cons h t =>
      cases t
      obtain ⟨p, xs, rfl, hp, hx⟩ := dq_lst h
      exact ⟨p, xs, rfl, .inl (.of hp), fun l hl => k l _ hl hx⟩
  · cases ho
    cases hv with
    | cons h t =>
      cases t
      obtain ⟨p, xs, rfl, hp, hx, _⟩ := dq_tup ex h
      exact ⟨p, xs, rfl, .inr hp, fun l hl => k l _ hl hx⟩
  · cases ho
def tupleO : List PyData → Option R
  | [.list ds] => some (.val (.tuple ds))
  | [.tuple ds] => some (.val (.tuple ds))
  | _ => none
theorem cd_tuple {K : PySem.W.Frag} : CallD K (fun xs H Q => ∃ p ys, xs = [.ref p] ∧ ((SqL K H p ys ∧ ∀ l, H l = none → Q (.ref l) (upd H l (.tup ys))) ∨ (SqT K H p ys ∧ Q (.ref p) H))) tupleO := by
  intro G H vs ds r' Q ex hv ho k
  unfold tupleO at ho
  split at ho
  · cases ho
    cases hv with
    | cons h t =>
      cases t
      obtain ⟨p, xs, rfl, hp, hx⟩ := dq_lst h
      exact ⟨p, xs, rfl, .inl ⟨.of hp, fun l hl => k.2 _ l _ rfl hl hx⟩⟩
  · cases ho
    cases hv with
    | cons h t =>
      cases t
      obtain ⟨p, xs, rfl, hp, hx, h1⟩ := dq_tup ex h
      exact ⟨p, xs, rfl, .inr ⟨hp, k.1 _ h1⟩⟩
  · cases ho
def intsD : List PyData → Option (List Int)
  | [] => some []
  | .int i :: r => (intsD r).map (i :: ·)
  | _ :: _ => none
def boolsD : List PyData → Option (List Bool)
  | [] => some []
  | .bool i :: r => (boolsD r).map (i :: ·)
  | _ :: _ => none
theorem ints_rp {K : PySem.W.Frag} {G : Hp} : ∀ {ds : List PyData} {vs : List V} {ns : List Int}, RpAll K G vs ds → intsD ds = some ns → vs = ns.map V.int
  | [], _, _, h, e => by cases h; cases e; rfl
  | .int i :: r, _, ns, h, e => by
    cases h with
    | cons h1 h2 =>
      cases h1
      simp only [intsD] at e
      cases q : intsD r with
      | none => rw [q] at e; cases e
      | some ms => rw [q] at e; cases e; rw [ints_rp h2 q]; rfl
  | .none :: _, _, _, _, e | .bool _ :: _, _, _, _, e | .str _ :: _, _, _, _, e | .list _ :: _, _, _, _, e | .tuple _ :: _, _, _, _, e | .dict _ :: _, _, _, _, e => by cases e
theorem bools_rp {K : PySem.W.Frag} {G : Hp} : ∀ {ds : List PyData} {vs : List V} {ns : List Bool}, RpAll K G vs ds → boolsD ds = some ns → vs = ns.map V.bl
  | [], _, _, h, e => by cases h; cases e; rfl
  | .bool i :: r, _, ns, h, e => by
    cases h with
    | cons h1 h2 =>
      cases h1
      simp only [boolsD] at e
      cases q : boolsD r with
      | none => rw [q] at e; cases e
      | some ms => rw [q] at e; cases e; rw [bools_rp h2 q]; rfl
  | .none :: _, _, _, _, e | .int _ :: _, _, _, _, e | .str _ :: _, _, _, _, e | .list _ :: _, _, _, _, e | .tuple _ :: _, _, _, _, e | .dict _ :: _, _, _, _, e => by cases e
theorem rp_ints {K : PySem.W.Frag} {G : Hp} : ∀ ns : List Int, RpAll K G (ns.map V.int) (ns.map PyData.int)
  | [] => .nil
  | n :: ns => .cons (.int n) (rp_ints ns)
@[simp] theorem intsD_map : ∀ ns : List Int, intsD (ns.map PyData.int) = some ns
  | [] => rfl
  | n :: ns => by simp [intsD, intsD_map ns]
@[simp] theorem boolsD_map : ∀ ns : List Bool, boolsD (ns.map PyData.bool) = some ns
  | [] => rfl
  | n :: ns => by simp [boolsD, boolsD_map ns]
def allO : List PyData → Option R
  | [.list ds] => (boolsD ds).map fun bs => .val (.bool (bs.all id))
  | _ => none
def anyO : List PyData → Option R
  | [.list ds] => (boolsD ds).map fun bs => .val (.bool (bs.any id))
  | _ => none
def sumO : List PyData → Option R
  | [.list ds] => (intsD ds).map fun bs => .val (.int bs.sum)
  | _ => none
theorem cd_all {K : PySem.W.Frag} : CallD K (rAll K) allO := by
  intro G H vs ds r' Q ex hv ho k
  unfold allO at ho
  split at ho
  · cases hv with
    | cons h t =>
      cases t
      obtain ⟨p, xs, rfl, hp, hx⟩ := dq_lst h
      rename_i es
      cases q : boolsD es with
      | none => rw [q] at ho; cases ho
      | some bs => rw [q] at ho; cases ho; exact ⟨p, bs, rfl, .of (by rw [← bools_rp hx q]; exact hp), k.1 _ (.bl _)⟩
  · cases ho
def maxI : List Int → Int
  | [] => 0
  | n :: ns => ns.foldl max n
def minI : List Int → Int
  | [] => 0
  | n :: ns => ns.foldl min n
theorem foldl_max_ge : ∀ (ns : List Int) (n : Int), n ≤ ns.foldl max n ∧ (∀ y ∈ ns, y ≤ ns.foldl max n) ∧ (ns.foldl max n = n ∨ ns.foldl max n ∈ ns)
  | [], n => by simp
  | m :: ns, n => by
    obtain ⟨h1, h2, h3⟩ := foldl_max_ge ns (max n m)
    simp only [List.foldl_cons, List.mem_cons]
    refine ⟨by omega, fun y hy => ?_, ?_⟩
    · rcases hy with rfl | hy
      · omega
      · exact h2 y hy
    · rcases h3 with h3 | h3
      · rcases Int.le_total n m with q | q
        · right; left; rw [h3]; omega
        · left; rw [h3]; omega
      · exact .inr (.inr h3)
theorem foldl_min_le : ∀ (ns : List Int) (n : Int), ns.foldl min n ≤ n ∧ (∀ y ∈ ns, ns.foldl min n ≤ y) ∧ (ns.foldl min n = n ∨ ns.foldl min n ∈ ns)
  | [], n => by simp
  | m :: ns, n => by
    obtain ⟨h1, h2, h3⟩ := foldl_min_le ns (min n m)
    simp only [List.foldl_cons, List.mem_cons]
    refine ⟨by omega, fun y hy => ?_, ?_⟩
    · rcases hy with rfl | hy
      · omega
      · exact h2 y hy
    · rcases h3 with h3 | h3
      · rcases Int.le_total n m with q | q
        · left; rw [h3]; omega
        · right; left; rw [h3]; omega
      · exact .inr (.inr h3)
theorem maxI_mem {ns : List Int} (h : ns ≠ []) : maxI ns ∈ ns := by
  cases ns with
  | nil => exact (h rfl).elim
  | cons n ns =>
    show ns.foldl max n ∈ n :: ns
    rcases (foldl_max_ge ns n).2.2 with q | q
    · rw [q]; exact List.mem_cons_self
    · exact List.mem_cons_of_mem _ q
theorem maxI_ge {ns : List Int} {y : Int} (h : y ∈ ns) : y ≤ maxI ns := by
  cases ns with
  | nil => cases h
  | cons n ns =>
    unfold maxI
    rcases List.mem_cons.mp h with rfl | h
    · exact (foldl_max_ge ns y).1
    · exact (foldl_max_ge ns n).2.1 y h
theorem minI_mem {ns : List Int} (h : ns ≠ []) : minI ns ∈ ns := by
  cases ns with
  | nil => exact (h rfl).elim
  | cons n ns =>
    show ns.foldl min n ∈ n :: ns
    rcases (foldl_min_le ns n).2.2 with q | q
    · rw [q]; exact List.mem_cons_self
    · exact List.mem_cons_of_mem _ q
theorem minI_le {ns : List Int} {y : Int} (h : y ∈ ns) : minI ns ≤ y := by
  cases ns with
  | nil => cases h
  | cons n ns =>
    unfold minI
    rcases List.mem_cons.mp h with rfl | h
    · exact (foldl_min_le ns y).1
    · exact (foldl_min_le ns n).2.1 y h
def maxO : List PyData → Option R
  | [.list ds] => match intsD ds with
    | some (n :: ns) => some (.val (.int (maxI (n :: ns))))
    | _ => none
  | [.int i, .int j] => some (.val (.int (if j > i then j else i)))
  | _ => none
def minO : List PyData → Option R
  | [.list ds] => match intsD ds with
    | some (n :: ns) => some (.val (.int (minI (n :: ns))))
    | _ => none
  | [.int i, .int j] => some (.val (.int (if j < i then j else i)))
  | _ => none
theorem cd_max {K : PySem.W.Frag} : CallD K (fun vs H Q => rMax K vs H Q ∨ ∃ i j, vs = [.int i, .int j] ∧ Q (.int (if j > i then j else i)) H) maxO := by
  intro G H vs ds r' Q ex hv ho k
  unfold maxO at ho
  split at ho
  · cases hv with
    | cons h t =>
      cases t
      obtain ⟨p, xs, rfl, hp, hx⟩ := dq_lst h
      split at ho
      · rename_i n ns q
        cases ho
        refine .inl ⟨p, n :: ns, rfl, .of (by rw [← ints_rp hx q]; exact hp), by simp, fun m hm hle => ?_⟩
        have e : m = maxI (n :: ns) := Int.le_antisymm (maxI_ge hm) (hle _ (maxI_mem (by simp)))
        rw [e]
        exact k.1 _ (.int _)
      · cases ho
  · cases ho
    cases hv with
    | cons h t =>
      cases t with
      | cons h2 t =>
        cases t
        obtain rfl := dq_int h
        obtain rfl := dq_int h2
        exact .inr ⟨_, _, rfl, k.1 _ (.int _)⟩
  · cases ho
theorem cd_min {K : PySem.W.Frag} : CallD K (fun vs H Q => rMin K vs H Q ∨ ∃ i j, vs = [.int i, .int j] ∧ Q (.int (if j < i then j else i)) H) minO := by
  intro G H vs ds r' Q ex hv ho k
  unfold minO at ho
  split at ho
  · cases hv with
    | cons h t =>
      cases t
      obtain ⟨p, xs, rfl, hp, hx⟩ := dq_lst h
      split at ho
      · rename_i n ns q
        cases ho
        refine .inl ⟨p, n :: ns, rfl, .of (by rw [← ints_rp hx q]; exact hp), by simp, fun m hm hle => ?_⟩
        have e : m = minI (n :: ns) := Int.le_antisymm (hle _ (minI_mem (by simp))) (minI_le hm)
        rw [e]
        exact k.1 _ (.int _)
      · cases ho
  · cases ho
    cases hv with
    | cons h t =>
      cases t with
      | cons h2 t =>
        cases t
        obtain rfl := dq_int h
        obtain rfl := dq_int h2
        exact .inr ⟨_, _, rfl, k.1 _ (.int _)⟩
  · cases ho
def absO : List PyData → Option R
  | [.int i] => some (.val (.int (if i < 0 then -i else i)))
  | _ => none
def intO : List PyData → Option R
  | [.int i] => some (.val (.int i))
  | [.bool b] => some (.val (.int (if b then 1 else 0)))
  | _ => none
theorem cd_int {K : PySem.W.Frag} : CallD K (fun xs H Q => (∃ i, xs = [.int i] ∧ Q (.int i) H) ∨ ∃ k, xs = [.bl k] ∧ Q (.int (if k then 1 else 0)) H) intO := by
  intro G H vs ds r' Q ex hv ho k
  unfold intO at ho
  split at ho
  · cases ho
    cases hv with
    | cons h t =>
      cases t
      obtain rfl := dq_int h
      exact .inl ⟨_, rfl, k.1 _ (.int _)⟩
  · cases ho
    cases hv with
    | cons h t =>
      cases t
      obtain rfl := dq_bl h
      exact .inr ⟨_, rfl, k.1 _ (.int _)⟩
  · cases ho
def sortI (ns : List Int) : List Int := ns.mergeSort fun a b => decide (a ≤ b)
theorem sortI_perm (ns : List Int) : (sortI ns).Perm ns := List.mergeSort_perm _ _
theorem sortI_le (ns : List Int) : (sortI ns).Pairwise (· ≤ ·) := by
  have h := List.pairwise_mergeSort (le := fun a b : Int => decide (a ≤ b)) (fun a b c h1 h2 => by simp at *; omega) (fun a b => by simp; omega) ns
  exact h.imp fun h => by simpa using h
theorem perm_sorted_eq : ∀ {l m : List Int}, l.Perm m → l.Pairwise (· ≤ ·) → m.Pairwise (· ≤ ·) → l = m
  | [], m, h, _, _ => by have := h.length_eq; cases m with | nil => rfl | cons => simp at this
  | a :: l, [], h, _, _ => by have := h.length_eq; simp at this
  | a :: l, b :: m, h, h1, h2 => by
    have ha := (List.pairwise_cons.mp h1)
    have hb := (List.pairwise_cons.mp h2)
    have e1 : a ∈ b :: m := h.mem_iff.mp List.mem_cons_self
    have e2 : b ∈ a :: l := h.mem_iff.mpr List.mem_cons_self
    have e : a = b := by
      rcases List.mem_cons.mp e1 with e | e
      · exact e
      · rcases List.mem_cons.mp e2 with f | f
        · exact f.symm
        · have := ha.1 b f; have := hb.1 a e; omega
    subst e
    rw [perm_sorted_eq (List.Perm.cons_inv h) ha.2 hb.2]
theorem sortI_eq {ns ms : List Int} (h : ms.Perm ns) (h2 : ms.Pairwise (· ≤ ·)) : ms = sortI ns := perm_sorted_eq (h.trans (sortI_perm ns).symm) h2 (sortI_le ns)
def sortDD (ds : List PyData) : List PyData := ds.mergeSort (PySem.W.sortLe (PyProof.Rows.listOrd PyProof.Rows.itemOrd) false PySem.W.keyToks)
def canSort (ds : List PyData) : Prop := PySem.W.AllAlike ds ∧ PySem.W.Sortable ds ∧ ∀ d ∈ ds, d.depth ≤ 50
instance (ds : List PyData) : Decidable (canSort ds) := Classical.propDecidable _
def sortedO : List PyData → Option R
  | [.list ds] => match intsD ds with
    | some ns => some (.new ((sortI ns).map .int))
    | none => if canSort ds then some (.new (sortDD ds)) else none
  | _ => none
def rSortedD (K : PySem.W.Frag) : List V → Hp → VK → Prop := fun vs H Q => ∃ (a : Addr) (xs : List V) (ds : List PyData), vs = [.ref a] ∧ SqL K H a xs ∧ DpAll K H xs ds ∧ canSort ds ∧
  ∀ zs : List (V × PyData), zs.Perm (xs.zip ds) → zs.map (·.2) = sortDD ds → ∀ p, H p = none → Q (.ref p) (upd H p (.lst (zs.map (·.1))))
theorem each_of {α β : Type} {R : α → β → Prop} : ∀ {as : List α} {bs : List β}, as.length = bs.length → (∀ (i : Nat) (a : α) (b : β), as[i]? = some a → bs[i]? = some b → R a b) → PySem.W.EachIs R as bs
  | [], [], _, _ => .nil
  | [], _ :: _, h, _ => by simp at h
  | _ :: _, [], h, _ => by simp at h
  | a :: as, b :: bs, h, f => .cons (f 0 a b rfl rfl) (each_of (by simpa using h) fun i a b h1 h2 => f (i + 1) a b (by simpa using h1) (by simpa using h2))
theorem dpsAll_get {K : PySem.W.Frag} {H : Hp} : ∀ {ds : List PyData} {vs : List V} {i : Nat} {v : V}, DpAll K H vs ds → vs[i]? = some v → ∃ d, ds[i]? = some d ∧ Dp K H v d
  | [], _, i, v, h, e => by cases h; simp at e
  | d :: ds, _, 0, v, h, e => by
    cases h with
    | cons h1 h2 => simp at e; subst e; exact ⟨d, rfl, h1⟩
  | d :: ds, _, i + 1, v, h, e => by
    cases h with
    | cons h1 h2 => simpa using dpsAll_get (i := i) h2 (by simpa using e)
theorem dpsAll_len {K : PySem.W.Frag} {H : Hp} : ∀ {ds : List PyData} {vs : List V}, DpAll K H vs ds → vs.length = ds.length
  | [], _, h => by cases h; rfl
  | d :: ds, _, h => by
    cases h with
    | cons h1 h2 => simp [dpsAll_len h2]
theorem vals_paired : ∀ {zs : List (V × PyData)} {us : List Value}, PySem.W.EachIs (fun (u : Value) (z : V × PyData) => RelV z.1 u) us zs → Vals (zs.map (·.1)) us
  | _, _, .nil => .nil
  | _, _, .cons r t => .cons r (vals_paired t)
section
variable {X : Cx}
theorem cr_sortedD (hu : X.A.units + 64 < cLine) : CallR X (.builtin "sorted") (rSortedD X.K) := by
  intro pins s σ H vs us Q I rv h
  obtain ⟨a, xs, ds, rfl, hs, hd, ⟨c1, c2, c3⟩, q⟩ := h
  obtain ⟨its, r, pl, hz⟩ := I.list hs
  rw [Vals.ref1 rv]
  have lx := dpsAll_len hd
  have li : its.length = xs.length := r.length.symm
  obtain ⟨zs, ezs⟩ : ∃ zs, zs = xs.zip ds := ⟨_, rfl⟩
  have lz : zs.length = its.length := by rw [ezs, List.length_zip]; omega
  have zget : ∀ (i : Nat) (z : V × PyData), zs[i]? = some z → xs[i]? = some z.1 ∧ ds[i]? = some z.2 := fun i z e => by
    rw [ezs, List.getElem?_zip_eq_some] at e
    exact e
  have both : ∀ (i : Nat) (u : Value) (z : V × PyData), its[i]? = some u → zs[i]? = some z → RelV z.1 u ∧ z.2 ∈ ds ∧ ∀ h', (∀ b o, s.heap.get? b = some o → h'.get? b = some o) → ∃ as, Reads h' u z.2 as := by
    intro i u z e1 e2
    obtain ⟨g1, g2⟩ := zget i z e2
    obtain ⟨u', e3, rr⟩ := r.get g1
    rw [e1] at e3
    cases e3
    refine ⟨rr, List.mem_of_getElem? g2, fun h' hk => ?_⟩
    obtain ⟨d, e4, dp⟩ := dpsAll_get hd g1
    rw [g2] at e4
    cases e4
    have J : Inv X pins σ H { s with heap := h', toks := s.toks } := I.kept hk
    exact Dp.reads J z.2 z.1 u dp rr
  have hsz : its.length ≤ sizeLine := by rw [li]; exact hz
  have old : ∀ b o, s.heap.get? b = some o → (PySem.W.sortingHeap (PySem.W.copyHeap s.heap its) (s.heap.objs.size + 1) its).get? b = some o := fun b o e => PySem.W.sorting_copy_old e
  have eD : PySem.W.EachIs (fun v d => ∃ as, Reads (PySem.W.sortingHeap (PySem.W.copyHeap s.heap its) (s.heap.objs.size + 1) its) v d as) its ds := each_of (by omega) fun i u d e1 e2 => by
    obtain ⟨x, e3⟩ : ∃ x, xs[i]? = some x := by
      have := (List.getElem?_eq_some_iff.mp e1).1
      exact ⟨_, List.getElem?_eq_getElem (by omega : i < xs.length)⟩
    have ez : zs[i]? = some (x, d) := by rw [ezs, List.getElem?_zip_eq_some]; exact ⟨e3, e2⟩
    exact (both i u (x, d) e1 ez).2.2 _ old
  have un : X.A.in1.in1.units = X.A.units + 2 := rfl
  have S := PySem.W.SortsAt.data (prog := X.prog) (w := X.w) (A := X.A.in1.in1) (s := { s with heap := PySem.W.sortingHeap (PySem.W.copyHeap s.heap its) (s.heap.objs.size + 1) its }) eD c1 c2 fun d hd => by
    have := c3 d hd
    rw [un]
    omega
  refine PySem.W.sorted_vals pl.isList S hsz ?_
  have e1 : PySem.W.EachIs (fun (u : Value) (z : V × PyData) => RelV z.1 u) its zs := each_of lz.symm fun i u z g1 g2 => (both i u z g1 g2).1
  have e2 : PySem.W.EachIs (fun v (z : V × PyData) => (PySem.W.dataKind (PySem.W.sortingHeap (PySem.W.copyHeap s.heap its) (s.heap.objs.size + 1) its) ds).keyOf v = some (PySem.W.keyToks z.2)) its zs := each_of lz.symm fun i u z g1 g2 => by
    obtain ⟨_, md, rd⟩ := both i u z g1 g2
    obtain ⟨as, rd⟩ := rd _ old
    exact PySem.W.dataKind_some c1 md rd
  have e3 := PySem.W.sortVals_each (κ := PySem.W.dataKind (PySem.W.sortingHeap (PySem.W.copyHeap s.heap its) (s.heap.objs.size + 1) its) ds) (rev := false) (fun z : V × PyData => PySem.W.keyToks z.2) e1 e2
  obtain ⟨ys, ey⟩ : ∃ ys, ys = zs.mergeSort (PySem.W.sortLe (PyProof.Rows.listOrd PyProof.Rows.itemOrd) false fun z : V × PyData => PySem.W.keyToks z.2) := ⟨_, rfl⟩
  have py : ys.Perm zs := by rw [ey]; exact List.mergeSort_perm _ _
  have my : ys.map (·.2) = sortDD ds := by
    have ed : zs.map (·.2) = ds := by rw [ezs]; exact List.map_snd_zip (by omega)
    rw [ey, ← ed]
    exact PySem.W.sort_maps (fun z : V × PyData => z.2) fun _ _ _ _ => rfl
  obtain ⟨out, eo⟩ : ∃ out, out = PySem.W.sortVals (PySem.W.dataKind (PySem.W.sortingHeap (PySem.W.copyHeap s.heap its) (s.heap.objs.size + 1) its) ds) false its its := ⟨_, rfl⟩
  rw [← eo] at e3 ⊢
  have e3 : PySem.W.EachIs (fun (u : Value) (z : V × PyData) => RelV z.1 u) out ys := by rw [ey]; exact e3
  have vo := vals_paired e3
  obtain ⟨ep, he'⟩ := PyProof.Rows.sortedAll_at s.heap its out.toArray
  have hlen : (ys.map (·.1)).length ≤ sizeLine := by rw [List.length_map, py.length_eq]; omega
  exact ⟨.ref _, upd H (s.heap.objs.size + 1) (.lst (ys.map (·.1))), I.laid (t' := s.toks) (fun _ _ => PyProof.Rows.sortedAll_old) (Nat.le_succ _) ⟨hlen, out, ep, vo, he'⟩, rfl, q ys (by rw [← ezs]; exact py) my _ (I.hok.fresh (Nat.le_succ _))⟩
end
theorem rps_zip {K : PySem.W.Frag} {G : Hp} : ∀ {zs : List (V × PyData)}, (∀ z ∈ zs, Rp K G z.1 z.2) → RpAll K G (zs.map (·.1)) (zs.map (·.2))
  | [], _ => .nil
  | z :: zs, h => .cons (h z List.mem_cons_self) (rps_zip fun z hz => h z (List.mem_cons_of_mem _ hz))
theorem cd_sorted {K : PySem.W.Frag} : CallD K (fun vs H Q => rSortedI K vs H Q ∨ rSortedD K vs H Q) sortedO := by
  intro G H vs ds r' Q ex hv ho k
  unfold sortedO at ho
  split at ho
  · cases hv with
    | cons h t =>
      cases t
      obtain ⟨p, xs, rfl, hp, hx⟩ := dq_lst h
      rename_i es
      cases q : intsD es with
      | none =>
        rw [q] at ho
        dsimp only at ho
        split at ho
        · rename_i hc
          cases ho
          refine .inr ⟨p, xs, es, rfl, .of hp, rps_dps _ _ (dps_mono ex _ _ hx), hc, fun zs pz mz l hl => ?_⟩
          have rz : RpAll K G (zs.map (·.1)) (zs.map (·.2)) := rps_zip fun z hz => by
            have hz := pz.mem_iff.mp hz
            obtain ⟨i, hi, e⟩ := List.mem_iff_getElem.mp hz
            have e : (xs.zip es)[i]? = some z := by rw [List.getElem?_eq_getElem hi, e]
            rw [List.getElem?_zip_eq_some] at e
            obtain ⟨d, e2, rr⟩ := dps_get hx e.1
            rw [e.2] at e2
            cases e2
            exact rr
          rw [mz] at rz
          exact k l _ hl rz
        · cases ho
      | some ns =>
        rw [q] at ho
        cases ho
        refine .inl ⟨p, ns, rfl, .of (by rw [← ints_rp hx q]; exact hp), fun ms l h1 h2 hl => ?_⟩
        rw [sortI_eq h1 h2]
        exact k l _ hl (rp_ints _)
  · cases ho
end DL

/-! DLg: promises of defs that are called where nothing is being written out (A.guards = some []) -/
noncomputable section
namespace DL
open PySem L2 PySem.Spec PyProof.Rows
open Evl (Ex)
structure RoomG (k : Nat) (A : Around) : Prop where
  room : Room k A
  quiet : A.guards = some []
theorem RoomG.mono {j k : Nat} {A : Around} (r : RoomG k A) (h : j ≤ k) : RoomG j A := ⟨r.room.mono h, r.quiet⟩
theorem RoomG.units {k : Nat} {A : Around} (r : RoomG k A) : A.units + 64 < cLine := r.room.units
theorem RoomG.deeper {k : Nat} {A : Around} (r : RoomG (k + 1) A) (env : Env) : RoomG k (A.deeper env) := ⟨r.room.deeper env, r.quiet⟩
structure FnG (P : Program) (w : World) (K : PySem.W.Frag) (mg : Str → Option Value) (base : Heap) (CX : CXT) (k : Nat) (f : Addr) (fd : FuncData) (ps : List Str) (sp : Sp) : Prop where
  many : ∀ vs H Q E, sp vs H Q E → vs.length = ps.length
  goes : ∀ (A : Around) (outer : List Env) (st : Shared) (H : Hp) (args : Args) (us : List Value) (vs : List V) (Q : VK) (E : XK), RoomG k A → Env0 P w K mg base A outer st H → BindsTo st fd args (ps.zip us) → Vals vs us → sp vs H Q E →
    codeAny (model P w) A (.call (.ref f) args) (CR CX outer P w H st Q E) st
section
variable {X : Cx} {CX : CXT} {k : Nat} {f : Addr} {fd : FuncData} {ps : List Str} {sp : Sp} {E : L2.St → XK} {x : Str} {p pos : Pos} {e : Expr} {es : List Expr} {t : TA}
theorem run_G {pins : List (Addr × Obj)} {σ : L2.St} {H : Hp} {st : Shared} {Q : VK} {us : List Value} {vs : List V} (F : FnG X.prog X.w X.K X.mg X.base CX k f fd ps sp) (hr : RoomG k X.A) (hb : Binds X.K fd ps []) (hx : PassesAt CX X σ (E σ))
    (I : Inv X pins σ H st) (r : Vals vs us) (h : sp vs H Q (E σ)) : wpAny (model X.prog X.w) X.A (call (.ref f) us) (EP X pins σ Q) X.xe st := by
  have hl : us.length = ps.length := r.length.symm.trans (F.many _ _ _ _ h)
  have hbind := hb st us I.kIn (by simpa using hl)
  rw [List.append_nil] at hbind
  refine wpAny_call (codeAny_mono (F.goes X.A X.stack st H ⟨us, []⟩ us vs Q (E σ) hr I.env0 hbind r h) ?_)
  intro res st' hq
  match res, hq with
  | .error z, hq => exact hx pins H st z st' I hq
  | .ok (.ret u), hq => exact I.after hq
  | .ok .next, hq => exact hq.elim
  | .ok .brk, hq => exact hq.elim
  | .ok .cont, hq => exact hq.elim
theorem pe_callG (F : FnG X.prog X.w X.K X.mg X.base CX k f fd ps sp) (hr : RoomG k X.A) (hg : Gl X x) (hm : X.mg x = some (.ref f)) (hk : PySem.W.keepIn X.K (.ref f) = true) (hb : Binds X.K fd ps []) (hx : ∀ σ, PassesAt CX X σ (E σ))
    (ha : PA X (e :: es) t) (hdb : (x == ("__debug__" : Str)) = false := by decide) (he : starEach (e :: es) X.env = (false, eval e X.env) :: starEach es X.env := by rfl) (hpl : (backTo pos (starEach es X.env)).any (·.1) = false := by rfl) :
    PE X (.Call (.Name x p) (e :: es) [] pos) (tCallS sp E t) :=
  ⟨fun pins st σ H Q I h => wpAny_Call_Name_kw (ld_glob I hg hm (PySem.W.callWith_K (h₀ := X.base) I.ok.mod.kin hk (thn (ha.run pos pins st σ H _ I h) fun _ _ ⟨_, _, I1, r, q⟩ => ⟨I1.kIn, run_G F hr hb (hx σ) I1 r q⟩) he hpl) hdb)⟩
end
section
variable {P : Program} {w : World} {K : PySem.W.Frag} {mg : Str → Option Value} {base : Heap}
theorem okG {x qual : Str} {d : Stmt} {f : Addr} {fd : FuncData} {N ps : List Str} {k : Nat} {sp : Sp} (F : Fun K x qual d f fd) (S : FnScope N ps (defScope d)) (many : ∀ vs H Q E, sp vs H Q E → vs.length = ps.length)
    (hbody : ∀ (cdv : Value) (A : Around) (outer : List Env) (st : Shared) (H : Hp) (vs : List V) (Q : VK) (E : XK), RoomG k (A.deeper (envOfC qual (defScope d) st.heap.objs.size f cdv)) → sp vs H Q E →
      ∃ t, PSs (cxOf (L2.CX P w) P w K mg base N qual (defScope d) f cdv A outer st H E) (defBody d) t ∧ t { nx := fun _ H' => Q .non H', rt := Q } (start N vs) H) : FnG P w K mg base (L2.CX P w) (k + 1) f fd ps sp := by
  obtain ⟨oc, od, kV, doc, pm, an, cdv, ct, osl, rfl, lk, hcd⟩ := F.ex
  refine ⟨many, ?_⟩
  intro A outer st H args us vs Q E hr e0 hb r hsp
  have up : ∀ b o, base.get? b = some o → st.heap.get? b = some o := fun b o z => (e0.bs b o z).1
  have KX : K.In st.heap := e0.mod.kin.keeps up
  refine codeAny_call_function hr.room.depth (KX _ _ lk) rfl S.co S.gen rfl (PySem.W.codeRec_of KX hcd) (hb _ _ _ _ (wpAny_newFunctionEnv_cells S.kind (fun y hy => ?_) fun env he st1 z => ?_))
  · rcases S.par y.1 (List.of_mem_zip (a := y.1) (b := y.2) hy).1 with q | q
    · exact .inl q
    · exact .inr ⟨q, PySem.W.cellsFrom_some _ _ _ (.inl q)⟩
  · subst he
    obtain ⟨t, ht, hq⟩ := hbody cdv A outer st H vs Q E (hr.deeper _) hsp
    have I : Inv (cxOf (L2.CX P w) P w K mg base N qual (defScope d) f cdv A outer st H E) [] (start N vs) H st1 := inv_start S hr.room.hd e0 (many _ _ _ _ hsp) r z
    refine ⟨(e0.mod.nolimit.keeps up).keeps z.toInCall.keep, codeAny_func (wpAny_mono (ht.run [] st1 (start N vs) H _ I hq) ?_ fun _ _ hs => hs)⟩
    intro fl st' hs
    match fl, hs with
    | .ret u, ⟨v, _, H', J, rv, q⟩ => exact ⟨v, H', J.os, J.bare, J.base, J.hok, rv, q⟩
    | .next, ⟨_, H', J, q⟩ => exact ⟨V.non, H', J.os, J.bare, J.base, J.hok, rfl, q⟩
    | .brk, ⟨_, _, _, q⟩ => exact q.elim
    | .cont, ⟨_, _, _, q⟩ => exact q.elim
end
/-! ### the end: the law is called where nothing is being written out -/
theorem quiet_caller {k : Nat} (h : Room k callerA) : RoomG k callerA := ⟨h, rfl⟩
section
variable {P : Program} {w : World} {K : PySem.W.Frag} {mg mb : Str → Option Value} {k : Nat} {fa a : Addr} {fd : FuncData} {x : Str} {sp : Sp} {s1 : Shared} {us : List Value} {ns : List Int}
def LawEnd (s1 : Shared) (r : Result) (s2 : Shared) : Prop := r = .ok (.ret (.bool true)) ∧ OldK s1.heap s2.heap ∧ s2.os = s1.os ∧ AllBare s2.gens
end
end DL

/-! DL10: calls of the program's own defs; a def -/
noncomputable section
namespace DL
open PySem L2 PyProof.Rows
open Evl (Ex)
structure FStp (G : Hp) (w : Pw) (H : Hp) (G' : Hp) (w' : Pw) (H' : Hp) : Prop where
  ex : Ex G G'
  gh : Ex G' H'
  keep : ∀ a o, H a = some o → ¬ POwn w a → H' a = some o ∧ G' a = G a
  own : ∀ a, POwn w' a → POwn w a ∨ H a = none
  dom : ∀ a, H a ≠ none → H' a ≠ none
  pw : ∀ a, POwn w a → POwn w' a
def FRel (K : PySem.W.Frag) (H G' : Hp) (w' : Pw) (H' : Hp) (v : V) : R → Prop
  | .val d => Rp K G' v d
  | .raw u => v = u
  | .ob o => ObRel K G' v o
  | .slot _ => False
  | .new ds => ∃ a xs, v = .ref a ∧ H' a = some (.lst xs) ∧ RpAll K G' xs ds ∧ G' a = none ∧ H a = none ∧ ¬ POwn w' a
def spF (K : PySem.W.Frag) (cl : String → Addr) (F : List R → Pw → FRes) : Sp := fun vs H Q E => ∃ (G : Hp) (rs : List R) (w : Pw), Ex G H ∧ Paired (AR K G) vs rs ∧ PwOk G w H ∧ match F rs w with
  | .ok r w' => ∀ v G' H', FStp G w H G' w' H' → PwOk G' w' H' → FRel K H G' w' H' v r → Q v H'
  | .err x w' => ∀ cls d G' H', FStp G w H G' w' H' → PwOk G' w' H' → XRel K cl x cls d G' → E cls d H'
  | .stuck => False
def fUser (F : List R → Pw → FRes) (fs : M (List R)) : M R := bnd fs fun rs s => match F rs s.w with
  | .ok r w' => .ok r { s with w := w' }
  | .err x w' => .err x { s with w := w' }
  | .stuck => .stuck
section
variable {K : PySem.W.Frag} {G H G' H' : Hp} {s : DSt} {σ : L2.St} {w' : Pw}
theorem call_stp (S : SA K G s σ H) (f : FStp G s.w H G' w' H') (pw : PwOk G' w' H') : Stp G s σ H G' { s with w := w' } σ H' ∧ SA K G' { s with w := w' } σ H' := by
  have own : ∀ i a, OwnAt s σ i a → H a ≠ none ∧ ¬ POwn s.w a := fun i a z => ⟨by obtain ⟨xs, e⟩ := S.ownL z; rw [e]; simp, S.pne i a z⟩
  refine ⟨⟨f.ex, fun a o h n => f.keep a o h fun z => n (.inr z), fun a z => ?_, f.dom, f.pw⟩, ⟨S.len, f.gh, fun i sl h => ?_, S.inj, fun i a z => ?_, pw, fun i a z q => ?_⟩⟩
  · rcases z with z | z
    · exact .inl (.inl z)
    · exact (f.own a z).imp .inr id
  · have q := S.slot i sl h
    cases sl with
    | no => trivial
    | val d => obtain ⟨v, e, hd⟩ := q; exact ⟨v, e, dp_mono f.ex _ _ hd⟩
    | raw v => exact q
    | ob o => obtain ⟨v, e, hd⟩ := q; exact ⟨v, e, ob_mono f.ex hd⟩
    | own es =>
      obtain ⟨a, xs, e, ha, hh⟩ := q
      have e' : σ[i]? = some (some (.ref a)) := by
        cases z : σ[i]? with
        | none => rw [z] at e; cases e
        | some o => rw [z] at e; simp at e; rw [e]
      exact ⟨a, xs, e, (f.keep a _ ha (own i a ⟨⟨es, h⟩, e'⟩).2).1, dps_mono f.ex _ _ hh⟩
  · obtain ⟨xs, e⟩ := S.ownL z
    rw [(f.keep a _ e (own i a z).2).2]
    exact S.ownG i a z
  · rcases f.own a q with q | q
    · exact (own i a z).2 q
    · exact (own i a z).1 q
end
section
variable {X : Cx} {cl : String → Addr} {W : WX} {e : Expr} {es : List Expr} {fs : M (List R)} {pos : Pos}
theorem user_reads {K : PySem.W.Frag} {F : List R → Pw → FRes} {σ : L2.St} {H : Hp} {Q : VK} (q : tD K cl W (fUser F fs) σ H Q) : tCallS (spF K cl F) (WE W) (tAe K cl W fs) σ H Q := by
  obtain ⟨G, s, S, q⟩ := q
  refine ⟨G, s, S, out_mono (out_bind q) fun rs G1 s1 H1 st1 S1 k vs hv => ⟨G1, rs, s1.w, S1.gh, hv, S1.pw, ?_⟩⟩
  cases z : F rs s1.w with
  | ok r w' =>
    rw [z] at k
    intro v G' H' f pw fr
    obtain ⟨st, S'⟩ := call_stp S1 f pw
    refine k G' H' st S' v ?_
    cases r with
    | val d => exact fr
    | raw u => exact fr
    | ob o => exact fr
    | slot i => exact fr.elim
    | new ds =>
      obtain ⟨a, xs, e, ha, hd, hg, h0, hn⟩ := fr
      refine ⟨a, xs, e, ha, hd, hg, Classical.byContradiction fun z => st1.dom a z h0, fun z => ?_⟩
      rcases z with ⟨i, z⟩ | z
      · obtain ⟨ys, e2⟩ := S1.ownL z
        rw [h0] at e2; cases e2
      · exact hn z
  | err x w' =>
    rw [z] at k
    intro cls d G' H' f pw xr
    obtain ⟨st, S'⟩ := call_stp S1 f pw
    exact k cls d G' H' st S' xr
  | stuck => rw [z] at k; exact k
theorem d_user {F : List R → Pw → FRes} {k : Nat} {f : Addr} {fd : FuncData} {ps : List Str} {x : Str} {p : Pos} (hF : FnG X.prog X.w X.K X.mg X.base (L2.CX X.prog X.w) k f fd ps (spF X.K cl F)) (hr : RoomG k X.A) (hg : Gl X x) (hm : X.mg x = some (.ref f)) (hk : PySem.W.keepIn X.K (.ref f) = true) (hb : Binds X.K fd ps [])
    (hx : ∀ σ, PassesAt (L2.CX X.prog X.w) X σ (WE W σ)) (ha : DAe X cl W (e :: es) fs) (hdb : (x == ("__debug__" : Str)) = false := by decide) (he : starEach (e :: es) X.env = (false, eval e X.env) :: starEach es X.env := by rfl) (hpl : (backTo pos (starEach es X.env)).any (·.1) = false := by rfl) :
    DE X cl W (.Call (.Name x p) (e :: es) [] pos) (fUser F fs) := pe_imp (pe_callG hF hr hg hm hk hb hx ha hdb he hpl) fun σ H Q q => user_reads q
theorem passA0 {X : Cx} (σ : L2.St) : PassesAt (L2.CX X.prog X.w) X σ (WE W0 σ) := fun _ _ _ _ _ _ h => by
  obtain ⟨_, _, _, _, _, _, _, _, _, _, _, _, z⟩ := h
  exact z.elim
end
/-! ### a def -/
def toSl : R → Sl
  | .val d => .val d
  | .raw v => .raw v
  | .ob o => .ob o
  | _ => .no
def finR (r : R) (s : DSt) : Option R := match r with
  | .slot i => match s.d[i]? with
    | some (.own ds) => some (.new ds)
    | some (.val d) => some (.val d)
    | _ => none
  | r => some r
def runF (n nps : Nat) (p : DSt → Flow) : List R → Pw → FRes := fun rs w => if rs.length = nps then match p ⟨rs.map toSl ++ List.replicate (n - nps) .no, w⟩ with
  | .next s => .ok (.val .none) s.w
  | .ret r s => match finR r s with
    | some r' => .ok r' s.w
    | none => .stuck
  | .err x s => .err x s.w
  | _ => .stuck
  else .stuck
section
variable {K : PySem.W.Frag} {cl : String → Addr}
theorem pair_len {G : Hp} : ∀ {vs : List V} {rs : List R}, Paired (AR K G) vs rs → vs.length = rs.length
  | _, _, .nil => rfl
  | _, _, .cons _ t => by simp [pair_len t]
theorem pair_get {G : Hp} : ∀ {vs : List V} {rs : List R} {i : Nat} {r : R}, Paired (AR K G) vs rs → rs[i]? = some r → ∃ v, vs[i]? = some v ∧ AR K G v r
  | _, _, _, _, .nil, e => by simp at e
  | _, _, 0, r, .cons h t, e => by simp at e; subst e; exact ⟨_, rfl, h⟩
  | _, _, i + 1, r, .cons h t, e => by simpa using pair_get (i := i) t (by simpa using e)
theorem start_sa {G H : Hp} {N : List Str} {vs : List V} {rs : List R} {w : Pw} {nps : Nat} (gh : Ex G H) (hv : Paired (AR K G) vs rs) (pw : PwOk G w H) (hn : rs.length = nps) (hN : nps ≤ N.length) : SA K G ⟨rs.map toSl ++ List.replicate (N.length - nps) .no, w⟩ (L2.start N vs) H := by
  have hl := pair_len hv
  have no : ∀ (i : Nat) ds, (rs.map toSl ++ List.replicate (N.length - nps) Sl.no)[i]? ≠ some (.own ds) := by
    intro i ds e
    rw [List.getElem?_append] at e
    split at e
    · rw [List.getElem?_map] at e
      cases q : rs[i]? with
      | none => rw [q] at e; cases e
      | some r => rw [q] at e; cases r <;> cases e
    · rw [List.getElem?_replicate] at e
      split at e <;> cases e
  refine ⟨by simp [L2.start, hl]; omega, gh, fun i sl h => ?_, fun i j a h _ => ?_, fun i a h => ?_, pw, fun i a h => ?_⟩
  · cases sl with
    | no => trivial
    | own ds => exact (no i ds h).elim
    | val d =>
      simp only [List.getElem?_append] at h
      split at h
      · rename_i hi
        rw [List.getElem?_map] at h
        cases q : rs[i]? with
        | none => rw [q] at h; cases h
        | some r =>
          rw [q] at h
          obtain ⟨v, e, ar⟩ := pair_get hv q
          have hi' : i < (vs.map some).length := by simp at hi ⊢; omega
          cases r with
          | val d' =>
            cases h
            refine ⟨v, ?_, ar⟩
            simp only [L2.start, List.getElem?_append, hi', if_true, List.getElem?_map, e]
            rfl
          | raw u => cases h
          | ob u => cases h
          | new u => cases h
          | slot u => cases h
      · rw [List.getElem?_replicate] at h
        split at h <;> cases h
    | ob d =>
      simp only [List.getElem?_append] at h
      split at h
      · rename_i hi
        rw [List.getElem?_map] at h
        cases q : rs[i]? with
        | none => rw [q] at h; cases h
        | some r =>
          rw [q] at h
          obtain ⟨v, e, ar⟩ := pair_get hv q
          have hi' : i < (vs.map some).length := by simp at hi ⊢; omega
          cases r with
          | ob d' =>
            cases h
            refine ⟨v, ?_, ar⟩
            simp only [L2.start, List.getElem?_append, hi', if_true, List.getElem?_map, e]
            rfl
          | raw u => cases h
          | val u => cases h
          | new u => cases h
          | slot u => cases h
      · rw [List.getElem?_replicate] at h
        split at h <;> cases h
    | raw u =>
      simp only [List.getElem?_append] at h
      split at h
      · rename_i hi
        rw [List.getElem?_map] at h
        cases q : rs[i]? with
        | none => rw [q] at h; cases h
        | some r =>
          rw [q] at h
          obtain ⟨v, e, ar⟩ := pair_get hv q
          have hi' : i < (vs.map some).length := by simp at hi ⊢; omega
          cases r with
          | raw u' =>
            cases h
            have ar : v = _ := ar
            subst ar
            show (L2.start N vs)[i]?.join = _
            simp only [L2.start, List.getElem?_append, hi', if_true, List.getElem?_map, e]
            rfl
          | val u => cases h
          | ob u => cases h
          | new u => cases h
          | slot u => cases h
      · rw [List.getElem?_replicate] at h
        split at h <;> cases h
  · obtain ⟨⟨ds, e⟩, _⟩ := h; exact (no i ds e).elim
  · obtain ⟨⟨ds, e⟩, _⟩ := h; exact (no i ds e).elim
  · obtain ⟨⟨ds, e⟩, _⟩ := h; exact (no i ds e).elim
theorem start_own {rs : List R} {n : Nat} {w : Pw} {σ : L2.St} {a : Addr} (h : Own ⟨rs.map toSl ++ List.replicate n .no, w⟩ σ a) : POwn w a := by
  rcases h with ⟨i, ⟨ds, e⟩, _⟩ | h
  · exfalso
    simp only [List.getElem?_append] at e
    split at e
    · rw [List.getElem?_map] at e
      cases q : rs[i]? with
      | none => rw [q] at e; cases e
      | some r => rw [q] at e; cases r <;> cases e
    · rw [List.getElem?_replicate] at e
      split at e <;> cases e
  · exact h
theorem fstp_of {G H G' H' : Hp} {rs : List R} {n : Nat} {w : Pw} {σ σ' : L2.St} {s' : DSt} (st : Stp G ⟨rs.map toSl ++ List.replicate n .no, w⟩ σ H G' s' σ' H') (S' : SA K G' s' σ' H') : FStp G w H G' s'.w H' :=
  ⟨st.ex, S'.gh, fun a o h nw => st.keep a o h fun z => nw (start_own z), fun a z => (st.own a (.inr z)).imp start_own id, st.dom, st.pw⟩
theorem def_ok {P : Program} {w : World} {mg : Str → Option Value} {base : Heap} {x qual : Str} {st : Stmt} {f : Addr} {fd : FuncData} {N ps : List Str} {k : Nat} {p : DSt → Flow} (F : Fun K x qual st f fd) (S : FnScope N ps (defScope st)) (hN : ps.length ≤ N.length)
    (hb : ∀ (cdv : Value) (A : Around) (outer : List Env) (s : Shared) (H : Hp) (E : XK), RoomG k (A.deeper (envOfC qual (defScope st) s.heap.objs.size f cdv)) →
      DSs (cxOf (L2.CX P w) P w K mg base N qual (defScope st) f cdv A outer s H E) cl (fun cls d _ H => E cls d H) (defBody st) p) : FnG P w K mg base (L2.CX P w) (k + 1) f fd ps (spF K cl (runF N.length ps.length p)) := by
  have hlen : ∀ {rs : List R} {w : Pw}, (match runF N.length ps.length p rs w with | .stuck => False | _ => True) → rs.length = ps.length := by
    intro rs w h
    unfold runF at h
    split at h
    · exact h.elim
    · rename_i z
      by_cases q : rs.length = ps.length
      · exact q
      · rw [if_neg q] at z; exact absurd rfl z
  refine okG F S (fun vs H Q E h => ?_) fun cdv A outer s H vs Q E hr h => ⟨_, hb cdv A outer s H E hr, ?_⟩
  · obtain ⟨G, rs, w, gh, hv, pw, k⟩ := h
    rw [pair_len hv]
    refine hlen (w := w) ?_
    cases z : runF N.length ps.length p rs w with
    | ok r w' => trivial
    | err x w' => trivial
    | stuck => rw [z] at k; exact k
  · obtain ⟨G, rs, w, gh, hv, pw, k⟩ := h
    have hn : rs.length = ps.length := by
      refine hlen (w := w) ?_
      cases z : runF N.length ps.length p rs w with
      | ok r w' => trivial
      | err x w' => trivial
      | stuck => rw [z] at k; exact k
    refine ⟨G, ⟨rs.map toSl ++ List.replicate (N.length - ps.length) .no, w⟩, show SA K G _ (L2.start N vs) H from start_sa gh hv pw hn hN, ?_⟩
    unfold runF at k
    rw [if_pos hn] at k
    cases z : p ⟨rs.map toSl ++ List.replicate (N.length - ps.length) .no, w⟩ with
    | next s' => rw [z] at k; exact fun G' σ' H' st S' => k .non G' H' (fstp_of st S') S'.pw .non
    | brk s' => rw [z] at k; exact k.elim
    | cnt s' => rw [z] at k; exact k.elim
    | stuck => rw [z] at k; exact k.elim
    | err x s' => rw [z] at k; exact fun cls d G' σ' H' st S' xr => k cls d G' H' (fstp_of st S') S'.pw xr
    | ret r s' =>
      rw [z] at k
      intro v G' σ' H' st S' rr
      cases r with
      | val d => exact k v G' H' (fstp_of st S') S'.pw rr
      | raw u => exact k v G' H' (fstp_of st S') S'.pw rr
      | ob o => exact k v G' H' (fstp_of st S') S'.pw rr
      | new ds =>
        refine k v G' H' (fstp_of st S') S'.pw ?_
        obtain ⟨a, xs, e, ha, hd, hg, h0, hn⟩ := rr
        exact ⟨a, xs, e, ha, hd, hg, h0, fun z => hn (.inr z)⟩
      | slot i =>
        have rr : σ'[i]? = some (some v) := rr
        dsimp only [finR] at k
        cases q : s'.d[i]? with
        | none => rw [q] at k; exact k.elim
        | some sl =>
          rw [q] at k
          cases sl with
          | no => exact k.elim
          | raw u => exact k.elim
          | ob o => exact k.elim
          | val d =>
            refine k v G' H' (fstp_of st S') S'.pw ?_
            obtain ⟨u, e, hd⟩ := S'.slot i _ q
            rw [rr] at e
            cases e
            exact hd
          | own ds =>
            refine k v G' H' (fstp_of st S') S'.pw ?_
            obtain ⟨a, xs, e, ha, hd⟩ := S'.slot i _ q
            rw [rr] at e
            cases e
            have ho : OwnAt s' σ' i a := ⟨⟨ds, q⟩, rr⟩
            refine ⟨a, xs, rfl, ha, hd, S'.ownG i a ho, ?_, S'.pne i a ho⟩
            rcases st.own a (.inl ⟨i, ho⟩) with z | z
            · have z := start_own z
              exact absurd (st.pw a z) (S'.pne i a ho)
            · exact z
end
end DL

/-! DL11: methods of lists, isinstance, small statements -/
noncomputable section
namespace DL
open PySem L2 PyProof.Rows
open Evl (Ex)
section
variable {K : PySem.W.Frag} {G H : Hp} {s : DSt} {σ : L2.St}
theorem own_write {i : Nat} {ds ds' : List PyData} {a : Addr} {xs' : List V} (S : SA K G s σ H) (h : s.d[i]? = some (.own ds)) (e : σ[i]? = some (some (.ref a))) (hd : RpAll K G xs' ds') :
    Stp G s σ H G (putS i (.own ds') s) σ (upd H a (.lst xs')) ∧ SA K G (putS i (.own ds') s) σ (upd H a (.lst xs')) := by
  have il : i < s.d.length := (List.getElem?_eq_some_iff.mp h).1
  have ho : OwnAt s σ i a := ⟨⟨ds, h⟩, e⟩
  have hg := S.ownG i a ho
  have od : ∀ j b, OwnAt (putS i (.own ds') s) σ j b → OwnAt s σ j b := by
    rintro j b ⟨⟨es, q⟩, z⟩
    by_cases w : j = i
    · subst w; exact ⟨⟨ds, h⟩, z⟩
    · simp only [putS, List.getElem?_set_ne (Ne.symm w)] at q; exact ⟨⟨es, q⟩, z⟩
  have ow : ∀ b, Own (putS i (.own ds') s) σ b → Own s σ b := fun b z => z.imp (fun ⟨j, z⟩ => ⟨j, od j b z⟩) id
  refine ⟨⟨Ex.refl G, fun b o hb nb => ⟨?_, rfl⟩, fun b z => .inl (ow b z), fun b hb => ?_, fun _ z => z⟩, ⟨by simp [putS, S.len], fun b u hb => ?_, fun j sl hj => ?_, fun j k b h1 h2 => S.inj j k b (od j b h1) (od k b h2), fun j b z => S.ownG j b (od j b z), ?_, fun j b z => S.pne j b (od j b z)⟩⟩
  · rw [upd_ne fun z => nb (by subst z; exact .inl ⟨i, ho⟩)]; exact hb
  · by_cases z : b = a
    · subst z; rw [upd_same]; simp
    · rw [upd_ne z]; exact hb
  · rw [upd_ne fun z => by subst z; rw [hg] at hb; cases hb]; exact S.gh b u hb
  · by_cases w : j = i
    · subst w
      simp only [putS, List.getElem?_set_self il] at hj
      cases hj
      exact ⟨a, xs', by rw [e] <;> rfl, upd_same, hd⟩
    · simp only [putS, List.getElem?_set_ne (Ne.symm w)] at hj
      have q := S.slot j sl hj
      cases sl with
      | no => trivial
      | val d => exact q
      | raw v => exact q
      | ob o => exact q
      | own es =>
        obtain ⟨b, ys, e2, hb, hh⟩ := q
        refine ⟨b, ys, e2, ?_, hh⟩
        have e3 : σ[j]? = some (some (.ref b)) := by
          cases z : σ[j]? with
          | none => rw [z] at e2; cases e2
          | some o => rw [z] at e2; simp at e2; rw [e2]
        rw [upd_ne fun z => w (by subst z; exact S.inj j i b ⟨⟨es, hj⟩, e3⟩ ho)]
        exact hb
  · obtain ⟨ys, hy⟩ := S.ownL ho
    exact pwok_to S.pw (fun b o h z => by rw [upd_ne fun q => S.pne i a ho (by subst q; exact z)]; exact h) (fun b φ h => by rw [upd_ne fun q => by subst q; rw [hy] at h; cases h]; exact h) fun b z => G_pown S.pw z
theorem own_at {i : Nat} {ds : List PyData} (S : SA K G s σ H) (h : s.d[i]? = some (.own ds)) : ∃ a xs, σ[i]? = some (some (.ref a)) ∧ H a = some (.lst xs) ∧ RpAll K G xs ds := by
  obtain ⟨a, xs, e, ha, hd⟩ := S.slot i _ h
  refine ⟨a, xs, ?_, ha, hd⟩
  cases z : σ[i]? with
  | none => rw [z] at e; cases e
  | some o => rw [z] at e; simp at e; rw [e]
end
theorem intsAre_vals' : ∀ {ns : List Int} {us : List Value}, Vals (ns.map V.int) us → PyProof.Rows.IntsAre us ns
  | [], _, .nil => .nil
  | n :: ns, _, .cons r t => by
    obtain ⟨k, rfl⟩ := r
    exact .cons n k (intsAre_vals' t)
def isOwn (i : Nat) (s : DSt) : Bool := match s.d[i]? with
  | some (.own _) => true
  | _ => false
def fApp (i : Nat) (f : M R) : M R := fun s => if isOwn i s then bnd f (fun r => bnd (fEsc r) fun r' s' => match r', s'.d[i]? with
    | .val d, some (.own ds) => if ltS (ds.length) then .ok (.val .none) (putS i (.own (ds ++ [d])) s') else .stuck
    | _, _ => .stuck) s
  else .stuck
theorem isOwn_get {i : Nat} {s : DSt} (h : isOwn i s = true) : ∃ ds, s.d[i]? = some (.own ds) := by
  unfold isOwn at h
  split at h
  · exact ⟨_, by assumption⟩
  · cases h
section
variable {X : Cx} {cl : String → Addr} {W : WX} {e a b c : Expr} {es : List Expr} {f g : M R} {fs : M (List R)} {pos : Pos} {p q : DSt → Flow}
theorem d_append {i : Nat} {x : Expr} {ap cp : Pos} (hx : PE X x (tVar i)) (ha : DE X cl W e f) (hbase : attributeBase x "append" X.env (eval x X.env) = eval x X.env := by rfl)
    (hfew : ((backTo cp (starEach [e] X.env)).all (fun x => !x.1) && (backToKw cp (keywordEach [] X.env)).all (fun x => x.1.isSome) && decide (([e] : List Expr).length + ([] : List Keyword).length + (if ([] : List Keyword).isEmpty then 0 else 1) < 30)) = true := by rfl)
    (hline : (ap.endLine == cp.line) = true := by rfl) (hs : starEach [e] X.env = (false, eval e X.env) :: starEach [] X.env := by rfl) (hplain : (backTo cp (starEach [] X.env)).any (·.1) = false := by rfl) :
    DE X cl W (.Call (.Attribute x "append" ap) [e] [] cp) (fApp i f) := by
  refine pe_imp (pe_bm PySem.F.plainAttrs_list PySem.F.slot_list_append PySem.F.type_list_append mt_append hx (pa_cons ha pa_nil hs) hbase hfew hline hs hplain) fun σ H Q ⟨G, s, S, q⟩ => ?_
  unfold fApp at q
  split at q
  rotate_left
  · exact q.elim
  rename_i ho
  obtain ⟨ds0, h0⟩ := isOwn_get ho
  obtain ⟨l, xs0, el, hl0, _⟩ := own_at S h0
  refine ⟨.ref l, el, .inl ⟨rfl, _, .of hl0⟩, G, s, S, ?_⟩
  refine out_mono (out_esc q) fun r G1 s1 H1 st1 S1 k v rr => ?_
  obtain ⟨G2, s2, r2, st2, S2, ar, ex, k2⟩ := k v rr
  split at k2
  · rename_i d ds h2
    split at k2
    · rename_i hz
      obtain ⟨l2, xs, el2, hl2, hd2⟩ := own_at S2 h2
      rw [el] at el2
      cases el2
      obtain ⟨st3, S3⟩ := own_write S2 h2 el (dps_app hd2 (.cons ar .nil))
      exact ⟨l, xs, v, rfl, rfl, hl2, by rw [dps_len hd2]; exact hz, k2 _ _ st3 S3 _ .non⟩
    · exact k2.elim
  · exact k2.elim
def fPop (i : Nat) : M R := fun s => match s.d[i]? with
  | some (.own ds) => match ds[ds.length - 1]? with
    | some d => .ok (.val d) (putS i (.own ds.dropLast) s)
    | none => .stuck
  | _ => .stuck
theorem dps_at {K : PySem.W.Frag} {G : Hp} {ds : List PyData} {vs : List V} {i : Nat} {d : PyData} (h : RpAll K G vs ds) (e : ds[i]? = some d) : ∃ v, vs[i]? = some v ∧ Rp K G v d := by
  have hi : i < vs.length := by rw [dps_len h]; exact (List.getElem?_eq_some_iff.mp e).1
  obtain ⟨d', e', r⟩ := dps_get h (List.getElem?_eq_getElem hi)
  rw [e] at e'
  cases e'
  exact ⟨_, List.getElem?_eq_getElem hi, r⟩
def fPopAt (i : Nat) (f : M R) : M R := fun s => if isOwn i s then bnd f (fun r s' => match look r s', s'.d[i]? with
    | some (.int k), some (.own ds) => match ixN ds.length k with
      | some j => match ds[j]? with
        | some d => if inW k then .ok (.val d) (putS i (.own (ds.eraseIdx j)) s') else .stuck
        | none => .stuck
      | none => .stuck
    | _, _ => .stuck) s
  else .stuck
theorem d_popAt {i : Nat} {x : Expr} {ap cp : Pos} (hx : PE X x (tVar i)) (ha : DE X cl W e f) (hbase : attributeBase x "pop" X.env (eval x X.env) = eval x X.env := by rfl)
    (hfew : ((backTo cp (starEach [e] X.env)).all (fun x => !x.1) && (backToKw cp (keywordEach [] X.env)).all (fun x => x.1.isSome) && decide (([e] : List Expr).length + ([] : List Keyword).length + (if ([] : List Keyword).isEmpty then 0 else 1) < 30)) = true := by rfl)
    (hline : (ap.endLine == cp.line) = true := by rfl) (hs : starEach [e] X.env = (false, eval e X.env) :: starEach [] X.env := by rfl) (hplain : (backTo cp (starEach [] X.env)).any (·.1) = false := by rfl) :
    DE X cl W (.Call (.Attribute x "pop" ap) [e] [] cp) (fPopAt i f) := by
  refine pe_imp (pe_bm PySem.F.plainAttrs_list PySem.F.slot_list_pop PySem.F.type_list_pop mt_popAt hx (pa_cons ha pa_nil hs) hbase hfew hline hs hplain) fun σ H Q ⟨G, s, S, q⟩ => ?_
  unfold fPopAt at q
  split at q
  rotate_left
  · exact q.elim
  rename_i ho
  obtain ⟨ds0, h0⟩ := isOwn_get ho
  obtain ⟨l, xs0, el, hl0, _⟩ := own_at S h0
  refine ⟨.ref l, el, .inl ⟨rfl, _, .of hl0⟩, G, s, S, ?_⟩
  refine out_mono (out_bind q) fun r G1 s1 H1 st1 S1 k v rr => ?_
  split at k
  · rename_i n ds e1 h1
    obtain rfl := dq_int (look_q S1 rr e1)
    split at k
    · rename_i j ej
      split at k
      · rename_i d ed
        split at k
        · rename_i hb
          obtain ⟨l2, xs, el2, hl2, hd2⟩ := own_at S1 h1
          rw [el] at el2
          cases el2
          obtain ⟨u, eu, ru⟩ := dps_at hd2 ed
          obtain ⟨st3, S3⟩ := own_write S1 h1 el (dps_erase j hd2)
          have hj := (ixN_seq ej).1
          exact ⟨l, xs, n, j, u, rfl, rfl, hl2, hb.1, hb.2, by rw [dps_len hd2]; exact hj, eu, k _ _ st3 S3 u ru⟩
        · exact k.elim
      · exact k.elim
    · exact k.elim
  · exact k.elim
def fIns (i : Nat) (fs : M (List R)) : M R := fun s => if isOwn i s then bnd fs (fun rs s' => match rs, s'.d[i]? with
    | [.val (.int k), .val d], some (.own ds) => if 0 ≤ k ∧ inW k ∧ ltS (ds.length) then .ok (.val .none) (putS i (.own (ds.take k.toNat ++ [d] ++ ds.drop k.toNat)) s') else .stuck
    | _, _ => .stuck) s
  else .stuck
theorem d_insert {i : Nat} {x : Expr} {ap cp : Pos} (hx : PE X x (tVar i)) (ha : DAe X cl W (a :: [b]) fs) (hbase : attributeBase x "insert" X.env (eval x X.env) = eval x X.env := by rfl)
    (hfew : ((backTo cp (starEach [a, b] X.env)).all (fun x => !x.1) && (backToKw cp (keywordEach [] X.env)).all (fun x => x.1.isSome) && decide (([a, b] : List Expr).length + ([] : List Keyword).length + (if ([] : List Keyword).isEmpty then 0 else 1) < 30)) = true := by rfl)
    (hline : (ap.endLine == cp.line) = true := by rfl) (hs : starEach [a, b] X.env = (false, eval a X.env) :: starEach [b] X.env := by rfl) (hplain : (backTo cp (starEach [b] X.env)).any (·.1) = false := by rfl) :
    DE X cl W (.Call (.Attribute x "insert" ap) [a, b] [] cp) (fIns i fs) := by
  refine pe_imp (pe_bm PySem.F.plainAttrs_list PySem.F.slot_list_insert PySem.F.type_list_insert mt_insert hx ha hbase hfew hline hs hplain) fun σ H Q ⟨G, s, S, q⟩ => ?_
  unfold fIns at q
  split at q
  rotate_left
  · exact q.elim
  rename_i ho
  obtain ⟨ds0, h0⟩ := isOwn_get ho
  obtain ⟨l, xs0, el, hl0, _⟩ := own_at S h0
  refine ⟨.ref l, el, .inl ⟨rfl, _, .of hl0⟩, G, s, S, ?_⟩
  refine out_mono (out_bind q) fun rs G1 s1 H1 st1 S1 k vs hv => ?_
  split at k
  · rename_i n d ds h1
    split at k
    · rename_i hb
      cases hv with
      | cons r1 r2 =>
        cases r2 with
        | cons r2 r3 =>
          cases r3
          cases (show Rp X.K G1 _ (.int n) from r1)
          obtain ⟨l2, xs, el2, hl2, hd2⟩ := own_at S1 h1
          rw [el] at el2
          cases el2
          obtain ⟨st3, S3⟩ := own_write S1 h1 el (dps_app (dps_app (dps_take n.toNat hd2) (.cons r2 .nil)) (dps_drop n.toNat hd2))
          exact ⟨l, xs, n, _, rfl, rfl, hl2, by rw [dps_len hd2]; exact hb.2.2, hb.1, hb.2.1.2, k _ _ st3 S3 _ .non⟩
    · exact k.elim
  · exact k.elim
def fRem (i : Nat) (f : M R) : M R := fun s => if isOwn i s then bnd f (fun r s' => match look r s', s'.d[i]? with
    | some (.int k), some (.own ds) => match intsD ds with
      | some ns => match ns.findIdx? (· == k) with
        | some j => .ok (.val .none) (putS i (.own ((ns.eraseIdx j).map .int)) s')
        | none => .stuck
      | none => .stuck
    | _, _ => .stuck) s
  else .stuck
def fClear (i : Nat) : M R := fun s => match s.d[i]? with
  | some (.own ds) => .ok (.val .none) (putS i (.own []) s)
  | _ => .stuck
def flatD : PyData → Bool
  | .none | .bool _ | .int _ | .str _ => true
  | _ => false
theorem flat_v {K : PySem.W.Frag} {G : Hp} {v : V} {d : PyData} (h : Rp K G v d) (f : flatD d = true) : flatV v = true := by
  cases h <;> first | rfl | cases f
theorem eqv_flat {K : PySem.W.Frag} {G : Hp} {v u : V} {d e : PyData} (h : Rp K G v d) (h2 : Rp K G u e) (f : flatD d = true) (f2 : flatD e = true) : eqV v u = PyData.eqv d e := by
  cases h <;> first | (cases f; done) | (cases h2 <;> first | (cases f2; done) | rfl | simp [eqV, PyData.eqv])
def idxO (ds : List PyData) (d : PyData) : Option Nat := if ds.all flatD && flatD d then ds.findIdx? (fun z => PyData.eqv z d) else none
def isLst (x : R) (s : DSt) : Bool := match look x s with
  | some (.list _) => true
  | _ => false
def fIndex (g f : M R) : M R := bnd g fun x s => if isLst x s then bnd f (fun r s => match look x s, look r s with
  | some (.list ds), some d => match idxO ds d with
    | some j => .ok (.val (.int (j : Nat))) s
    | none => .stuck
  | _, _ => .stuck) s
  else .stuck
theorem isLst_ty {K : PySem.W.Frag} {H0 G H : Hp} {s : DSt} {σ : L2.St} {v : V} {x : R} (S : SA K G s σ H) (h : RRel K H0 G s σ H v x) (e : isLst x s = true) : tyV K "list" v H := by
  unfold isLst at e
  split at e
  · rename_i ds q
    obtain ⟨p, xs, rfl, hp, _⟩ := dq_lst (look_q S h q)
    exact .inl ⟨rfl, _, .of hp⟩
  · cases e
theorem d_index {ap cp : Pos} (hx : DE X cl W a g) (ha : DE X cl W e f) (hbase : attributeBase a "index" X.env (eval a X.env) = eval a X.env := by rfl)
    (hfew : ((backTo cp (starEach [e] X.env)).all (fun x => !x.1) && (backToKw cp (keywordEach [] X.env)).all (fun x => x.1.isSome) && decide (([e] : List Expr).length + ([] : List Keyword).length + (if ([] : List Keyword).isEmpty then 0 else 1) < 30)) = true := by rfl)
    (hline : (ap.endLine == cp.line) = true := by rfl) (hs : starEach [e] X.env = (false, eval e X.env) :: starEach [] X.env := by rfl) (hplain : (backTo cp (starEach [] X.env)).any (·.1) = false := by rfl) :
    DE X cl W (.Call (.Attribute a "index" ap) [e] [] cp) (fIndex g f) := by
  refine pe_imp (pe_bm PySem.F.plainAttrs_list PySem.F.slot_list_index PySem.F.type_list_index mt_index hx (pa_cons ha pa_nil hs) hbase hfew hline hs hplain) fun σ H Q ⟨G, s, S, q⟩ => ?_
  refine ⟨G, s, S, out_mono (out_bind q) fun x G1 s1 H1 st1 S1 k v rr => ?_⟩
  split at k
  rotate_left
  · exact k.elim
  rename_i hl
  refine ⟨isLst_ty S1 rr hl, G1, s1, S1, out_mono (out_bind k) fun r G2 s2 H2 st2 S2 k2 u ru => ?_⟩
  have rr2 := rr.mono st2
  split at k2
  · rename_i ds d e1 e2
    split at k2
    · rename_i j ej
      obtain ⟨p, xs, rfl, hp, hd⟩ := dq_lst (look_q S2 rr2 e1)
      have hu := look_q S2 ru e2
      unfold idxO at ej
      split at ej
      rotate_left
      · cases ej
      rename_i hf
      rw [Bool.and_eq_true] at hf
      have hu' : Rp X.K G2 u d := by
        cases d with
        | list _ => cases hf.2
        | _ => exact hu
      obtain ⟨hj, h3, h4⟩ := List.findIdx?_eq_some_iff_getElem.mp ej
      have hxl := dps_len hd
      have fl : ∀ z ∈ xs, flatV z = true := fun z hz => by
        obtain ⟨m, hm, rfl⟩ := List.mem_iff_getElem.mp hz
        obtain ⟨d', e', r'⟩ := dps_get hd (List.getElem?_eq_getElem hm)
        exact flat_v r' (List.all_eq_true.mp hf.1 _ (List.mem_of_getElem? e'))
      have ev : ∀ (m : Nat) (z : V), xs[m]? = some z → ∃ d', ds[m]? = some d' ∧ eqV z u = PyData.eqv d' d := fun m z hz => by
        obtain ⟨d', e', r'⟩ := dps_get hd hz
        exact ⟨d', e', eqv_flat r' hu' (List.all_eq_true.mp hf.1 _ (List.mem_of_getElem? e')) hf.2⟩
      have hj' : j < xs.length := by omega
      obtain ⟨d1, f1, f2⟩ := ev j _ (List.getElem?_eq_getElem hj')
      rw [List.getElem?_eq_getElem hj] at f1
      cases f1
      refine ⟨p, xs, u, j, xs[j], rfl, rfl, .of hp, flat_v hu' hf.2, List.all_eq_true.mpr fl, List.getElem?_eq_getElem hj', by rw [f2]; exact h3, fun m z hm hz => ?_, k2 G2 H2 Stp.refl S2 _ (.int _)⟩
      obtain ⟨d2, g1, g2⟩ := ev m z hz
      rw [g2]
      have h5 := h4 m hm
      have hm2 : m < ds.length := by omega
      rw [List.getElem?_eq_getElem hm2] at g1
      cases g1
      simpa using h5
    · exact k2.elim
  · exact k2.elim
def tyN : PyData → String
  | .none => "NoneType" | .bool _ => "bool" | .int _ => "int" | .str _ => "str" | .list _ => "list" | .tuple _ => "tuple" | .dict _ => "dict"
theorem ty_of {K : PySem.W.Frag} {G H : Hp} {v : V} {d : PyData} (x : Ex G H) (h : Dq K G H v d) : TyX K H v (.type (tyN d)) := by
  cases d with
  | none => cases (show Rp K G v .none from h); exact .base .non
  | bool b => obtain rfl := dq_bl h; exact .base (.bl b)
  | int b => obtain rfl := dq_int h; exact .base (.int b)
  | str b => obtain rfl := dq_str h; exact .base (.str b)
  | list ds => obtain ⟨p, xs, rfl, hp, _⟩ := dq_lst h; exact .base (.lst hp)
  | tuple ds =>
    obtain ⟨p, xs, rfl, hp, _⟩ := dq_tup x h
    rcases hp with (hp | ⟨o, hp⟩) | ⟨o, its, n, hk, hc, _⟩
    · exact .base (.tup hp)
    · exact .fTuple hp
    · exact .kTuple hk hc
  | dict kvs => cases (show Rp K G v (.dict kvs) from h)
def isN (n a : String) : Bool := n == a || (n == "int" && a == "bool")
def isT (n : String) (d : PyData) : Bool := isN n (tyN d)
def knownT (n : String) : Bool := ["int", "bool", "str", "list", "tuple"].contains n
theorem kit_tab : ∀ n ∈ ["int", "bool", "str", "list", "tuple"], ∀ a ∈ ["NoneType", "bool", "int", "str", "list", "tuple", "dict"], kitB a n = some (isN n a) := by decide +kernel
theorem kit_is {n : String} {d : PyData} (hn : knownT n = true) : kitB (tyN d) n = some (isT n d) :=
  kit_tab n (by simpa [knownT] using hn) _ (by cases d <;> simp [tyN])
def fIsi (n : String) (f : M R) : M R := bnd f fun r s => match look r s with
  | some d => .ok (.val (.bool (isT n d))) s
  | none => .stuck
theorem d_isi {n : Str} {m : String} {p p2 pos : Pos} (hn : knownT m = true) (hg : Gl X "isinstance") (hm : X.mg "isinstance" = none) (ha : DE X cl W e f) (hc : PE X (.Name n p2) (tC (.ty m)))
    (he : starEach (e :: [.Name n p2]) X.env = (false, eval e X.env) :: starEach [.Name n p2] X.env := by rfl) (he2 : starEach [.Name n p2] X.env = (false, eval (.Name n p2) X.env) :: starEach [] X.env := by rfl) (hpl : (backTo pos (starEach [.Name n p2] X.env)).any (·.1) = false := by rfl) :
    DE X cl W (.Call (.Name "isinstance" p) [e, .Name n p2] [] pos) (fIsi m f) := by
  refine pe_imp (pe_callB call_isi hg hm (by decide +kernel) (pa_cons ha (pa_cons hc pa_nil he2) he) (by decide) (by decide) he hpl) fun σ H Q ⟨G, s, S, q⟩ => ?_
  refine ⟨G, s, S, out_mono (out_bind q) fun x G1 s1 H1 st1 S1 k v rr => ?_⟩
  split at k
  · rename_i d e
    exact ⟨v, .ty m, .type (tyN d), .type m, isT m d, rfl, .ty m, ty_of S1.gh (look_q S1 rr e), kit_ty (kit_is hn), k G1 H1 Stp.refl S1 _ (.bl _)⟩
  · exact k.elim
def nubI (ns : List Int) : List Int := PyProof.Rows.firstMet (fun i => ns.getD i 0) ns.length
def fLenSet (f : M R) : M R := bnd f fun r s => match look r s with
  | some (.list ds) => match intsD ds with
    | some ns => if ns.length ≤ 4000 then .ok (.val (.int (nubI ns).length)) s else .stuck
    | none => .stuck
  | _ => .stuck
theorem d_lenSet {p p2 q pos : Pos} (hcalm : X.calm = true) (hg : Gl X "len") (hm : X.mg "len" = none) (hg2 : Gl X "set") (hm2 : X.mg "set" = none) (ha : DE X cl W a f)
    (na : starEach [a] X.env = (false, eval a X.env) :: starEach [] X.env := by rfl) : DE X cl W (.Call (.Name "len" p) [.Call (.Name "set" p2) [a] [] q] [] pos) (fLenSet f) := by
  refine ⟨fun pins s σ H Q I ⟨G, st, S, h⟩ => ?_⟩
  have hc : X.A.handled = none := I.ok.hd hcalm
  refine Call_ (ld_blt I hg hm boot_len ?_)
  refine PyProof.Rows.callWith_builtin1 (PyProof.Rows.args_cons ?_ rfl) rfl rfl
  refine Call_ (ld_blt I hg2 hm2 boot_set ?_)
  have h1 : tD X.K cl W f σ H fun v H1 => ∃ (l : Addr) (ns : List Int), v = .ref l ∧ SqL X.K H1 l (ns.map V.int) ∧ ns.length ≤ 4000 ∧ Q (.int (nubI ns).length) H1 := by
    refine ⟨G, st, S, out_mono (out_bind h) fun x G1 s1 H1 st1 S1 k v rr => ?_⟩
    split at k
    · rename_i ds e1
      split at k
      · rename_i ns en
        split at k
        · rename_i hl
          obtain ⟨l, xs, rfl, hp, hd⟩ := dq_lst (look_q S1 rr e1)
          have ex := ints_rp hd en
          subst ex
          exact ⟨l, ns, rfl, .of hp, hl, k G1 H1 Stp.refl S1 _ (.int _)⟩
        · exact k.elim
      · exact k.elim
    · exact k.elim
  refine PyProof.Rows.callWith_type1 (PyProof.Rows.args_cons (thn (ha.run pins s σ H _ I h1) fun v s1 ⟨x, H1, I1, r1, q1⟩ => PyProof.Rows.args_nil ?_) na) na rfl
  obtain ⟨l, ns, rfl, hq, hl, q1⟩ := q1
  cases r1
  obtain ⟨its, r, pl, hz⟩ := I1.list hq
  have hlen : its.toArray.size = ns.length := by rw [List.size_toArray, ← r.length, List.length_map]
  refine call_set_list hc pl.isList (by simpa using intsAre_vals' r) (by rw [hlen]; unfold scanBound; omega) fun h' tk hS hk => ?_
  refine PyProof.Rows.args_nil ?_
  rw [hlen] at hS
  obtain ⟨o, es, ep, t, ho, hex, hd, _, _, _, hf, hn⟩ := hS
  have I2 : Inv X pins σ H1 { s1 with heap := h', toks := tk } := I1.kept fun b o e => hk b o (Heap.lt_size e) e
  have hnl : (nubI ns).length ≤ ns.length := PyProof.Rows.firstMet_length_le _ _
  exact call_len_set ho hex hd hf (by rw [hn]; unfold nubI at hnl; omega) ⟨.int (nubI ns).length, H1, I2.tok _, ⟨_, by rw [hn] <;> rfl⟩, q1⟩
end
end DL

/-! DL12: more statements; a def by its name -/
noncomputable section
namespace DL
open PySem L2 PyProof.Rows
open Evl (Ex)
def Cal (P : Program) (w : World) (K : PySem.W.Frag) (mg : Str → Option Value) (base : Heap) (cl : String → Addr) (x : Str) (k : Nat) (ps : List Str) (F : List R → Pw → FRes) : Prop :=
  ∃ (f : Addr) (fd : FuncData), FnG P w K mg base (L2.CX P w) k f fd ps (spF K cl F) ∧ mg x = some (.ref f) ∧ PySem.W.keepIn K (.ref f) = true ∧ Binds K fd ps []
def Wr (K : PySem.W.Frag) (mg : Str → Option Value) (x : Str) (st : Stmt) (ps : List Str) : Prop := ∃ (f : Addr) (fd : FuncData), Fun K x x st f fd ∧ mg x = some (.ref f) ∧ Binds K fd ps []
theorem cal_of {P : Program} {w : World} {K : PySem.W.Frag} {mg : Str → Option Value} {base : Heap} {cl : String → Addr} {x : Str} {k : Nat} {N ps : List Str} {st : Stmt} {p : DSt → Flow} (h : Wr K mg x st ps) (S : FnScope N ps (defScope st)) (hN : ps.length ≤ N.length)
    (hb : ∀ (f : Addr) (cdv : Value) (A : Around) (outer : List Env) (s : Shared) (H : Hp) (E : XK), RoomG k (A.deeper (envOfC x (defScope st) s.heap.objs.size f cdv)) →
      DSs (cxOf (L2.CX P w) P w K mg base N x (defScope st) f cdv A outer s H E) cl (fun cls d _ H => E cls d H) (defBody st) p) : Cal P w K mg base cl x (k + 1) ps (runF N.length ps.length p) := by
  obtain ⟨f, fd, F, g, b⟩ := h
  exact ⟨f, fd, def_ok F S hN fun cdv A outer s H E hr => hb f cdv A outer s H E hr, g, F.kp, b⟩
section
variable {X : Cx} {cl : String → Addr} {W : WX} {e a b c : Expr} {es : List Expr} {f g : M R} {fs : M (List R)} {pos : Pos} {p q : DSt → Flow}
theorem d_cal {F : List R → Pw → FRes} {k : Nat} {ps : List Str} {x : Str} {p : Pos} (h : Cal X.prog X.w X.K X.mg X.base cl x k ps F) (hr : RoomG k X.A) (hx : ∀ σ, PassesAt (L2.CX X.prog X.w) X σ (WE W σ)) (ha : DAe X cl W (e :: es) fs) (hg : Gl X x := by rfl) (hdb : (x == ("__debug__" : Str)) = false := by decide)
    (he : starEach (e :: es) X.env = (false, eval e X.env) :: starEach es X.env := by rfl) (hpl : (backTo pos (starEach es X.env)).any (·.1) = false := by rfl) : DE X cl W (.Call (.Name x p) (e :: es) [] pos) (fUser F fs) := by
  obtain ⟨f, fd, ok, g, kp, b⟩ := h
  exact d_user ok hr hg g kp b hx ha hdb he hpl
def fAug (i : Nat) (o : Int → Int → Int) (f : M R) : DSt → Flow := fun s => match s.d[i]? with
  | some (.val (.int a)) => onRes (f s) fun r s' => match look r s' with
    | some (.int b) => if i < s'.d.length then .next (putS i (.val (.int (o a b))) s') else .stuck
    | _ => .stuck
  | _ => .stuck
theorem s_aug {i : Nat} {x : Str} {op : Operator} {o : Int → Int → Int} {pos' : Pos} (hN : X.N.Nodup) (hi : X.N[i]? = some x) (hx : Loc X.env.scope x) (he : DE X cl W e f) (ho : PIp X op (ipI o)) (hf : X.fn x = true ∨ X.env.scope.names.lookup x = some .local := by first | exact .inl rfl | exact .inr rfl | assumption) :
    DS X cl W (.AugAssign (.Name x pos') op e pos) (fAug i o f) := by
  refine ps_imp (ps_aug hN hi hx he ho hf) fun D σ H ⟨G, s, S, h⟩ => ?_
  unfold fAug at h
  split at h
  · rename_i a q
    obtain ⟨v, e1, hd⟩ := S.slot i _ q
    cases hd
    have e2 : σ[i]? = some (some (.int a)) := by
      cases z : σ[i]? with
      | none => rw [z] at e1; cases e1
      | some o => rw [z] at e1; simp at e1; rw [e1]
    refine ⟨_, e2, G, s, S, out_mono (fout_res h) fun r G1 s1 H1 st1 S1 k v rr => ?_⟩
    split at k
    · rename_i b e3
      obtain rfl := dq_int (look_q S1 rr e3)
      split at k
      · rename_i hl
        exact ⟨a, b, rfl, rfl, k G1 _ H1 (put_stp S1 st1 hl (by intro _ _ z; cases z)) (put_ok S1 hl ⟨_, rfl, .int _⟩ (by intro _ _ z; cases z))⟩
      · exact k.elim
    · exact k.elim
  · exact h.elim
def fSetIx (i : Nat) (f g : M R) : DSt → Flow := fun s => onRes (bnd f fEsc s) fun r s1 => if isOwn i s1 then onRes (g s1) fun k s2 => match r, look k s2, s2.d[i]? with
    | .val d, some (.int n), some (.own ds) => match ixN ds.length n with
      | some j => .next (putS i (.own (ds.set j d)) s2)
      | none => .stuck
    | _, _, _ => .stuck
  else .stuck
theorem s_setIx {i : Nat} {x k : Expr} {p' : Pos} (he : DE X cl W e f) (hx : PE X x (tVar i)) (hk : DE X cl W k g)
    (ha : ∀ v, assign (.Subscript x k p') X.env v = (do
      let ov ← holding [v] (eval x X.env)
      let iv ← holding [v, ov] (eval k X.env)
      standAt p'
      holding [v, ov, iv] (setItem ov iv v)
      release [v, ov, iv] []) := by intro _; rfl)
    (hs : swapsWithSole [.Subscript x k p'] e pos.line X.env = pure false := by rfl) (hw : swappedStores [.Subscript x k p'] e X.env = pure none := by rfl) (h1 : (assignEach [.Subscript x k p'] X.env).map (·.2) = [assign (.Subscript x k p') X.env] := by rfl) :
    DS X cl W (.Assign [.Subscript x k p'] e pos) (fSetIx i f g) := by
  refine ps_imp (ps_asg he (pg_sub hx hk set_list ha) hs hw h1) fun D σ H ⟨G, s, S, h⟩ => ⟨G, s, S, ?_⟩
  refine out_mono (out_esc1 (fout_res h)) fun r G1 s1 H1 st1 S1 k v rr => ?_
  obtain ⟨G2, s2, r2, st2, S2, ar, ex, ee, k2⟩ := k v rr
  clear ee
  split at k2
  · rename_i ho
    obtain ⟨ds0, h0⟩ := isOwn_get ho
    obtain ⟨l, xs0, el, hl0, _⟩ := own_at S2 h0
    refine ⟨.ref l, el, G2, s2, S2, ?_⟩
    have k3 := fout_shift st2 k2
    refine out_mono (fout_res k3) fun kk G3 s3 H3 st3 S3 k4 u ru => ?_
    split at k4
    · rename_i d n ds e1 h1
      split at k4
      · rename_i j ej
        obtain rfl := dq_int (look_q S3 ru e1)
        obtain ⟨l2, xs, el2, hl2, hd2⟩ := own_at S3 h1
        rw [el] at el2
        cases el2
        obtain ⟨st4, S4⟩ := own_write S3 h1 el (dps_set (dp_mono st3.ex _ _ ar) j hd2)
        exact ⟨l, xs, n, j, rfl, rfl, hl2, by rw [dps_len hd2]; exact ej, k4 _ σ _ (st3.trans st4) S4⟩
      · exact k4.elim
    · exact k4.elim
  · exact k2.elim
def fPar (i j : Nat) (fs : M (List R)) : DSt → Flow := fun s => onRes (fs s) fun rs s' => match rs with
  | [r1, r2] => if i < s'.d.length ∧ j < s'.d.length then .next (putS j (toSl r2) (putS i (toSl r1) s')) else .stuck
  | _ => .stuck
theorem pg_or {tg : Expr} {t t' : TG} (h : PG X tg t) (h' : PG X tg t') : PG X tg (fun v σ H Q => t v σ H Q ∨ t' v σ H Q) := ⟨fun pins s σ H v u Q I r q => by
  rcases q with q | q
  · exact h.run pins s σ H v u Q I r q
  · exact h'.run pins s σ H v u Q I r q⟩
def bSeq (n : Nat) (bs : Bds) : Bd := fun d s => match d with
  | .tuple ds => if ds.length = n then bs ds s else none
  | .list ds => if ds.length = n then bs ds s else none
  | _ => none
theorem g_seq {K : PySem.W.Frag} {n : Nat} {gs : TGs} {bs : Bds} {js : List Nat} (h : GsOk K gs bs js) : GOk K (fun v σ H Q => gTup K n gs v σ H Q ∨ gUnl K n gs v σ H Q) (bSeq n bs) js := by
  intro x d G s σ H s' Q S rp e k
  unfold bSeq at e
  split at e
  · rename_i ds
    exact .inl (g_tup (n := n) h x (.tuple ds) G s σ H s' Q S rp e k)
  · rename_i ds
    exact .inr (g_unl (n := n) h x (.list ds) G s σ H s' Q S rp e k)
  · cases e
end
end DL

/-! DL13: the purse: a list of a list of ints and an int, changed by the def that draws -/
noncomputable section
namespace DL
open PySem L2 PyProof.Rows
open Evl (Ex)
section
variable {K : PySem.W.Frag} {G H : Hp} {s : DSt} {σ : L2.St} {pa ca : Addr} {cells : List Int} {t : Int}
end
section
variable {X : Cx} {cl : String → Addr} {W : WX} {e a b c : Expr} {es : List Expr} {f g : M R} {fs : M (List R)} {pos : Pos} {p q : DSt → Flow}
def fUnP (i j k : Nat) : DSt → Flow := fun s => match s.d[i]?, s.w with
  | some (.raw (.ref p)), some (pa, ca, cells, t) => if p = pa ∧ pa ≠ ca ∧ j < s.d.length ∧ k < s.d.length then .next (putS k (.val (.int t)) (putS j (.raw (.ref ca)) s)) else .stuck
  | _, _ => .stuck
def fLenC (i : Nat) : M R := fun s => match s.d[i]?, s.w with
  | some (.raw (.ref c)), some (pa, ca, cells, t) => if c = ca then .ok (.val (.int cells.length)) s else .stuck
  | _, _ => .stuck
def fIxC (i : Nat) (f : M R) : M R := fun s => match s.d[i]? with
  | some (.raw (.ref c)) => bnd f (fun r s' => match s'.w, look r s' with
    | some (pa, ca, cells, t), some (.int n) => if c = ca then match atI cells n with
      | some z => .ok (.val (.int z)) s'
      | none => .stuck
      else .stuck
    | _, _ => .stuck) s
  | _ => .stuck
theorem atI_map {ns : List Int} {n z : Int} (h : atI ns n = some z) : atI (ns.map V.int) n = some (V.int z) := by
  unfold atI at h ⊢
  rw [List.length_map]
  cases q : ixN ns.length n with
  | none => rw [q] at h; cases h
  | some j =>
    rw [q] at h
    have h : ns[j]? = some z := h
    show (ns.map V.int)[j]? = _
    rw [List.getElem?_map, h]
    rfl
def fSetT (i : Nat) (f : M R) : DSt → Flow := fun s => onRes (f s) fun r s' => match s'.d[i]?, s'.w, look r s' with
  | some (.raw (.ref p)), some (pa, ca, cells, t), some (.int n) => if p = pa ∧ pa ≠ ca then .next { s' with w := some (pa, ca, cells, n) } else .stuck
  | _, _, _ => .stuck
def fSetC (i : Nat) (f g : M R) : DSt → Flow := fun s => onRes (f s) fun r s1 => match s1.d[i]? with
  | some (.raw (.ref c)) => onRes (g s1) fun k s2 => match s2.w, look r s1, look k s2 with
    | some (pa, ca, cells, t), some (.int z), some (.int n) => if c = ca then match ixN cells.length n with
      | some j => .next { s2 with w := some (pa, ca, cells.set j z, t) }
      | none => .stuck
      else .stuck
    | _, _, _ => .stuck
  | _ => .stuck
end
end DL

/-! DL14: the purse made; a law -/
noncomputable section
namespace DL
open PySem L2 PyProof.Rows
open Evl (Ex)
def spPurse (K : PySem.W.Frag) : Sp := fun vs H Q _ => ∃ (a : Addr) (ns : List Int), vs = [.ref a] ∧ SqL K H a (ns.map V.int) ∧ ns.length ≤ 63 ∧ TabOk (fun _ => none) H ∧
  ∀ (pa ca : Addr) (cells : List Int) (H' : Hp), pa ≠ ca → H pa = none → H ca = none → TabOk (fun _ => none) H' → H' pa = some (.lst [.ref ca, .int 0]) → H' ca = some (.lst (cells.map V.int)) → cells ≠ [] → cells.length ≤ 63 → Q (.ref pa) H'
def spLaw (K : PySem.W.Frag) : Sp := fun vs H Q _ => ∃ (a : Addr) (ns : List Int), vs = [.ref a] ∧ SqL K H a (ns.map V.int) ∧ ns.length ≤ 63 ∧ TabOk (fun _ => none) H ∧ ∀ H', Q (.bl true) H'
section
variable {P : Program} {w : World} {K : PySem.W.Frag} {mg : Str → Option Value} {base : Heap} {cl : String → Addr}
def CalS (P : Program) (w : World) (K : PySem.W.Frag) (mg : Str → Option Value) (base : Heap) (x : Str) (k : Nat) (ps : List Str) (sp : Sp) : Prop :=
  ∃ (f : Addr) (fd : FuncData), FnG P w K mg base (L2.CX P w) k f fd ps sp ∧ mg x = some (.ref f) ∧ PySem.W.keepIn K (.ref f) = true ∧ Binds K fd ps []
end
end DL

/-! DL15: reckoning on data: what each piece does, as rows for simp -/
noncomputable section
namespace DL
open PySem L2
def andThen (x : Flow) (q : DSt → Flow) : Flow := match x with
  | .next s => q s
  | x => x
theorem inB_of {j : Int} (h1 : -1000000000 ≤ j) (h2 : j ≤ 1000000000) : inB j := ⟨by omega, by omega⟩
theorem inW_of {j : Int} (h1 : -1000000000 ≤ j) (h2 : j ≤ 1000000000) : inW j := ⟨by omega, by omega⟩
@[simp] theorem inB_lit {k : Nat} (h : k ≤ 1000000000) : inB (no_index (OfNat.ofNat k)) := ⟨by
  show -(2 ^ 62) ≤ (k : Int)
  omega, by
  show (k : Int) < 2 ^ 62
  omega⟩
@[simp] theorem inW_lit {k : Nat} (h : k ≤ 1000000000) : inW (no_index (OfNat.ofNat k)) := ⟨by
  show -(2 ^ 63) ≤ (k : Int)
  omega, by
  show (k : Int) < 2 ^ 63
  omega⟩
@[simp] theorem size_le {n : Nat} (h : n ≤ 100000) : leS n := Nat.le_trans h (by decide)
@[simp] theorem size_lt {n : Nat} (h : n ≤ 100000) : ltS n := Nat.lt_of_le_of_lt h (by decide)
@[simp] theorem at_next {s : DSt} {q : DSt → Flow} : andThen (.next s) q = q s := Eq.trans rfl rfl
@[simp] theorem at_ret {r : R} {s : DSt} {q : DSt → Flow} : andThen (.ret r s) q = .ret r s := Eq.trans rfl rfl
@[simp] theorem at_brk {s : DSt} {q : DSt → Flow} : andThen (.brk s) q = .brk s := Eq.trans rfl rfl
@[simp] theorem at_cnt {s : DSt} {q : DSt → Flow} : andThen (.cnt s) q = .cnt s := Eq.trans rfl rfl
@[simp] theorem at_err {z : Exn} {s : DSt} {q : DSt → Flow} : andThen (.err z s) q = .err z s := Eq.trans rfl rfl
@[simp] theorem at_stuck {q : DSt → Flow} : andThen .stuck q = .stuck := Eq.trans rfl rfl
def onF (x : FRes) (s : DSt) : Res R := match x with
  | .ok r w => .ok r ⟨s.d, w⟩
  | .err z w => .err z ⟨s.d, w⟩
  | .stuck => .stuck
@[simp] theorem onF_ok {r : R} {w : Pw} {s : DSt} : onF (.ok r w) s = .ok r ⟨s.d, w⟩ := Eq.trans rfl rfl
@[simp] theorem onF_err {r : Exn} {w : Pw} {s : DSt} : onF (.err r w) s = .err r ⟨s.d, w⟩ := Eq.trans rfl rfl
def finF (x : Flow) : FRes := match x with
  | .next s => .ok (.val .none) s.w
  | .ret r s => (match finR r s with | some r' => .ok r' s.w | none => .stuck)
  | .err z s => .err z s.w
  | _ => .stuck
@[simp] theorem finF_next {s : DSt} : finF (.next s) = .ok (.val .none) s.w := Eq.trans rfl rfl
@[simp] theorem finF_ret {r : R} {s : DSt} : finF (.ret r s) = (match finR r s with | some r' => .ok r' s.w | none => .stuck) := Eq.trans rfl rfl
@[simp] theorem finF_err {r : Exn} {s : DSt} : finF (.err r s) = .err r s.w := Eq.trans rfl rfl
/-! continuations by name: simp does not run ahead into them -/
def kOp (o : R → R → M R) (g : M R) (x : R) (s : DSt) : Res R := (g s).bind (o x)
@[simp] theorem y_kOp (o : R → R → M R) (g : M R) (x : R) (s : DSt) : kOp o g x s = ((g s).bind (o x)) := Eq.trans rfl rfl
def kB  (r : R) (s : DSt) : Res Bool := match look r s with | some (.bool b) => .ok b s | _ => .stuck
@[simp] theorem y_kB  (r : R) (s : DSt) : kB  r s = (match look r s with | some (.bool b) => .ok b s | _ => .stuck) := Eq.trans rfl rfl
def kAnd (u : M Bool) (b : Bool) (s : DSt) : Res Bool := if b = true then u s else .ok false s
@[simp] theorem y_kAnd (u : M Bool) (b : Bool) (s : DSt) : kAnd u b s = (if b = true then u s else .ok false s) := Eq.trans rfl rfl
def kOr (u : M Bool) (b : Bool) (s : DSt) : Res Bool := if b = true then .ok true s else u s
@[simp] theorem y_kOr (u : M Bool) (b : Bool) (s : DSt) : kOr u b s = (if b = true then .ok true s else u s) := Eq.trans rfl rfl
def kNot  (b : Bool) (s : DSt) : Res Bool := .ok (!b) s
@[simp] theorem y_kNot  (b : Bool) (s : DSt) : kNot  b s = (.ok (!b) s) := Eq.trans rfl rfl
def kV  (b : Bool) (s : DSt) : Res R := .ok (.val (.bool b)) s
@[simp] theorem y_kV  (b : Bool) (s : DSt) : kV  b s = (.ok (.val (.bool b)) s) := Eq.trans rfl rfl
def kAndV (g : M R) (b : Bool) (s : DSt) : Res R := if b = true then g s else .ok (.val (.bool false)) s
@[simp] theorem y_kAndV (g : M R) (b : Bool) (s : DSt) : kAndV g b s = (if b = true then g s else .ok (.val (.bool false)) s) := Eq.trans rfl rfl
def kOrV (g : M R) (b : Bool) (s : DSt) : Res R := if b = true then .ok (.val (.bool true)) s else g s
@[simp] theorem y_kOrV (g : M R) (b : Bool) (s : DSt) : kOrV g b s = (if b = true then .ok (.val (.bool true)) s else g s) := Eq.trans rfl rfl
def kIf (f g : M R) (b : Bool) (s : DSt) : Res R := if b = true then f s else g s
@[simp] theorem y_kIf (f g : M R) (b : Bool) (s : DSt) : kIf f g b s = (if b = true then f s else g s) := Eq.trans rfl rfl
def kCons3 (r : R) (rs : List R) (s : DSt) : Res (List R) := .ok (r :: rs) s
@[simp] theorem y_kCons3 (r : R) (rs : List R) (s : DSt) : kCons3 r rs s = (.ok (r :: rs) s) := Eq.trans rfl rfl
def kCons2 (fs : M (List R)) (r : R) (s : DSt) : Res (List R) := (fs s).bind (kCons3 r)
@[simp] theorem y_kCons2 (fs : M (List R)) (r : R) (s : DSt) : kCons2 fs r s = ((fs s).bind (kCons3 r)) := Eq.trans rfl rfl
def kCons (fs : M (List R)) (r : R) (s : DSt) : Res (List R) := (fEsc r s).bind (kCons2 fs)
@[simp] theorem y_kCons (fs : M (List R)) (r : R) (s : DSt) : kCons fs r s = ((fEsc r s).bind (kCons2 fs)) := Eq.trans rfl rfl
def kLst  (rs : List R) (s : DSt) : Res R := match datas rs with | some ds => if leS ds.length then .ok (.new ds) s else .stuck | none => .stuck
@[simp] theorem y_kLst  (rs : List R) (s : DSt) : kLst  rs s = (match datas rs with | some ds => if leS ds.length then .ok (.new ds) s else .stuck | none => .stuck) := Eq.trans rfl rfl
def kTup  (rs : List R) (s : DSt) : Res R := match datas rs with | some ds => if leS ds.length then .ok (.val (.tuple ds)) s else .stuck | none => .stuck
@[simp] theorem y_kTup  (rs : List R) (s : DSt) : kTup  rs s = (match datas rs with | some ds => if leS ds.length then .ok (.val (.tuple ds)) s else .stuck | none => .stuck) := Eq.trans rfl rfl
def kPart  (r : R) (s : DSt) : Res (Option Int) := match look r s with | some (.int i) => .ok (some i) s | _ => .stuck
@[simp] theorem y_kPart  (r : R) (s : DSt) : kPart  r s = (match look r s with | some (.int i) => .ok (some i) s | _ => .stuck) := Eq.trans rfl rfl
def kSl3 (x : R) (lo : Option Int) (hi : Option Int) (s : DSt) : Res R := match look x s with | some d => (match sliceO d lo hi with | some (.slot _) => .stuck | some r => .ok r s | none => .stuck) | none => .stuck
@[simp] theorem y_kSl3 (x : R) (lo : Option Int) (hi : Option Int) (s : DSt) : kSl3 x lo hi s = (match look x s with | some d => (match sliceO d lo hi with | some (.slot _) => .stuck | some r => .ok r s | none => .stuck) | none => .stuck) := Eq.trans rfl rfl
def kSl2 (b : M (Option Int)) (x : R) (lo : Option Int) (s : DSt) : Res R := (b s).bind (kSl3 x lo)
@[simp] theorem y_kSl2 (b : M (Option Int)) (x : R) (lo : Option Int) (s : DSt) : kSl2 b x lo s = ((b s).bind (kSl3 x lo)) := Eq.trans rfl rfl
def kSl1 (a b : M (Option Int)) (x : R) (s : DSt) : Res R := (a s).bind (kSl2 b x)
@[simp] theorem y_kSl1 (a b : M (Option Int)) (x : R) (s : DSt) : kSl1 a b x s = ((a s).bind (kSl2 b x)) := Eq.trans rfl rfl
def kIsN (b : Bool) (r : R) (s : DSt) : Res R := match isNR r s with | some c => .ok (.val (.bool (if b then !c else c))) s | none => .stuck
@[simp] theorem y_kIsN (b : Bool) (r : R) (s : DSt) : kIsN b r s = (match isNR r s with | some c => .ok (.val (.bool (if b then !c else c))) s | none => .stuck) := Eq.trans rfl rfl
def kDrop  (r : R) (s : DSt) : Flow := .next s
@[simp] theorem y_kDrop  (r : R) (s : DSt) : kDrop  r s = (.next s) := Eq.trans rfl rfl
def kIfS (p q : DSt → Flow) (b : Bool) (s : DSt) : Flow := if b = true then p s else q s
@[simp] theorem y_kIfS (p q : DSt → Flow) (b : Bool) (s : DSt) : kIfS p q b s = (if b = true then p s else q s) := Eq.trans rfl rfl
def kSet (i : Nat) (r : R) (s : DSt) : Flow := if i < s.d.length then (match store i r s with | some s2 => .next s2 | none => .stuck) else .stuck
@[simp] theorem y_kSet (i : Nat) (r : R) (s : DSt) : kSet i r s = (if i < s.d.length then (match store i r s with | some s2 => .next s2 | none => .stuck) else .stuck) := Eq.trans rfl rfl
def kUser (F : List R → Pw → FRes) (rs : List R) (s : DSt) : Res R := onF (F rs s.w) s
@[simp] theorem y_kUser (F : List R → Pw → FRes) (rs : List R) (s : DSt) : kUser F rs s = (onF (F rs s.w) s) := Eq.trans rfl rfl
def kCall (o : List PyData → Option R) (rs : List R) (s : DSt) : Res R := match looks rs s with | some ds => (match o ds with | some (.slot _) => .stuck | some r => .ok r s | none => .stuck) | none => .stuck
@[simp] theorem y_kCall (o : List PyData → Option R) (rs : List R) (s : DSt) : kCall o rs s = (match looks rs s with | some ds => (match o ds with | some (.slot _) => .stuck | some r => .ok r s | none => .stuck) | none => .stuck) := Eq.trans rfl rfl
def kIsi (m : String) (r : R) (s : DSt) : Res R := match look r s with | some d => .ok (.val (.bool (isT m d))) s | none => .stuck
@[simp] theorem y_kIsi (m : String) (r : R) (s : DSt) : kIsi m r s = (match look r s with | some d => .ok (.val (.bool (isT m d))) s | none => .stuck) := Eq.trans rfl rfl
def kLenSet  (r : R) (s : DSt) : Res R := match look r s with | some (.list ds) => (match intsD ds with | some ns => if ns.length ≤ 4000 then .ok (.val (.int (nubI ns).length)) s else .stuck | none => .stuck) | _ => .stuck
@[simp] theorem y_kLenSet  (r : R) (s : DSt) : kLenSet  r s = (match look r s with | some (.list ds) => (match intsD ds with | some ns => if ns.length ≤ 4000 then .ok (.val (.int (nubI ns).length)) s else .stuck | none => .stuck) | _ => .stuck) := Eq.trans rfl rfl
def kIdx2 (x : R) (r : R) (s : DSt) : Res R := match look x s, look r s with | some (.list ds), some d => (match idxO ds d with | some j => .ok (.val (.int (j : Nat))) s | none => .stuck) | _, _ => .stuck
@[simp] theorem y_kIdx2 (x : R) (r : R) (s : DSt) : kIdx2 x r s = (match look x s, look r s with | some (.list ds), some d => (match idxO ds d with | some j => .ok (.val (.int (j : Nat))) s | none => .stuck) | _, _ => .stuck) := Eq.trans rfl rfl
def kIdx (f : M R) (x : R) (s : DSt) : Res R := if isLst x s = true then (f s).bind (kIdx2 x) else .stuck
@[simp] theorem y_kIdx (f : M R) (x : R) (s : DSt) : kIdx f x s = (if isLst x s = true then (f s).bind (kIdx2 x) else .stuck) := Eq.trans rfl rfl
def kApp2 (i : Nat) (r : R) (s : DSt) : Res R := match r, s.d[i]? with | .val d, some (.own ds) => if ltS ds.length then .ok (.val .none) (putS i (.own (ds ++ [d])) s) else .stuck | _, _ => .stuck
@[simp] theorem y_kApp2 (i : Nat) (r : R) (s : DSt) : kApp2 i r s = (match r, s.d[i]? with | .val d, some (.own ds) => if ltS ds.length then .ok (.val .none) (putS i (.own (ds ++ [d])) s) else .stuck | _, _ => .stuck) := Eq.trans rfl rfl
def kApp1 (i : Nat) (r : R) (s : DSt) : Res R := (fEsc r s).bind (kApp2 i)
@[simp] theorem y_kApp1 (i : Nat) (r : R) (s : DSt) : kApp1 i r s = ((fEsc r s).bind (kApp2 i)) := Eq.trans rfl rfl
def kPopAt (i : Nat) (r : R) (s : DSt) : Res R := match look r s, s.d[i]? with | some (.int k), some (.own ds) => (match ixN ds.length k with | some j => (match ds[j]? with | some d => if inW k then .ok (.val d) (putS i (.own (ds.eraseIdx j)) s) else .stuck | none => .stuck) | none => .stuck) | _, _ => .stuck
@[simp] theorem y_kPopAt (i : Nat) (r : R) (s : DSt) : kPopAt i r s = (match look r s, s.d[i]? with | some (.int k), some (.own ds) => (match ixN ds.length k with | some j => (match ds[j]? with | some d => if inW k then .ok (.val d) (putS i (.own (ds.eraseIdx j)) s) else .stuck | none => .stuck) | none => .stuck) | _, _ => .stuck) := Eq.trans rfl rfl
def kIns (i : Nat) (rs : List R) (s : DSt) : Res R := match rs, s.d[i]? with | [.val (.int k), .val d], some (.own ds) => if 0 ≤ k ∧ inW k ∧ ltS ds.length then .ok (.val .none) (putS i (.own (ds.take k.toNat ++ [d] ++ ds.drop k.toNat)) s) else .stuck | _, _ => .stuck
@[simp] theorem y_kIns (i : Nat) (rs : List R) (s : DSt) : kIns i rs s = (match rs, s.d[i]? with | [.val (.int k), .val d], some (.own ds) => if 0 ≤ k ∧ inW k ∧ ltS ds.length then .ok (.val .none) (putS i (.own (ds.take k.toNat ++ [d] ++ ds.drop k.toNat)) s) else .stuck | _, _ => .stuck) := Eq.trans rfl rfl
def kRem (i : Nat) (r : R) (s : DSt) : Res R := match look r s, s.d[i]? with | some (.int k), some (.own ds) => (match intsD ds with | some ns => (match ns.findIdx? (· == k) with | some j => .ok (.val .none) (putS i (.own ((ns.eraseIdx j).map .int)) s) | none => .stuck) | none => .stuck) | _, _ => .stuck
@[simp] theorem y_kRem (i : Nat) (r : R) (s : DSt) : kRem i r s = (match look r s, s.d[i]? with | some (.int k), some (.own ds) => (match intsD ds with | some ns => (match ns.findIdx? (· == k) with | some j => .ok (.val .none) (putS i (.own ((ns.eraseIdx j).map .int)) s) | none => .stuck) | none => .stuck) | _, _ => .stuck) := Eq.trans rfl rfl
def kAug (i : Nat) (o : Int → Int → Int) (a : Int) (r : R) (s : DSt) : Flow := match look r s with | some (.int b) => if i < s.d.length then .next (putS i (.val (.int (o a b))) s) else .stuck | _ => .stuck
@[simp] theorem y_kAug (i : Nat) (o : Int → Int → Int) (a : Int) (r : R) (s : DSt) : kAug i o a r s = (match look r s with | some (.int b) => if i < s.d.length then .next (putS i (.val (.int (o a b))) s) else .stuck | _ => .stuck) := Eq.trans rfl rfl
def kSetIx2 (i : Nat) (r : R) (k : R) (s : DSt) : Flow := match r, look k s, s.d[i]? with | .val d, some (.int n), some (.own ds) => (match ixN ds.length n with | some j => .next (putS i (.own (ds.set j d)) s) | none => .stuck) | _, _, _ => .stuck
@[simp] theorem y_kSetIx2 (i : Nat) (r : R) (k : R) (s : DSt) : kSetIx2 i r k s = (match r, look k s, s.d[i]? with | .val d, some (.int n), some (.own ds) => (match ixN ds.length n with | some j => .next (putS i (.own (ds.set j d)) s) | none => .stuck) | _, _, _ => .stuck) := Eq.trans rfl rfl
def kSetIx (i : Nat) (g : M R) (r : R) (s : DSt) : Flow := if isOwn i s = true then onRes (g s) (kSetIx2 i r) else .stuck
@[simp] theorem y_kSetIx (i : Nat) (g : M R) (r : R) (s : DSt) : kSetIx i g r s = (if isOwn i s = true then onRes (g s) (kSetIx2 i r) else .stuck) := Eq.trans rfl rfl
def kPar (i j : Nat) (rs : List R) (s : DSt) : Flow := match rs with | [r1, r2] => if i < s.d.length ∧ j < s.d.length then .next (putS j (toSl r2) (putS i (toSl r1) s)) else .stuck | _ => .stuck
@[simp] theorem y_kPar (i j : Nat) (rs : List R) (s : DSt) : kPar i j rs s = (match rs with | [r1, r2] => if i < s.d.length ∧ j < s.d.length then .next (putS j (toSl r2) (putS i (toSl r1) s)) else .stuck | _ => .stuck) := Eq.trans rfl rfl
def kAsgB (b : Bd) (r : R) (s : DSt) : Flow := match r with | .val d => (match b d s with | some s2 => .next s2 | none => .stuck) | _ => .stuck
@[simp] theorem y_kAsgB (b : Bd) (r : R) (s : DSt) : kAsgB b r s = (match r with | .val d => (match b d s with | some s2 => .next s2 | none => .stuck) | _ => .stuck) := Eq.trans rfl rfl
def kLstI2  (r : R) (s : DSt) : Res (List PyData) := match r with | .val (.list ds) => .ok ds s | .val (.tuple ds) => .ok ds s | _ => .stuck
@[simp] theorem y_kLstI2  (r : R) (s : DSt) : kLstI2  r s = (match r with | .val (.list ds) => .ok ds s | .val (.tuple ds) => .ok ds s | _ => .stuck) := Eq.trans rfl rfl
def kLstI  (r : R) (s : DSt) : Res (List PyData) := (fEsc r s).bind kLstI2
@[simp] theorem y_kLstI  (r : R) (s : DSt) : kLstI  r s = ((fEsc r s).bind kLstI2) := Eq.trans rfl rfl
def kTupI  (r : R) (s : DSt) : Res (List PyData) := match look r s with | some (.tuple ds) => .ok ds s | _ => .stuck
@[simp] theorem y_kTupI  (r : R) (s : DSt) : kTupI  r s = (match look r s with | some (.tuple ds) => .ok ds s | _ => .stuck) := Eq.trans rfl rfl
def kRng1  (rs : List R) (s : DSt) : Res (List PyData) := match rs with | [r] => (match look r s with | some (.int j) => if inB j then .ok (rangeD 0 j.toNat) s else .stuck | _ => .stuck) | _ => .stuck
@[simp] theorem y_kRng1  (rs : List R) (s : DSt) : kRng1  rs s = (match rs with | [r] => (match look r s with | some (.int j) => if inB j then .ok (rangeD 0 j.toNat) s else .stuck | _ => .stuck) | _ => .stuck) := Eq.trans rfl rfl
def kRng2  (rs : List R) (s : DSt) : Res (List PyData) := match rs with | [r, r2] => (match look r s, look r2 s with | some (.int i), some (.int j) => if inB i ∧ inB j then .ok (rangeD i (j - i).toNat) s else .stuck | _, _ => .stuck) | _ => .stuck
@[simp] theorem y_kRng2  (rs : List R) (s : DSt) : kRng2  rs s = (match rs with | [r, r2] => (match look r s, look r2 s with | some (.int i), some (.int j) => if inB i ∧ inB j then .ok (rangeD i (j - i).toNat) s else .stuck | _, _ => .stuck) | _ => .stuck) := Eq.trans rfl rfl
def kEnum  (rs : List R) (s : DSt) : Res (List PyData) := match rs with | [.val (.list ds)] => .ok (enumD ds) s | _ => .stuck
@[simp] theorem y_kEnum  (rs : List R) (s : DSt) : kEnum  rs s = (match rs with | [.val (.list ds)] => .ok (enumD ds) s | _ => .stuck) := Eq.trans rfl rfl
def kZip  (rs : List R) (s : DSt) : Res (List PyData) := match rs with | [.val (.list ds), .val (.list es)] => .ok (zipD ds es) s | _ => .stuck
@[simp] theorem y_kZip  (rs : List R) (s : DSt) : kZip  rs s = (match rs with | [.val (.list ds), .val (.list es)] => .ok (zipD ds es) s | _ => .stuck) := Eq.trans rfl rfl
def kUn (o : R → M R) (x : R) (s : DSt) : Res R := o x s
@[simp] theorem y_kUn (o : R → M R) (x : R) (s : DSt) : kUn o x s = (o x s) := Eq.trans rfl rfl
def kIxC (c : Addr) (r : R) (s : DSt) : Res R := match s.w, look r s with | some (pa, ca, cells, t), some (.int n) => if c = ca then match atI cells n with | some z => .ok (.val (.int z)) s | none => .stuck else .stuck | _, _ => .stuck
@[simp] theorem y_kIxC (c : Addr) (r : R) (s : DSt) : kIxC c r s = (match s.w, look r s with | some (pa, ca, cells, t), some (.int n) => if c = ca then match atI cells n with | some z => .ok (.val (.int z)) s | none => .stuck else .stuck | _, _ => .stuck) := Eq.trans rfl rfl
@[simp] theorem x_ixC {i : Nat} {f : M R} {s : DSt} : fIxC i f s = (match s.d[i]? with | some (.raw (.ref c)) => (f s).bind (kIxC c) | _ => .stuck) := Eq.trans rfl rfl
@[simp] theorem x_unP {i j k : Nat} {s : DSt} : fUnP i j k s = (match s.d[i]?, s.w with | some (.raw (.ref p)), some (pa, ca, cells, t) => if p = pa ∧ pa ≠ ca ∧ j < s.d.length ∧ k < s.d.length then .next (putS k (.val (.int t)) (putS j (.raw (.ref ca)) s)) else .stuck | _, _ => .stuck) := Eq.trans rfl rfl
@[simp] theorem x_lenC {i : Nat} {s : DSt} : fLenC i s = (match s.d[i]?, s.w with | some (.raw (.ref c)), some (pa, ca, cells, t) => if c = ca then .ok (.val (.int cells.length)) s else .stuck | _, _ => .stuck) := Eq.trans rfl rfl
def kSetT (i : Nat) (r : R) (s : DSt) : Flow := match s.d[i]?, s.w, look r s with | some (.raw (.ref p)), some (pa, ca, cells, t), some (.int n) => if p = pa ∧ pa ≠ ca then .next ⟨s.d, some (pa, ca, cells, n)⟩ else .stuck | _, _, _ => .stuck
@[simp] theorem y_kSetT (i : Nat) (r : R) (s : DSt) : kSetT i r s = (match s.d[i]?, s.w, look r s with | some (.raw (.ref p)), some (pa, ca, cells, t), some (.int n) => if p = pa ∧ pa ≠ ca then .next ⟨s.d, some (pa, ca, cells, n)⟩ else .stuck | _, _, _ => .stuck) := Eq.trans rfl rfl
@[simp] theorem x_setT {i : Nat} {f : M R} {s : DSt} : fSetT i f s = onRes (f s) (kSetT i) := Eq.trans rfl rfl
def kSetC2 (c : Addr) (z : Option PyData) (k : R) (s : DSt) : Flow := match s.w, z, look k s with | some (pa, ca, cells, t), some (.int z), some (.int n) => if c = ca then match ixN cells.length n with | some j => .next ⟨s.d, some (pa, ca, cells.set j z, t)⟩ | none => .stuck else .stuck | _, _, _ => .stuck
@[simp] theorem y_kSetC2 (c : Addr) (z : Option PyData) (k : R) (s : DSt) : kSetC2 c z k s = (match s.w, z, look k s with | some (pa, ca, cells, t), some (.int z), some (.int n) => if c = ca then match ixN cells.length n with | some j => .next ⟨s.d, some (pa, ca, cells.set j z, t)⟩ | none => .stuck else .stuck | _, _, _ => .stuck) := Eq.trans rfl rfl
def kSetC (i : Nat) (g : M R) (r : R) (s : DSt) : Flow := match s.d[i]? with | some (.raw (.ref c)) => onRes (g s) (kSetC2 c (look r s)) | _ => .stuck
@[simp] theorem y_kSetC (i : Nat) (g : M R) (r : R) (s : DSt) : kSetC i g r s = (match s.d[i]? with | some (.raw (.ref c)) => onRes (g s) (kSetC2 c (look r s)) | _ => .stuck) := Eq.trans rfl rfl
@[simp] theorem x_setC {i : Nat} {f g : M R} {s : DSt} : fSetC i f g s = onRes (f s) (kSetC i g) := Eq.trans rfl rfl
section
variable {α β : Type} {i j k n : Nat} {s s1 s2 : DSt} {f g : M R} {fs : M (List R)} {t u : M Bool} {p q : DSt → Flow} {r x y : R} {d e : PyData} {ds es : List PyData} {v : V} {l : List Sl} {w : Pw} {c : Sl}
@[simp] theorem x_var : fVar i s = (match s.d[i]? with | some (.val d) => .ok (.val d) s | some (.raw v) => .ok (.raw v) s | some (.ob o) => .ok (.ob o) s | some (.own _) => .ok (.slot i) s | _ => .stuck) := Eq.trans rfl rfl
@[simp] theorem x_c : fC d s = .ok (.val d) s := Eq.trans rfl rfl
@[simp] theorem x_raw : fRaw v s = .ok (.raw v) s := Eq.trans rfl rfl
@[simp] theorem x_op {o : R → R → M R} : fOp o f g s = (f s).bind (kOp o g) := Eq.trans rfl rfl
@[simp] theorem x_look_val : look (.val d) s = some d := Eq.trans rfl rfl
@[simp] theorem x_look_new : look (.new ds) s = some (.list ds) := Eq.trans rfl rfl
@[simp] theorem x_look_raw : look (.raw v) s = none := Eq.trans rfl rfl
@[simp] theorem x_look_ob {o : OD} : look (.ob o) s = none := Eq.trans rfl rfl
@[simp] theorem x_look_slot : look (.slot i) s = (match s.d[i]? with | some (.own ds) => some (.list ds) | some (.val d) => some d | _ => none) := Eq.trans rfl rfl
@[simp] theorem x_lift1 {o : PyData → Option R} : lift1 o x s = (match look x s with | some d => (match o d with | some (.slot _) => .stuck | some r => .ok r s | none => .stuck) | none => .stuck) := Eq.trans rfl rfl
@[simp] theorem x_lift2 {o : PyData → PyData → Option R} : lift2 o x y s = (match look x s, look y s with | some d, some e => (match o d e with | some (.slot _) => .stuck | some r => .ok r s | none => .stuck) | _, _ => .stuck) := Eq.trans rfl rfl
@[simp] theorem x_B : fB f s = (f s).bind kB := Eq.trans rfl rfl
@[simp] theorem x_and : fAnd t u s = (t s).bind (kAnd u) := by
  show Res.bind _ _ = _
  congr 1
  funext b s
  cases b <;> rfl
@[simp] theorem x_or : fOr t u s = (t s).bind (kOr u) := by
  show Res.bind _ _ = _
  congr 1
  funext b s
  cases b <;> rfl
@[simp] theorem x_not : fNot t s = (t s).bind kNot := Eq.trans rfl rfl
@[simp] theorem x_V : fV t s = (t s).bind kV := Eq.trans rfl rfl
@[simp] theorem x_andV : fAndV f g s = (fB f s).bind (kAndV g) := by
  show Res.bind _ _ = _
  congr 1
  funext b s
  cases b <;> rfl
@[simp] theorem x_orV : fOrV f g s = (fB f s).bind (kOrV g) := by
  show Res.bind _ _ = _
  congr 1
  funext b s
  cases b <;> rfl
@[simp] theorem x_if : fIf t f g s = (t s).bind (kIf f g) := by
  show Res.bind _ _ = _
  congr 1
  funext b s
  cases b <;> rfl
@[simp] theorem x_esc_val : esc (.val d) s = some (.val d, s) := Eq.trans rfl rfl
@[simp] theorem x_esc_raw : esc (.raw v) s = some (.raw v, s) := Eq.trans rfl rfl
@[simp] theorem x_esc_ob {o : OD} : esc (.ob o) s = some (.ob o, s) := Eq.trans rfl rfl
@[simp] theorem x_esc_new : esc (.new ds) s = some (.val (.list ds), s) := Eq.trans rfl rfl
@[simp] theorem x_esc_slot : esc (.slot i) s = (match s.d[i]? with | some (.own ds) => some (.val (.list ds), ⟨s.d.set i (.val (.list ds)), s.w⟩) | some (.val d) => some (.val d, s) | _ => none) := Eq.trans rfl rfl
@[simp] theorem x_Esc : fEsc r s = (match esc r s with | some (r', s') => .ok r' s' | none => .stuck) := Eq.trans rfl rfl
@[simp] theorem x_nil : fNil s = .ok [] s := Eq.trans rfl rfl
@[simp] theorem x_cons : fCons f fs s = (f s).bind (kCons fs) := Eq.trans rfl rfl
@[simp] theorem x_pcons : pCons f fs s = (f s).bind (kCons2 fs) := Eq.trans rfl rfl
@[simp] theorem x_datas_nil : datas [] = some [] := Eq.trans rfl rfl
@[simp] theorem x_datas_cons {rs : List R} : datas (.val d :: rs) = (datas rs).map (d :: ·) := Eq.trans rfl rfl
@[simp] theorem x_lst : fLst fs s = (fs s).bind kLst := Eq.trans rfl rfl
@[simp] theorem x_tup : fTup fs s = (fs s).bind kTup := Eq.trans rfl rfl
@[simp] theorem x_part : fPart f s = (f s).bind kPart := Eq.trans rfl rfl
@[simp] theorem x_nopart : fNoPart s = .ok none s := Eq.trans rfl rfl
@[simp] theorem x_slice {a b : M (Option Int)} : fSlice f a b s = (f s).bind (kSl1 a b) := Eq.trans rfl rfl
@[simp] theorem x_un {o : R → M R} : fUn o f s = (f s).bind (kUn o) := Eq.trans rfl rfl
@[simp] theorem x_isN {b : Bool} : fIsN b f s = (f s).bind (kIsN b) := Eq.trans rfl rfl
@[simp] theorem x_isN_val : isNR (.val d) s = some (match d with | .none => true | _ => false) := by cases d <;> rfl
@[simp] theorem x_isN_ob {o : OD} : isNR (.ob o) s = some false := Eq.trans rfl rfl
@[simp] theorem x_isN_new : isNR (.new ds) s = some false := Eq.trans rfl rfl
@[simp] theorem x_isN_slot : isNR (.slot i) s = (match s.d[i]? with | some (.own _) => some false | some (.val d) => some (match d with | .none => true | _ => false) | _ => none) := by
  show (match look (.slot i) s with | some .none => some true | some _ => some false | none => none) = _
  rw [x_look_slot]
  cases s.d[i]? with
  | none => rfl
  | some c =>
    cases c with
    | val d => cases d <;> rfl
    | _ => rfl
@[simp] theorem x_onRes_ok {a : α} {h : α → DSt → Flow} : onRes (.ok a s) h = h a s := Eq.trans rfl rfl
@[simp] theorem x_onRes_err {z : Exn} {h : α → DSt → Flow} : onRes (.err z s) h = .err z s := Eq.trans rfl rfl
@[simp] theorem x_onRes_stuck {h : α → DSt → Flow} : onRes .stuck h = .stuck := Eq.trans rfl rfl
@[simp] theorem x_seq : fseq p q s = andThen (p s) q := Eq.trans rfl rfl
@[simp] theorem x_next : fnext s = .next s := Eq.trans rfl rfl
@[simp] theorem x_brk : fbrk s = .brk s := Eq.trans rfl rfl
@[simp] theorem x_cnt : fcnt s = .cnt s := Eq.trans rfl rfl
@[simp] theorem x_never : fnever s = .stuck := Eq.trans rfl rfl
@[simp] theorem x_drop : fDrop f s = onRes (f s) kDrop := Eq.trans rfl rfl
@[simp] theorem x_ret : fRet f s = onRes (f s) Flow.ret := Eq.trans rfl rfl
@[simp] theorem x_retN : fRetN s = .ret (.val .none) s := Eq.trans rfl rfl
@[simp] theorem x_ifS : fIfS t p q s = onRes (t s) (kIfS p q) := by
  show onRes _ _ = _
  congr 1
@[simp] theorem x_store_val : store i (.val d) s = some (putS i (.val d) s) := Eq.trans rfl rfl
@[simp] theorem x_store_raw : store i (.raw v) s = some (putS i (.raw v) s) := Eq.trans rfl rfl
@[simp] theorem x_store_ob {o : OD} : store i (.ob o) s = some (putS i (.ob o) s) := Eq.trans rfl rfl
@[simp] theorem x_store_new : store i (.new ds) s = some (putS i (.own ds) s) := Eq.trans rfl rfl
@[simp] theorem x_store_slot : store i (.slot j) s = (match s.d[j]? with | some (.own ds) => some (putS i (.val (.list ds)) (putS j (.val (.list ds)) s)) | some (.val d) => some (putS i (.val d) s) | _ => none) := Eq.trans rfl rfl
@[simp] theorem x_putS : putS i c ⟨l, w⟩ = ⟨l.set i c, w⟩ := Eq.trans rfl rfl
@[simp] theorem x_set : fSet i f s = onRes (f s) (kSet i) := Eq.trans rfl rfl
@[simp] theorem x_user {F : List R → Pw → FRes} : fUser F fs s = (fs s).bind (kUser F) := Eq.trans rfl rfl
@[simp] theorem x_call {o : List PyData → Option R} : fCall o fs s = (fs s).bind (kCall o) := Eq.trans rfl rfl
@[simp] theorem x_looks_nil : looks [] s = some [] := Eq.trans rfl rfl
@[simp] theorem x_looks_cons {rs : List R} : looks (r :: rs) s = (match look r s, looks rs s with | some d, some ds => some (d :: ds) | _, _ => none) := Eq.trans rfl rfl
@[simp] theorem x_isi {m : String} : fIsi m f s = (f s).bind (kIsi m) := Eq.trans rfl rfl
@[simp] theorem x_lenSet : fLenSet f s = (f s).bind kLenSet := Eq.trans rfl rfl
@[simp] theorem x_isLst_val : isLst (.val (.list ds)) s = true := Eq.trans rfl rfl
@[simp] theorem x_isLst_new : isLst (.new ds) s = true := Eq.trans rfl rfl
@[simp] theorem x_isLst_slot : isLst (.slot i) s = (match s.d[i]? with | some (.own _) => true | some (.val (.list _)) => true | _ => false) := by
  show (match look (.slot i) s with | some (.list _) => true | _ => false) = _
  rw [x_look_slot]
  cases s.d[i]? with
  | none => rfl
  | some c =>
    cases c with
    | val d => cases d <;> rfl
    | _ => rfl
@[simp] theorem x_index : fIndex g f s = (g s).bind (kIdx f) := by
  show Res.bind _ _ = _
  congr 1
@[simp] theorem x_isOwn : isOwn i s = (match s.d[i]? with | some (.own _) => true | _ => false) := Eq.trans rfl rfl
@[simp] theorem x_app : fApp i f s = if isOwn i s = true then (f s).bind (kApp1 i) else .stuck := Eq.trans rfl rfl
@[simp] theorem x_pop : fPop i s = (match s.d[i]? with | some (.own ds) => (match ds[ds.length - 1]? with | some d => .ok (.val d) (putS i (.own ds.dropLast) s) | none => .stuck) | _ => .stuck) := Eq.trans rfl rfl
@[simp] theorem x_popAt : fPopAt i f s = if isOwn i s = true then (f s).bind (kPopAt i) else .stuck := Eq.trans rfl rfl
@[simp] theorem x_ins : fIns i fs s = if isOwn i s = true then (fs s).bind (kIns i) else .stuck := Eq.trans rfl rfl
@[simp] theorem x_rem : fRem i f s = if isOwn i s = true then (f s).bind (kRem i) else .stuck := Eq.trans rfl rfl
@[simp] theorem x_clear : fClear i s = (match s.d[i]? with | some (.own _) => .ok (.val .none) (putS i (.own []) s) | _ => .stuck) := Eq.trans rfl rfl
@[simp] theorem x_aug {o : Int → Int → Int} : fAug i o f s = (match s.d[i]? with | some (.val (.int a)) => onRes (f s) (kAug i o a) | _ => .stuck) := Eq.trans rfl rfl
@[simp] theorem x_setIx : fSetIx i f g s = onRes ((f s).bind fEsc) (kSetIx i g) := Eq.trans rfl rfl
@[simp] theorem x_toSl_val : toSl (.val d) = .val d := Eq.trans rfl rfl
@[simp] theorem x_toSl_ob {o : OD} : toSl (.ob o) = .ob o := Eq.trans rfl rfl
@[simp] theorem x_toSl_raw : toSl (.raw v) = .raw v := Eq.trans rfl rfl
@[simp] theorem x_par : fPar i j fs s = onRes (fs s) (kPar i j) := Eq.trans rfl rfl
@[simp] theorem x_bName : bName i d s = if i < s.d.length then some (putS i (.val d) s) else none := Eq.trans rfl rfl
@[simp] theorem x_bTup {bs : Bds} : bTup n bs (.tuple ds) s = if ds.length = n then bs ds s else none := Eq.trans rfl rfl
@[simp] theorem x_bSeq_t {bs : Bds} : bSeq n bs (.tuple ds) s = if ds.length = n then bs ds s else none := Eq.trans rfl rfl
@[simp] theorem x_bSeq_l {bs : Bds} : bSeq n bs (.list ds) s = if ds.length = n then bs ds s else none := Eq.trans rfl rfl
@[simp] theorem x_bNil : bNil [] s = some s := Eq.trans rfl rfl
@[simp] theorem x_bCons {b : Bd} {bs : Bds} : bCons b bs (d :: ds) s = (match b d s with | some s' => bs ds s' | none => none) := Eq.trans rfl rfl
@[simp] theorem x_asgB {b : Bd} : fAsgB f b s = onRes ((f s).bind fEsc) (kAsgB b) := Eq.trans rfl rfl
@[simp] theorem x_lstI : fLstI f s = (f s).bind kLstI := Eq.trans rfl rfl
@[simp] theorem x_tupI : fTupI f s = (f s).bind kTupI := Eq.trans rfl rfl
@[simp] theorem x_rng1 : fRng1 fs s = (fs s).bind kRng1 := Eq.trans rfl rfl
@[simp] theorem x_rng2 : fRng2 fs s = (fs s).bind kRng2 := Eq.trans rfl rfl
@[simp] theorem x_enum : fEnum fs s = (fs s).bind kEnum := Eq.trans rfl rfl
@[simp] theorem x_zip : fZip fs s = (fs s).bind kZip := Eq.trans rfl rfl
@[simp] theorem x_for {fi : M (List PyData)} {b : Bd} : fFor fi b p s = onRes (fi s) (loopF b p) := Eq.trans rfl rfl
@[simp] theorem x_yes : fYes s = .ok true s := Eq.trans rfl rfl
@[simp] theorem x_addII {a b : Int} : addO (.int a) (.int b) = some (.val (.int (a + b))) := Eq.trans rfl rfl
@[simp] theorem x_addLL : addO (.list ds) (.list es) = if leS (ds.length + es.length) then some (.new (ds ++ es)) else none := Eq.trans rfl rfl
@[simp] theorem x_addTT : addO (.tuple ds) (.tuple es) = if leS (ds.length + es.length) then some (.val (.tuple (ds ++ es))) else none := Eq.trans rfl rfl
@[simp] theorem x_sub {a b : Int} : subO (.int a) (.int b) = some (.val (.int (a - b))) := Eq.trans rfl rfl
theorem x_mul {a b : Int} : mulO (.int a) (.int b) = if lgM a b then some (.val (.int (a * b))) else none := Eq.trans rfl rfl
@[simp] theorem x_mulL {k : Int} : mulO (.list ds) (.int k) = if inW k ∧ leS (ds.length * k.toNat) then some (.new (List.replicate k.toNat ds).flatten) else none := Eq.trans rfl rfl
theorem x_fdiv {a b : Int} : fdivO (.int a) (.int b) = if 0 < b ∧ lgD b then some (.val (.int (a / b))) else none := Eq.trans rfl rfl
theorem x_mod {a b : Int} : modO (.int a) (.int b) = if 0 < b then some (.val (.int (a % b))) else none := Eq.trans rfl rfl
theorem x_pow {a b : Int} : powO (.int a) (.int b) = if 0 ≤ b ∧ leP b ∧ lgP a then some (.val (.int (a ^ b.toNat))) else none := Eq.trans rfl rfl
@[simp] theorem x_lt {a b : Int} : ltO (.int a) (.int b) = some (.val (.bool (decide (a < b)))) := Eq.trans rfl rfl
@[simp] theorem x_le {a b : Int} : leO (.int a) (.int b) = some (.val (.bool (decide (a ≤ b)))) := Eq.trans rfl rfl
@[simp] theorem x_gt {a b : Int} : gtO (.int a) (.int b) = some (.val (.bool (decide (b < a)))) := Eq.trans rfl rfl
@[simp] theorem x_ge {a b : Int} : geO (.int a) (.int b) = some (.val (.bool (decide (b ≤ a)))) := Eq.trans rfl rfl
@[simp] theorem x_neg {a : Int} : negO (.int a) = some (.val (.int (-a))) := Eq.trans rfl rfl
@[simp] theorem x_rev : revO (.list ds) = some (.new ds.reverse) := Eq.trans rfl rfl
@[simp] theorem x_ixL {a : Int} : ixO (.list ds) (.int a) = (atI ds a).map .val := Eq.trans rfl rfl
@[simp] theorem x_ixT {a : Int} : ixO (.tuple ds) (.int a) = (atI ds a).map .val := Eq.trans rfl rfl
@[simp] theorem x_lenL : lenO [.list ds] = some (.val (.int ds.length)) := Eq.trans rfl rfl
@[simp] theorem x_lenT : lenO [.tuple ds] = some (.val (.int ds.length)) := Eq.trans rfl rfl
@[simp] theorem x_listL : listO [.list ds] = some (.new ds) := Eq.trans rfl rfl
@[simp] theorem x_listT : listO [.tuple ds] = some (.new ds) := Eq.trans rfl rfl
@[simp] theorem x_tupL : tupleO [.list ds] = some (.val (.tuple ds)) := Eq.trans rfl rfl
@[simp] theorem x_sliceL {lo hi : Option Int} : sliceO (.list ds) lo hi = some (.new (cutD ds lo hi)) := Eq.trans rfl rfl
@[simp] theorem x_sliceT {lo hi : Option Int} : sliceO (.tuple ds) lo hi = some (.val (.tuple (cutD ds lo hi))) := Eq.trans rfl rfl
@[simp] theorem x_allO : allO [.list ds] = (boolsD ds).map fun bs => .val (.bool (bs.all id)) := Eq.trans rfl rfl
@[simp] theorem x_anyO : anyO [.list ds] = (boolsD ds).map fun bs => .val (.bool (bs.any id)) := Eq.trans rfl rfl
@[simp] theorem x_sumO : sumO [.list ds] = (intsD ds).map fun bs => .val (.int bs.sum) := Eq.trans rfl rfl
@[simp] theorem x_sortedO : sortedO [.list ds] = (match intsD ds with | some ns => some (.new ((sortI ns).map .int)) | none => if canSort ds then some (.new (sortDD ds)) else none) := Eq.trans rfl rfl
@[simp] theorem x_absO {a : Int} : absO [.int a] = some (.val (.int (if a < 0 then -a else a))) := Eq.trans rfl rfl
@[simp] theorem x_intI {a : Int} : intO [.int a] = some (.val (.int a)) := Eq.trans rfl rfl
@[simp] theorem x_intB {b : Bool} : intO [.bool b] = some (.val (.int (if b then 1 else 0))) := Eq.trans rfl rfl
@[simp] theorem x_max2 {a b : Int} : maxO [.int a, .int b] = some (.val (.int (if b > a then b else a))) := Eq.trans rfl rfl
@[simp] theorem x_min2 {a b : Int} : minO [.int a, .int b] = some (.val (.int (if b < a then b else a))) := Eq.trans rfl rfl
@[simp] theorem x_isT_int {a : Int} {m : String} : isT m (.int a) = (m == "int") := by simp [isT, isN, tyN]
@[simp] theorem x_isT_bool {a : Bool} {m : String} : isT m (.bool a) = (m == "bool" || m == "int") := by simp [isT, isN, tyN]
@[simp] theorem x_isT_list {m : String} : isT m (.list ds) = (m == "list") := by simp [isT, isN, tyN]
@[simp] theorem x_isT_tuple {m : String} : isT m (.tuple ds) = (m == "tuple") := by simp [isT, isN, tyN]
@[simp] theorem x_isT_str {a : Str} {m : String} : isT m (.str a) = (m == "str") := by simp [isT, isN, tyN]
@[simp] theorem x_isT_none {m : String} : isT m .none = (m == "NoneType") := by simp [isT, isN, tyN]
@[simp] theorem x_finR_val : finR (.val d) s = some (.val d) := Eq.trans rfl rfl
@[simp] theorem x_finR_new : finR (.new ds) s = some (.new ds) := Eq.trans rfl rfl
@[simp] theorem x_finR_raw : finR (.raw v) s = some (.raw v) := Eq.trans rfl rfl
@[simp] theorem x_finR_ob {o : OD} : finR (.ob o) s = some (.ob o) := Eq.trans rfl rfl
@[simp] theorem x_finR_slot : finR (.slot i) s = (match s.d[i]? with | some (.own ds) => some (.new ds) | some (.val d) => some (.val d) | _ => none) := Eq.trans rfl rfl
theorem x_runF {m : Nat} {rs : List R} : runF n m p rs w = if rs.length = m then finF (p ⟨rs.map toSl ++ List.replicate (n - m) .no, w⟩) else .stuck := Eq.trans rfl rfl
end
/-! ### loops -/
theorem loopF_inv {b : Bd} {p : DSt → Flow} (Inv : Nat → DSt → Prop) {ds : List PyData} {s : DSt} (h0 : Inv 0 s) (step : ∀ (i : Nat) (d : PyData) (s : DSt), ds[i]? = some d → Inv i s → ∃ s1 s2, b d s = some s1 ∧ p s1 = .next s2 ∧ Inv (i + 1) s2) : ∃ s', loopF b p ds s = .next s' ∧ Inv ds.length s' := by
  induction ds generalizing s Inv with
  | nil => exact ⟨s, rfl, h0⟩
  | cons d ds ih =>
    obtain ⟨s1, s2, e1, e2, h2⟩ := step 0 d s rfl h0
    obtain ⟨s', e, h⟩ := ih (fun i => Inv (i + 1)) h2 fun i d s hi h => step (i + 1) d s (by simpa using hi) h
    refine ⟨s', ?_, h⟩
    unfold loopF
    simp only [e1, e2]
    exact e
/-! ### comprehensions -/
end DL

/-! DL16: what is asked of a law's own body, and the end -/
noncomputable section
namespace DL
open PySem L2 PyProof.Rows
def PurseOk (n : Nat) (p : DSt → Flow) : Prop := ∀ (a : Addr) (ns : List Int), ns.length ≤ 63 → ∃ (cells : List Int) (s' : DSt), p ⟨.raw (.ref a) :: .own (ns.map .int) :: List.replicate (n - 2) .no, none⟩ = .ret (.new [.list (cells.map .int), .int 0]) s' ∧ cells ≠ [] ∧ cells.length ≤ 63
def LawOk (n : Nat) (p : DSt → Flow) : Prop := ∀ (a pa ca : Addr) (cells : List Int), pa ≠ ca → cells ≠ [] → cells.length ≤ 63 → ∃ s', p ⟨(Sl.raw (.ref a) :: List.replicate (n - 1) Sl.no).set 1 (.raw (.ref pa)), some (pa, ca, cells, 0)⟩ = .ret (.val (.bool true)) s'
theorem wr_mk {K : PySem.W.Frag} {h : Heap} {mg : Str → Option Value} {x : Str} {st : Stmt} {f : Addr} {oc : Value} {od an : Option Addr} {osl : Array (Option Value)} {kV doc pm cdv ct : Value} {ps : List Str} (X : K.In h) (G : h.Ns mainGlobals mg)
    (a : PySem.W.nsIn K mainGlobals x = some (some (.ref f))) (l : K.lookup f = some ⟨oc, od, .func (PySem.W.fnOf x x (defArgs st) (defBody st) (defScope st) .none kV doc pm an cdv ct), osl⟩)
    (c : PySem.W.codeIn K cdv x = true) (k : PySem.W.keepIn K (.ref f) = true) (h : ∀ (kV doc pm : Value) (an : Option Addr) (cdv ct : Value) (us : List Value), us.length = ps.length → bindArgs (PySem.W.fnOf x x (defArgs st) (defBody st) (defScope st) .none kV doc pm an cdv ct) ⟨us, []⟩ = pure (ps.zip us)) : Wr K mg x st ps :=
  ⟨f, _, fun_mk l c k, PySem.W.mg_of X G a, (fun_mk l c k).binds h⟩
end DL

/-! DL17: data in plain words: equality, places, cuts -/
noncomputable section
namespace DL
open PySem L2
/-! ### no truth value and no dict within: == is equality -/
mutual
def calmD : PyData → Bool
  | .none | .int _ | .str _ => true
  | .list xs | .tuple xs => calmA xs
  | _ => false
def calmA : List PyData → Bool
  | [] => true
  | x :: xs => calmD x && calmA xs
end
mutual
theorem eqv_calm : ∀ d e : PyData, calmD d = true → calmD e = true → (PyData.eqv d e = true ↔ d = e)
  | .none, e, _, h => by cases e <;> simp [PyData.eqv, calmD] at *
  | .int i, e, _, h => by cases e <;> simp [PyData.eqv, calmD] at *
  | .str i, e, _, h => by cases e <;> simp [PyData.eqv, calmD] at *
  | .list xs, e, h1, h => by
    cases e <;> simp [PyData.eqv, calmD] at *
    rename_i ys
    exact eqvAll_calm xs ys h1 h
  | .tuple xs, e, h1, h => by
    cases e <;> simp [PyData.eqv, calmD] at *
    rename_i ys
    exact eqvAll_calm xs ys h1 h
  | .bool _, _, h, _ => by simp [calmD] at h
  | .dict _, _, h, _ => by simp [calmD] at h
theorem eqvAll_calm : ∀ xs ys : List PyData, calmA xs = true → calmA ys = true → (PyData.eqvAll xs ys = true ↔ xs = ys)
  | [], ys, _, _ => by cases ys <;> simp [PyData.eqvAll]
  | x :: xs, ys, h1, h => by
    cases ys with
    | nil => simp [PyData.eqvAll]
    | cons y ys =>
      simp [calmA] at h1 h
      simp [PyData.eqvAll, eqv_calm x y h1.1 h.1, eqvAll_calm xs ys h1.2 h.2]
end
theorem eqv_dec {d e : PyData} {p : Prop} [Decidable p] (h1 : calmD d = true) (h2 : calmD e = true) (h : d = e ↔ p) : PyData.eqv d e = decide p := by
  rw [Bool.eq_iff_iff, eqv_calm d e h1 h2, h]
  simp
@[simp] theorem calm_int {i : Int} : calmD (.int i) = true := rfl
@[simp] theorem calm_str {i : Str} : calmD (.str i) = true := rfl
@[simp] theorem calm_none : calmD .none = true := rfl
@[simp] theorem calm_list {xs : List PyData} : calmD (.list xs) = calmA xs := rfl
@[simp] theorem calm_tuple {xs : List PyData} : calmD (.tuple xs) = calmA xs := rfl
@[simp] theorem calm_nil : calmA [] = true := rfl
@[simp] theorem calm_cons {x : PyData} {xs : List PyData} : calmA (x :: xs) = (calmD x && calmA xs) := rfl
@[simp] theorem calm_map {α : Type} {f : α → PyData} {l : List α} : calmA (l.map f) = l.all fun a => calmD (f a) := by
  induction l with
  | nil => rfl
  | cons a l ih => simp [ih]
@[simp] theorem calm_app {xs ys : List PyData} : calmA (xs ++ ys) = (calmA xs && calmA ys) := by
  induction xs with
  | nil => simp
  | cons a l ih => simp [ih, Bool.and_assoc]
theorem depthAll_le {xs : List PyData} {n : Nat} : PyData.depthAll xs ≤ n ↔ ∀ x ∈ xs, x.depth ≤ n := by
  induction xs with
  | nil => simp [PyData.depthAll]
  | cons x xs ih => simp [PyData.depthAll, ih, Nat.max_le]
@[simp] theorem dep_int {i : Int} : (PyData.int i).depth = 0 := rfl
@[simp] theorem dep_str {i : Str} : (PyData.str i).depth = 0 := rfl
@[simp] theorem dep_bool {i : Bool} : (PyData.bool i).depth = 0 := rfl
@[simp] theorem dep_none : (PyData.none).depth = 0 := rfl
@[simp] theorem dep_list {xs : List PyData} : (PyData.list xs).depth = PyData.depthAll xs + 1 := rfl
@[simp] theorem dep_tuple {xs : List PyData} : (PyData.tuple xs).depth = PyData.depthAll xs + 1 := rfl
@[simp] theorem dep_nil : PyData.depthAll [] = 0 := rfl
@[simp] theorem dep_cons {x : PyData} {xs : List PyData} : PyData.depthAll (x :: xs) = max x.depth (PyData.depthAll xs) := rfl
@[simp] theorem dep_ints {ns : List Int} : PyData.depthAll (ns.map .int) = 0 := by
  induction ns with
  | nil => rfl
  | cons a l ih => simp [ih]
theorem eqO_calm {d e : PyData} {p : Prop} [Decidable p] (h1 : calmD d = true) (h2 : calmD e = true) (hp : d = e ↔ p) (h : d.depth ≤ 60) : eqO d e = some (.val (.bool (decide p))) := by
  unfold eqO
  rw [if_pos (by omega), eqv_dec h1 h2 hp]
theorem neO_calm {d e : PyData} {p : Prop} [Decidable p] (h1 : calmD d = true) (h2 : calmD e = true) (hp : d = e ↔ p) (h : d.depth ≤ 60) : neO d e = some (.val (.bool (decide (¬ p)))) := by
  unfold neO
  rw [if_pos (by omega), eqv_dec h1 h2 hp]
  simp
theorem int_inj : Function.Injective PyData.int := fun a b h => by cases h; rfl
@[simp] theorem map_int_inj {ns ms : List Int} : ns.map PyData.int = ms.map PyData.int ↔ ns = ms := by
  constructor
  · exact fun h => (List.map_inj_right (fun a b h => int_inj h)).mp h
  · exact fun h => by rw [h]
@[simp] theorem x_eqI {a b : Int} : eqO (.int a) (.int b) = some (.val (.bool (decide (a = b)))) := eqO_calm rfl rfl (by simp) (by simp)
@[simp] theorem x_neI {a b : Int} : neO (.int a) (.int b) = some (.val (.bool (decide (¬ a = b)))) := neO_calm rfl rfl (by simp) (by simp)
@[simp] theorem x_eqB {a b : Bool} : eqO (.bool a) (.bool b) = some (.val (.bool (a == b))) := by simp [eqO, PyData.eqv]
@[simp] theorem x_neB {a b : Bool} : neO (.bool a) (.bool b) = some (.val (.bool (a != b))) := by simp [neO, PyData.eqv, bne]
@[simp] theorem x_eqS {a b : Str} : eqO (.str a) (.str b) = some (.val (.bool (decide (a = b)))) := eqO_calm rfl rfl (by simp) (by simp)
@[simp] theorem x_neS {a b : Str} : neO (.str a) (.str b) = some (.val (.bool (decide (¬ a = b)))) := neO_calm rfl rfl (by simp) (by simp)
@[simp] theorem x_eqL {a b : List Int} : eqO (.list (a.map .int)) (.list (b.map .int)) = some (.val (.bool (decide (a = b)))) := eqO_calm (by simp) (by simp) (by simp) (by simp)
@[simp] theorem x_neL {a b : List Int} : neO (.list (a.map .int)) (.list (b.map .int)) = some (.val (.bool (decide (¬ a = b)))) := neO_calm (by simp) (by simp) (by simp) (by simp)
theorem eqvAll_nil {ds : List PyData} : PyData.eqvAll ds [] = ds.isEmpty := by cases ds <;> rfl
@[simp] theorem x_eqDn {ds : List PyData} : eqO (.list ds) (.list []) = some (.val (.bool ds.isEmpty)) := by
  unfold eqO
  rw [if_pos (by simp)]
  simp [PyData.eqv, eqvAll_nil]
@[simp] theorem x_neDn {ds : List PyData} : neO (.list ds) (.list []) = some (.val (.bool (!ds.isEmpty))) := by
  unfold neO
  rw [if_pos (by simp)]
  simp [PyData.eqv, eqvAll_nil]
@[simp] theorem x_inL {a : Int} {ns : List Int} : inO (.int a) (.list (ns.map .int)) = some (.val (.bool (decide (a ∈ ns)))) := by
  unfold inO
  simp only [items, dep_ints, dep_int]
  rw [if_pos (by decide)]
  congr 3
  rw [Bool.eq_iff_iff]
  simp [PyData.eqv]
@[simp] theorem x_notInL {a : Int} {ns : List Int} : notInO (.int a) (.list (ns.map .int)) = some (.val (.bool (decide (¬ a ∈ ns)))) := by
  have h := x_inL (a := a) (ns := ns)
  unfold inO at h
  unfold notInO
  simp only [items, dep_ints, dep_int] at h ⊢
  rw [if_pos (by decide)] at h ⊢
  injection h with h
  injection h with h
  injection h with h
  rw [h]
  simp
theorem boolsD_map' {α : Type} {f : α → Bool} {l : List α} : boolsD (l.map fun a => .bool (f a)) = some (l.map f) := by
  induction l with
  | nil => rfl
  | cons a l ih => simp [boolsD, ih]
/-! ### places -/
theorem atI_nat {α : Type} {xs : List α} {k : Nat} : atI xs (k : Int) = xs[k]? := by
  unfold atI ixN
  rw [if_pos (by omega)]
  by_cases h : k < xs.length
  · rw [if_pos (by omega)]; simp
  · rw [if_neg (by omega)]; simp; omega
theorem atI_pos {α : Type} {xs : List α} {i : Int} (h : 0 ≤ i) : atI xs i = xs[i.toNat]? := by
  obtain ⟨k, rfl⟩ := Int.eq_ofNat_of_zero_le h
  exact atI_nat
@[simp] theorem atI_0 {α : Type} {xs : List α} : atI xs 0 = xs[0]? := atI_nat (k := 0)
@[simp] theorem atI_1 {α : Type} {xs : List α} : atI xs 1 = xs[1]? := atI_nat (k := 1)
@[simp] theorem atI_2 {α : Type} {xs : List α} : atI xs 2 = xs[2]? := atI_nat (k := 2)
theorem atI_mapF {α β : Type} {f : α → β} {xs : List α} {i : Int} : atI (xs.map f) i = (atI xs i).map f := by
  unfold atI
  rw [List.length_map]
  cases ixN xs.length i with
  | none => rfl
  | some j => simp
theorem atI_some {α : Type} {xs : List α} {i : Int} (h0 : 0 ≤ i) (h : i < xs.length) : ∃ x, atI xs i = some x ∧ x ∈ xs := by
  rw [atI_pos h0]
  exact ⟨xs[i.toNat]'(by omega), List.getElem?_eq_getElem _, List.getElem_mem _⟩
theorem idxO_ints {a : Int} {ns : List Int} : idxO (ns.map .int) (.int a) = ns.findIdx? (· == a) := by
  unfold idxO
  rw [if_pos (by simp [flatD])]
  rw [List.findIdx?_map]
  congr 1
theorem idxO_mem {a : Int} {ns : List Int} (h : a ∈ ns) : idxO (ns.map .int) (.int a) = some (ns.idxOf a) := by
  rw [idxO_ints, List.findIdx?_eq_some_of_exists ⟨a, h, by simp⟩]
  rfl
/-! ### cuts -/
def cutI {α : Type} (xs : List α) (lo hi : Option Int) : List α := (xs.drop (HT.sIx xs.length 0 lo)).take (HT.sIx xs.length xs.length hi - HT.sIx xs.length 0 lo)
theorem cutD_map {α : Type} {f : α → PyData} {xs : List α} {lo hi : Option Int} : cutD (xs.map f) lo hi = (cutI xs lo hi).map f := by
  unfold cutD cutI
  simp [List.map_drop, List.map_take]
theorem sIx_nat {n d k : Nat} : HT.sIx n d (some (k : Int)) = min k n := by
  unfold HT.sIx
  simp
  try omega
theorem sIx_none {n d : Nat} : HT.sIx n d none = d := rfl
theorem cut_to {α : Type} {xs : List α} {k : Nat} : cutI xs none (some (k : Int)) = xs.take k := by
  unfold cutI
  rw [sIx_nat, sIx_none]
  simp
theorem cut_from {α : Type} {xs : List α} {k : Nat} : cutI xs (some (k : Int)) none = xs.drop k := by
  unfold cutI
  rw [sIx_nat, sIx_none]
  by_cases h : k ≤ xs.length
  · rw [Nat.min_eq_left h]
    apply List.take_of_length_le
    simp
  · rw [Nat.min_eq_right (by omega)]
    simp
    omega
/-! ### a set's length -/
theorem nub_len {ns : List Int} (h : ns.Nodup) : (nubI ns).length = ns.length := by
  unfold nubI
  have key : ∀ (i : Nat), i ≤ ns.length → PyProof.Rows.firstMet (fun i => ns.getD i 0) i = ns.take i := by
    intro i
    induction i with
    | zero => intro _; simp [PyProof.Rows.firstMet_zero]
    | succ i ih =>
      intro hi
      rw [PyProof.Rows.firstMet_succ, ih (by omega)]
      have e : ns.getD i 0 = ns[i] := by simp [List.getD_eq_getElem?_getD, List.getElem?_eq_getElem (by omega : i < ns.length)]
      rw [e, List.take_add_one, List.getElem?_eq_getElem (by omega : i < ns.length)]
      unfold PyProof.Rows.step_dedup
      have nin : ((ns.take i).any (· == ns[i])) = false := by
        rw [Bool.eq_false_iff]
        intro hc
        simp only [List.any_eq_true, beq_iff_eq, List.mem_take_iff_getElem] at hc
        obtain ⟨x, ⟨j, hj, rfl⟩, e⟩ := hc
        have := (List.getElem_inj h).mp e
        omega
      first
        | (rw [if_neg (by simp [nin])]; rfl)
        | (simp only [nin]; rfl)
        | simp_all
  rw [key _ (Nat.le_refl _), List.take_length]
/-! ### bounds -/
theorem log_lt {a : Int} {k : Nat} (h : a.natAbs < 2 ^ (k + 1)) : a.natAbs.log2 ≤ k := by
  by_cases h0 : a.natAbs = 0
  · rw [h0]; exact Nat.zero_le _
  · have := (Nat.log2_lt h0).mpr h
    omega
theorem log_small {a : Int} (h0 : -(2 ^ 200) < a) (h : a < 2 ^ 200) : a.natAbs.log2 < 200 := by
  have : a.natAbs < 2 ^ (199 + 1) := by
    have : (a.natAbs : Int) < 2 ^ 200 := by omega
    exact_mod_cast this
  have := log_lt this
  omega
theorem fdiv_ok {a b : Int} (h : 0 < b) (h2 : b < 2 ^ 200) : fdivO (.int a) (.int b) = some (.val (.int (a / b))) := by
  have := log_small (by omega) h2
  rw [x_fdiv, if_pos ⟨h, by unfold lgD; omega⟩]
theorem mod_ok {a b : Int} (h : 0 < b) : modO (.int a) (.int b) = some (.val (.int (a % b))) := by
  rw [x_mod, if_pos h]
theorem mul_ok {a b : Int} (h0 : -(2 ^ 200) < a) (h : a < 2 ^ 200) (h1 : -(2 ^ 200) < b) (h2 : b < 2 ^ 200) : mulO (.int a) (.int b) = some (.val (.int (a * b))) := by
  have := log_small h0 h
  have := log_small h1 h2
  rw [x_mul, if_pos (by unfold lgM; omega)]
@[simp] theorem pow_ok {a b : Int} (h0 : -(2 ^ 200) < a) (h : a < 2 ^ 200) (h1 : 0 ≤ b) (h2 : b ≤ 30000) : powO (.int a) (.int b) = some (.val (.int (a ^ b.toNat))) := by
  have := log_small h0 h
  rw [x_pow, if_pos ⟨h1, h2, by unfold lgP; omega⟩]
@[simp] theorem fdiv_lit {a : Int} {k : Nat} (h : 0 < k) (h2 : k < 2 ^ 200) : fdivO (.int a) (.int (no_index (OfNat.ofNat k))) = some (.val (.int (a / (OfNat.ofNat k)))) := fdiv_ok (by
    show (0 : Int) < (k : Int)
    omega) (by
    show (k : Int) < 2 ^ 200
    omega)
@[simp] theorem mod_lit {a : Int} {k : Nat} (h : 0 < k) : modO (.int a) (.int (no_index (OfNat.ofNat k))) = some (.val (.int (a % (OfNat.ofNat k)))) := mod_ok (by
    show (0 : Int) < (k : Int)
    omega)
/-! ### loops and comprehensions over the images of a list -/
theorem loopF_map {α : Type} {b : Bd} {p : DSt → Flow} {f : α → PyData} {l : List α} {s : DSt} (Inv : Nat → DSt → Prop) (h0 : Inv 0 s) (step : ∀ (i : Nat) (a : α) (s : DSt), l[i]? = some a → Inv i s → ∃ s1 s2, b (f a) s = some s1 ∧ p s1 = .next s2 ∧ Inv (i + 1) s2) : ∃ s', loopF b p (l.map f) s = .next s' ∧ Inv l.length s' := by
  have := loopF_inv (b := b) (p := p) (ds := l.map f) Inv h0 fun i d s hd h => by
    rw [List.getElem?_map] at hd
    cases e : l[i]? with
    | none => rw [e] at hd; cases hd
    | some a =>
      rw [e] at hd
      cases hd
      exact step i a s e h
  rw [List.length_map] at this
  exact this
def Nx (x : Flow) (Q : DSt → Prop) : Prop := ∃ s, x = .next s ∧ Q s
@[simp] theorem nx_next {s : DSt} {Q : DSt → Prop} : Nx (.next s) Q ↔ Q s := ⟨fun ⟨_, e, h⟩ => by cases e; exact h, fun h => ⟨s, rfl, h⟩⟩
def bod (b : Bd) (p : DSt → Flow) (d : PyData) (s : DSt) : Flow := match b d s with
  | some s' => p s'
  | none => .stuck
@[simp] theorem x_bod {b : Bd} {p : DSt → Flow} {d : PyData} {s : DSt} : bod b p d s = (match b d s with | some s' => p s' | none => .stuck) := Eq.trans rfl rfl
theorem loopN {α : Type} {b : Bd} {p : DSt → Flow} {f : α → PyData} {l : List α} {s : DSt} (Inv : Nat → DSt → Prop) (h0 : Inv 0 s) (step : ∀ (i : Nat) (a : α) (s : DSt), l[i]? = some a → a ∈ l → Inv i s → Nx (bod b p (f a) s) (Inv (i + 1))) : ∃ s', loopF b p (l.map f) s = .next s' ∧ Inv l.length s' :=
  loopF_map Inv h0 fun i a s hi h => by
    obtain ⟨s2, e, h2⟩ := step i a s hi (List.mem_of_getElem? hi) h
    unfold bod at e
    split at e
    · rename_i s1 e1
      exact ⟨s1, s2, e1, e, h2⟩
    · cases e
theorem take_succ {α : Type} {l : List α} {i : Nat} {a : α} (h : l[i]? = some a) : l.take (i + 1) = l.take i ++ [a] := by
  rw [List.take_add_one, h]
  rfl
theorem range_at {n i a : Nat} (h : (List.range n)[i]? = some a) : a = i ∧ i < n := by
  have hi : i < n := by have := (List.getElem?_eq_some_iff.mp h).1; simpa using this
  simp [hi] at h
  exact ⟨h.symm, hi⟩
theorem loopC_gen {α : Type} {b : Bd} {ft : M Bool} {fe : M R} {vs : List Nat} {s : DSt} {f : α → PyData} (sb : α → DSt) (keep : α → Bool) (g : α → PyData) (hn : noOwn vs s.d = true) : ∀ (l : List α) (acc : List PyData),
    (∀ a ∈ l, b (f a) ⟨blank vs s.d, s.w⟩ = some (sb a)) → (∀ a ∈ l, (⟨putBack vs s.d (sb a).d, (sb a).w⟩ : DSt) = s) → (∀ a ∈ l, ft (sb a) = .ok (keep a) (sb a)) → (∀ a ∈ l, keep a = true → (fe (sb a)).bind fEsc = .ok (.val (g a)) (sb a)) →
    loopC b ft fe vs (l.map f) acc s = .ok (acc ++ (l.filter keep).map g) s
  | [], acc, _, _, _, _ => by simp [loopC]
  | d :: ds, acc, h1, h2, h3, h4 => by
    have ih := fun acc => loopC_gen sb keep g hn ds acc (fun d hd => h1 d (List.mem_cons_of_mem _ hd)) (fun d hd => h2 d (List.mem_cons_of_mem _ hd)) (fun d hd => h3 d (List.mem_cons_of_mem _ hd)) (fun d hd => h4 d (List.mem_cons_of_mem _ hd))
    have e1 := h1 d List.mem_cons_self
    have e2 := h2 d List.mem_cons_self
    have e3 := h3 d List.mem_cons_self
    rw [List.map_cons]
    unfold loopC
    rw [if_pos hn, e1]
    dsimp only
    rw [e3]
    cases k : keep d with
    | false =>
      show loopC b ft fe vs (ds.map f) acc _ = _
      rw [e2, ih]
      simp [k]
    | true =>
      have e4 := h4 d List.mem_cons_self k
      show (nerr (bnd fe fEsc (sb d))).bind _ = _
      rw [bnd_app, e4]
      show loopC b ft fe vs (ds.map f) (acc ++ [g d]) _ = _
      rw [e2, ih]
      simp [k]
theorem lc_gen {α : Type} {fi : M (List PyData)} {b : Bd} {ft : M Bool} {fe : M R} {vs : List Nat} {s s1 : DSt} {f : α → PyData} {l : List α} (sb : α → DSt) (keep : α → Bool) (g : α → PyData) (hi : fi s = .ok (l.map f) s1) (hl : l.length ≤ 100000) (hn : noOwn vs s1.d = true)
    (h1 : ∀ a ∈ l, b (f a) ⟨blank vs s1.d, s1.w⟩ = some (sb a)) (h2 : ∀ a ∈ l, (⟨putBack vs s1.d (sb a).d, (sb a).w⟩ : DSt) = s1) (h3 : ∀ a ∈ l, ft (sb a) = .ok (keep a) (sb a)) (h4 : ∀ a ∈ l, keep a = true → (fe (sb a)).bind fEsc = .ok (.val (g a)) (sb a)) :
    fLc fi b ft fe vs s = .ok (.new ((l.filter keep).map g)) s1 := by
  have hl2 : leS (l.map f).length := by rw [List.length_map]; exact size_le hl
  unfold fLc
  simp only [bnd_app, hi, bind_ok, if_pos hl2]
  rw [loopC_gen sb keep g hn l [] h1 h2 h3 h4]
  simp
theorem lc_all {α : Type} {fi : M (List PyData)} {b : Bd} {fe : M R} {vs : List Nat} {s s1 : DSt} {f : α → PyData} {l : List α} (sb : α → DSt) (g : α → PyData) (hi : fi s = .ok (l.map f) s1) (hl : l.length ≤ 100000) (hn : noOwn vs s1.d = true)
    (h1 : ∀ a ∈ l, b (f a) ⟨blank vs s1.d, s1.w⟩ = some (sb a)) (h2 : ∀ a ∈ l, (⟨putBack vs s1.d (sb a).d, (sb a).w⟩ : DSt) = s1) (h4 : ∀ a ∈ l, (fe (sb a)).bind fEsc = .ok (.val (g a)) (sb a)) :
    fLc fi b fYes fe vs s = .ok (.new (l.map g)) s1 := by
  rw [lc_gen (ft := fYes) sb (fun _ => true) g hi hl hn h1 h2 (fun _ _ => rfl) (fun a ha _ => h4 a ha), List.filter_eq_self.mpr (fun _ _ => rfl)]
/-! ### loops whose states are known -/
end DL

/-! DL18: more pieces: three at once; sorted(set(..)) -/
noncomputable section
namespace DL
open PySem L2 PyProof.Rows
open Evl (Ex)
section
variable {X : Cx} {cl : String → Addr} {W : WX} {e a b c : Expr} {es : List Expr} {f g : M R} {fs : M (List R)} {pos : Pos} {p q : DSt → Flow}
def kPar3 (i j l : Nat) (rs : List R) (s : DSt) : Flow := match rs with
  | [r1, r2, r3] => if i < s.d.length ∧ j < s.d.length ∧ l < s.d.length then .next (putS l (toSl r3) (putS j (toSl r2) (putS i (toSl r1) s))) else .stuck
  | _ => .stuck
@[simp] theorem y_kPar3 (i j l : Nat) (rs : List R) (s : DSt) : kPar3 i j l rs s = (match rs with | [r1, r2, r3] => if i < s.d.length ∧ j < s.d.length ∧ l < s.d.length then .next (putS l (toSl r3) (putS j (toSl r2) (putS i (toSl r1) s))) else .stuck | _ => .stuck) := Eq.trans rfl rfl
def fPar3 (i j l : Nat) (fs : M (List R)) : DSt → Flow := fun s => onRes (fs s) (kPar3 i j l)
@[simp] theorem x_par3 {i j l : Nat} {s : DSt} : fPar3 i j l fs s = onRes (fs s) (kPar3 i j l) := Eq.trans rfl rfl
end
/-! ### loops with a state, that may hand back -/
def foldS {α β : Type} (step : β → α → Sum β R) : β → List α → Sum β R
  | x, [] => .inl x
  | x, a :: l => match step x a with
    | .inl y => foldS step y l
    | .inr r => .inr r
theorem loopS {α β : Type} {b : Bd} {p : DSt → Flow} {f : α → PyData} {l : List α} {s : DSt} {x : β} (step : β → α → Sum β R) (Inv : β → DSt → Prop) (Post : R → DSt → Prop) (h0 : Inv x s)
    (h : ∀ a ∈ l, ∀ x s, Inv x s → (∀ y, step x a = .inl y → Nx (bod b p (f a) s) (Inv y)) ∧ (∀ r, step x a = .inr r → ∃ s', bod b p (f a) s = .ret r s' ∧ Post r s')) :
    (∀ y, foldS step x l = .inl y → ∃ s', loopF b p (l.map f) s = .next s' ∧ Inv y s') ∧ (∀ r, foldS step x l = .inr r → ∃ s', loopF b p (l.map f) s = .ret r s' ∧ Post r s') := by
  induction l generalizing s x with
  | nil => exact ⟨fun y e => by cases e; exact ⟨s, rfl, h0⟩, fun r e => by cases e⟩
  | cons a l ih =>
    obtain ⟨h1, h2⟩ := h a List.mem_cons_self x s h0
    have un : ∀ x, bod b p (f a) s = x → loopF b p ((a :: l).map f) s = (match x with | .next s2 => loopF b p (l.map f) s2 | .cnt s2 => loopF b p (l.map f) s2 | .brk s2 => .next s2 | y => y) := fun x e => by
      rw [List.map_cons]
      conv => lhs; unfold loopF
      unfold bod at e
      cases hb : b (f a) s with
      | none => rw [hb] at e; subst e; rfl
      | some s1 =>
        rw [hb] at e
        dsimp only at e ⊢
        rw [e]
        cases x <;> rfl
    cases k : step x a with
    | inl y =>
      obtain ⟨s2, e, hi⟩ := h1 y k
      have := ih (x := y) hi fun a ha => h a (List.mem_cons_of_mem _ ha)
      rw [un _ e]
      have ef : foldS step x (a :: l) = foldS step y l := by
        conv => lhs; unfold foldS
        rw [k]
      rw [ef]
      exact this
    | inr r =>
      obtain ⟨s2, e, hp⟩ := h2 r k
      rw [un _ e]
      have ef : foldS step x (a :: l) = .inr r := by
        conv => lhs; unfold foldS
        rw [k]
      rw [ef]
      exact ⟨fun y e => by (cases e), fun r2 e => by cases e; exact ⟨s2, rfl, hp⟩⟩
theorem loopFind {α : Type} {b : Bd} {p : DSt → Flow} {f : α → PyData} {l : List α} {s : DSt} (res : α → Option R) (Inv : DSt → Prop) (Post : R → DSt → Prop) (h0 : Inv s)
    (h : ∀ a ∈ l, ∀ s, Inv s → (res a = none → Nx (bod b p (f a) s) Inv) ∧ (∀ r, res a = some r → ∃ s', bod b p (f a) s = .ret r s' ∧ Post r s')) :
    (l.findSome? res = none → ∃ s', loopF b p (l.map f) s = .next s' ∧ Inv s') ∧ (∀ r, l.findSome? res = some r → ∃ s', loopF b p (l.map f) s = .ret r s' ∧ Post r s') := by
  have e : ∀ l : List α, foldS (fun (_ : Unit) a => match res a with | none => .inl () | some r => .inr r) () l = (match l.findSome? res with | none => .inl () | some r => .inr r) := by
    intro l
    induction l with
    | nil => rfl
    | cons a l ih =>
      unfold foldS
      rw [List.findSome?_cons]
      cases res a with
      | none => exact ih
      | some r => rfl
  have q := loopS (b := b) (p := p) (f := f) (l := l) (s := s) (x := ()) (fun (_ : Unit) a => match res a with | none => .inl () | some r => .inr r) (fun _ => Inv) Post h0 fun a ha x s hs => by
    obtain ⟨h1, h2⟩ := h a ha s hs
    refine ⟨fun y ey => ?_, fun r er => ?_⟩
    · cases k : res a with
      | none => exact h1 k
      | some r => rw [k] at ey; cases ey
    · cases k : res a with
      | none => rw [k] at er; cases er
      | some r' => rw [k] at er; cases er; exact h2 r k
  rw [e] at q
  refine ⟨fun k => ?_, fun r k => ?_⟩
  · rw [k] at q
    exact q.1 () rfl
  · rw [k] at q
    exact q.2 r rfl
theorem max_ints {ns : List Int} (h : ns ≠ []) : maxO [.list (ns.map .int)] = some (.val (.int (maxI ns))) := by
  cases ns with
  | nil => exact absurd rfl h
  | cons n ns =>
    show (match intsD ((n :: ns).map .int) with | some (n :: ns) => some (R.val (.int (maxI (n :: ns)))) | _ => none) = _
    rw [intsD_map]
theorem min_ints {ns : List Int} (h : ns ≠ []) : minO [.list (ns.map .int)] = some (.val (.int (minI ns))) := by
  cases ns with
  | nil => exact absurd rfl h
  | cons n ns =>
    show (match intsD ((n :: ns).map .int) with | some (n :: ns) => some (R.val (.int (minI (n :: ns)))) | _ => none) = _
    rw [intsD_map]
end DL

/-! DL19: e[:0:-1]; list(range(..)); sorted(set(..)) of ints -/
noncomputable section
namespace DL
open PySem L2 PyProof.Rows
open Evl (Ex)
/-! ### e[:0:-1] -/
section
variable {X : Cx} {cl : String → Addr} {W : WX} {e a b c : Expr} {es : List Expr} {f g : M R} {fs : M (List R)} {pos : Pos} {p q : DSt → Flow}
def tRevTo (K : PySem.W.Frag) (te : TE) : TE := fun σ H Q => te σ H fun x H1 => ∃ a xs, x = .ref a ∧ SqL K H1 a xs ∧ ∀ p, H1 p = none → Q (.ref p) (upd H1 p (.lst (xs.drop 1).reverse))
def revToO : PyData → Option R
  | .list ds => some (.new (ds.drop 1).reverse)
  | _ => none
@[simp] theorem x_revTo {ds : List PyData} : revToO (.list ds) = some (.new (ds.drop 1).reverse) := Eq.trans rfl rfl
/-! ### list(range(..)) -/
def rgS (a b : Int) : Prop := RgOk a b
instance (a b : Int) : Decidable (rgS a b) := Classical.propDecidable _
@[simp] theorem rgS_of {a b : Int} (h0 : 0 ≤ a) (h1 : b ≤ 16777216) (h2 : a ≤ 16777216) (h3 : 0 ≤ b) : rgS a b := RgOk.of_le h0 h1 h2 h3
def kLRng (a : Int) (r : R) (s : DSt) : Res R := match look r s with
  | some (.int b) => if rgS a b then .ok (.new (rangeD a (b - a).toNat)) s else .stuck
  | _ => .stuck
@[simp] theorem y_kLRng (a : Int) (r : R) (s : DSt) : kLRng a r s = (match look r s with | some (.int b) => if rgS a b then .ok (.new (rangeD a (b - a).toNat)) s else .stuck | _ => .stuck) := Eq.trans rfl rfl
def fLRng1 (f : M R) : M R := bnd f (kLRng 0)
@[simp] theorem x_lRng1 {f : M R} {s : DSt} : fLRng1 f s = (f s).bind (kLRng 0) := Eq.trans rfl rfl
def kLRng2 (g : M R) (r : R) (s : DSt) : Res R := match look r s with
  | some (.int a) => (g s).bind (kLRng a)
  | _ => .stuck
@[simp] theorem y_kLRng2 (g : M R) (r : R) (s : DSt) : kLRng2 g r s = (match look r s with | some (.int a) => (g s).bind (kLRng a) | _ => .stuck) := Eq.trans rfl rfl
def fLRng2 (f g : M R) : M R := bnd f (kLRng2 g)
@[simp] theorem x_lRng2 {f g : M R} {s : DSt} : fLRng2 f g s = (f s).bind (kLRng2 g) := Eq.trans rfl rfl
end
end DL

/-! DL20: str of data -/
noncomputable section
namespace DL
open PySem L2 PyProof.Rows
open Evl (Ex)
def showOk (d : PyData) : Prop := d.showable = true ∧ d.hasDict = false ∧ d.shown.length ≤ sizeLine ∧ d.depth ≤ 60
instance (d : PyData) : Decidable (showOk d) := Classical.propDecidable _
def lgT (i : Int) : Prop := i.natAbs.log2 < 1920
instance (i : Int) : Decidable (lgT i) := Classical.propDecidable _
def strO (d : PyData) : Option R := match d with
  | .int i => if lgT i then some (.val (.str (Str.ofString (toString i)))) else none
  | .str x => some (.val (.str x))
  | .list ds => if showOk (.list ds) then some (.val (.str (PyData.list ds).shown)) else none
  | .tuple ds => if showOk (.tuple ds) then some (.val (.str (PyData.tuple ds).shown)) else none
  | _ => none
def kStr (r : R) (s : DSt) : Res R := match look r s with
  | some d => (match strO d with
    | some r => .ok r s
    | none => .stuck)
  | none => .stuck
@[simp] theorem y_kStr (r : R) (s : DSt) : kStr r s = (match look r s with | some d => (match strO d with | some r => .ok r s | none => .stuck) | none => .stuck) := Eq.trans rfl rfl
def fStr (f : M R) : M R := bnd f kStr
@[simp] theorem x_str {f : M R} {s : DSt} : fStr f s = (f s).bind kStr := Eq.trans rfl rfl
section
variable {X : Cx} {cl : String → Addr} {W : WX} {e a b c : Expr} {es : List Expr} {f g : M R} {fs : M (List R)} {pos : Pos} {p q : DSt → Flow}
def rStr (K : PySem.W.Frag) : List V → Hp → VK → Prop := fun vs H Q => (∃ i, vs = [.int i] ∧ i.natAbs.log2 < 1920 ∧ Q (.str (Str.ofString (toString i))) H) ∨ (∃ x, vs = [.str x] ∧ Q (.str x) H) ∨
  ∃ a d, vs = [.ref a] ∧ Dp K H (.ref a) d ∧ showOk d ∧ Q (.str d.shown) H
end
/-! ### how long what is shown is -/
mutual
def wgt : PyData → Nat
  | .list xs | .tuple xs => wgtA xs + 10
  | .str x => 10 * x.length + 100
  | _ => 100
def wgtA : List PyData → Nat
  | [] => 0
  | x :: xs => wgt x + 2 + wgtA xs
end
mutual
def smallD : PyData → Bool
  | .none | .bool _ => true
  | .int i => decide (i.natAbs < 10 ^ 90)
  | .list xs | .tuple xs => smallA xs
  | .str x => x.cps.toList.all fun c => decide (c < 16 ^ 8)
  | _ => false
def smallA : List PyData → Bool
  | [] => true
  | x :: xs => smallD x && smallA xs
end
theorem int_shown {i : Int} (h : i.natAbs < 10 ^ 90) : (Str.ofString (toString i)).length ≤ 91 := by
  rw [ofString_len]
  cases i with
  | ofNat m =>
    have := digits10_le (k := 90) (n := m) (by decide) h
    show (Nat.repr m).length ≤ _
    simp [Nat.repr]
    omega
  | negSucc m =>
    have := digits10_le (k := 90) (n := m + 1) (by decide) h
    show ("-" ++ Nat.repr (m + 1)).length ≤ _
    have h1 : "-".length = 1 := by first | rfl | decide
    simp [Nat.repr, h1]
    omega
theorem listText_le (ts : List Str) : (listText ts).length ≤ piled ts + 4 := by
  unfold listText
  rw [strLen_append]
  have e1 : (("]" : String) : Str).length = 1 := rfl
  have e2 : (("[" : String) : Str).length = 1 := rfl
  rw [e1]
  cases ts with
  | nil => show (("[" : String) : Str).length + 1 ≤ _; rw [e2]; omega
  | cons t ts =>
    show (textFrom (0 + 1) _ ts).length + 1 ≤ _
    rw [textFrom_length_pos _ _ _ (by decide), strLen_append, strLen_append, e2, piled_cons]
    have : (((if 0 > 0 then ", " else "" : String) : Str)).length = 0 := rfl
    omega
theorem tupleText_le (ts : List Str) : (tupleText ts).length ≤ piled ts + 4 := by
  unfold tupleText
  rw [strLen_append, strLen_append]
  have e1 : ((("(" : String) : Str)).length = 1 := rfl
  have e3 : (((if ts.length == 1 then ",)" else ")" : String) : Str)).length ≤ 2 := by split <;> decide
  rw [e1]
  by_cases h : ts = []
  · subst h
    have : (Str.join ", " []).length = 0 := rfl
    omega
  · have := join_length_add ts h
    omega
mutual
theorem shown_le : ∀ d : PyData, smallD d = true → d.shown.length ≤ wgt d ∧ d.showable = true ∧ d.hasDict = false
  | .none, _ => ⟨by show (("None" : String) : Str).length ≤ 100; decide, rfl, rfl⟩
  | .bool b, _ => ⟨by cases b <;> (first | (show (("True" : String) : Str).length ≤ 100; decide) | (show (("False" : String) : Str).length ≤ 100; decide)), rfl, rfl⟩
  | .int i, h => by
    have hi : i.natAbs < 10 ^ 90 := by simpa [smallD] using h
    refine ⟨?_, ?_, rfl⟩
    · have := int_shown hi
      show (Str.ofString (toString i)).length ≤ 100
      omega
    · simp only [PyData.showable, decide_eq_true_eq]
      exact Nat.lt_of_le_of_lt (log_lt (k := 299) (Nat.lt_of_lt_of_le hi (by decide +kernel))) (by decide)
  | .list xs, h => by
    obtain ⟨h1, h2, h3⟩ := shownA_le xs (by simpa [smallD] using h)
    refine ⟨?_, by simpa [PyData.showable] using h2, by simpa [PyData.hasDict] using h3⟩
    have := listText_le (PyData.shownAll xs)
    simp only [PyData.shown, wgt]
    omega
  | .tuple xs, h => by
    obtain ⟨h1, h2, h3⟩ := shownA_le xs (by simpa [smallD] using h)
    refine ⟨?_, by simpa [PyData.showable] using h2, by simpa [PyData.hasDict] using h3⟩
    have := tupleText_le (PyData.shownAll xs)
    simp only [PyData.shown, wgt]
    omega
  | .str x, h => by
    refine ⟨?_, rfl, rfl⟩
    have := PySem.StrLaws.reprText_len x fun c hc => by
      have h : (x.cps.toList.all fun c => decide (c < 16 ^ 8)) = true := h
      exact of_decide_eq_true (List.all_eq_true.mp h c hc)
    show (reprText x).length ≤ 10 * x.length + 100
    omega
  | .dict _, h => by simp [smallD] at h
theorem shownA_le : ∀ xs : List PyData, smallA xs = true → piled (PyData.shownAll xs) ≤ wgtA xs ∧ PyData.showableAll xs = true ∧ PyData.hasDictAll xs = false
  | [], _ => ⟨Nat.le_refl _, rfl, rfl⟩
  | x :: xs, h => by
    simp only [smallA, Bool.and_eq_true] at h
    obtain ⟨a1, a2, a3⟩ := shown_le x h.1
    obtain ⟨b1, b2, b3⟩ := shownA_le xs h.2
    simp only [PyData.shownAll, PyData.showableAll, PyData.hasDictAll, piled_cons, wgtA, a2, a3, b2, b3]
    refine ⟨by omega, rfl, rfl⟩
end
@[simp] theorem wgtA_ints {ns : List Int} : wgtA (ns.map .int) = 102 * ns.length := by
  induction ns with
  | nil => rfl
  | cons a l ih => simp only [List.map_cons, wgtA, wgt, ih, List.length_cons]; omega
theorem smallA_ints {ns : List Int} (h : ∀ x ∈ ns, x.natAbs < 10 ^ 90) : smallA (ns.map .int) = true := by
  induction ns with
  | nil => rfl
  | cons a l ih => simp only [List.map_cons, smallA, smallD, Bool.and_eq_true, decide_eq_true_eq]; exact ⟨h a List.mem_cons_self, ih fun x hx => h x (List.mem_cons_of_mem _ hx)⟩
@[simp] theorem wgt_list {xs : List PyData} : wgt (.list xs) = wgtA xs + 10 := rfl
@[simp] theorem wgt_tuple {xs : List PyData} : wgt (.tuple xs) = wgtA xs + 10 := rfl
@[simp] theorem wgt_int {i : Int} : wgt (.int i) = 100 := rfl
@[simp] theorem wgtA_nil : wgtA [] = 0 := rfl
@[simp] theorem wgtA_cons {x : PyData} {xs : List PyData} : wgtA (x :: xs) = wgt x + 2 + wgtA xs := rfl
@[simp] theorem small_list {xs : List PyData} : smallD (.list xs) = smallA xs := rfl
@[simp] theorem small_tuple {xs : List PyData} : smallD (.tuple xs) = smallA xs := rfl
@[simp] theorem small_nil : smallA [] = true := rfl
@[simp] theorem small_cons {x : PyData} {xs : List PyData} : smallA (x :: xs) = (smallD x && smallA xs) := rfl
end DL

/-! DL21: a call that only looks: own lists that are handed in stay own -/
noncomputable section
namespace DL
open PySem L2 PyProof.Rows
open Evl (Ex)
def atomD : PyData → Bool
  | .none | .bool _ | .int _ | .str _ => true
  | _ => false
def atomR : R → Bool
  | .val d => atomD d
  | .raw _ => false
  | .ob _ => false
  | .new ds => ds.all atomD
  | .slot _ => false
def seen (r : R) (s : DSt) : Option R := match r with
  | .raw v => some (.raw v)
  | .ob o => some (.ob o)
  | r => (look r s).map .val
def seens : List R → DSt → Option (List R)
  | [], _ => some []
  | r :: rs, s => match seen r s, seens rs s with
    | some a, some as => some (a :: as)
    | _, _ => none
def kUserP (F : List R → Pw → FRes) (rs : List R) (s : DSt) : Res R := match seens rs s with
  | some rs' => (match F rs' s.w with
    | .ok r w' => if atomR r = true then .ok r ⟨s.d, w'⟩ else .stuck
    | _ => .stuck)
  | none => .stuck
@[simp] theorem y_kUserP (F : List R → Pw → FRes) (rs : List R) (s : DSt) : kUserP F rs s = (match seens rs s with | some rs' => (match F rs' s.w with | .ok r w' => if atomR r = true then .ok r ⟨s.d, w'⟩ else .stuck | _ => .stuck) | none => .stuck) := Eq.trans rfl rfl
def fUserP (F : List R → Pw → FRes) (fs : M (List R)) : M R := bnd fs (kUserP F)
@[simp] theorem x_userP {F : List R → Pw → FRes} {fs : M (List R)} {s : DSt} : fUserP F fs s = (fs s).bind (kUserP F) := Eq.trans rfl rfl
@[simp] theorem x_seens_nil {s : DSt} : seens [] s = some [] := Eq.trans rfl rfl
@[simp] theorem x_seens_cons {r : R} {rs : List R} {s : DSt} : seens (r :: rs) s = (match seen r s, seens rs s with | some a, some as => some (a :: as) | _, _ => none) := Eq.trans rfl rfl
@[simp] theorem x_seen_raw {v : V} {s : DSt} : seen (.raw v) s = some (.raw v) := Eq.trans rfl rfl
@[simp] theorem x_seen_val {d : PyData} {s : DSt} : seen (.val d) s = some (.val d) := Eq.trans rfl rfl
@[simp] theorem x_seen_new {ds : List PyData} {s : DSt} : seen (.new ds) s = some (.val (.list ds)) := Eq.trans rfl rfl
@[simp] theorem x_seen_slot {i : Nat} {s : DSt} : seen (.slot i) s = (look (.slot i) s).map .val := Eq.trans rfl rfl
@[simp] theorem atomR_new {ds : List PyData} : atomR (.new ds) = ds.all atomD := rfl
@[simp] theorem atomR_val {d : PyData} : atomR (.val d) = atomD d := rfl
@[simp] theorem atomD_int {d : Int} : atomD (.int d) = true := rfl
@[simp] theorem atomD_bool {d : Bool} : atomD (.bool d) = true := rfl
@[simp] theorem atomD_str {d : Str} : atomD (.str d) = true := rfl
@[simp] theorem atomD_none : atomD .none = true := rfl
@[simp] theorem atomD_ints {ns : List Int} : (ns.map PyData.int).all atomD = true := by
  induction ns with
  | nil => rfl
  | cons a l ih => simp [ih]
section
variable {K : PySem.W.Frag} {G H G1 G' H' : Hp} {s : DSt} {σ : L2.St} {w' : Pw}
def allG (w : Pw) (H : Hp) : Hp := fun a => @ite _ (POwn w a) (Classical.propDecidable _) none (H a)
theorem allG_out {w : Pw} {a : Addr} (h : ¬ POwn w a) : allG w H a = H a := by unfold allG; rw [if_neg h]
theorem allG_in {w : Pw} {a : Addr} (h : POwn w a) : allG w H a = none := by unfold allG; rw [if_pos h]
theorem allG_ex {w : Pw} : Ex (allG w H) H := fun a o e => by
  by_cases h : POwn w a
  · rw [allG_in h] at e; cases e
  · rwa [allG_out h] at e
end
section
variable {X : Cx} {cl : String → Addr} {W : WX} {e : Expr} {es : List Expr} {fs : M (List R)} {pos : Pos}
end
end DL

/-! DL22: comprehensions that draw -/
noncomputable section
namespace DL
open PySem L2
theorem loopC_s {α : Type} {b : Bd} {ft : M Bool} {fe : M R} {vs : List Nat} {f : α → PyData} (Inv : Nat → List PyData → DSt → Prop) : ∀ (l : List α) (acc : List PyData) (s : DSt) (i : Nat), Inv i acc s →
    (∀ (j : Nat) (a : α), l[j]? = some a → ∀ acc s, Inv (i + j) acc s → noOwn vs s.d = true ∧ ∃ s1, b (f a) ⟨blank vs s.d, s.w⟩ = some s1 ∧ ∃ k s2, ft s1 = .ok k s2 ∧ (k = false → Inv (i + j + 1) acc ⟨putBack vs s.d s2.d, s2.w⟩) ∧ (k = true → ∃ x s3, (fe s2).bind fEsc = .ok (.val x) s3 ∧ Inv (i + j + 1) (acc ++ [x]) ⟨putBack vs s.d s3.d, s3.w⟩)) →
    ∃ out s', loopC b ft fe vs (l.map f) acc s = .ok out s' ∧ Inv (i + l.length) out s'
  | [], acc, s, i, h, _ => ⟨acc, s, by simp [loopC], h⟩
  | a :: l, acc, s, i, h, st => by
    obtain ⟨hn, s1, e1, k, s2, e3, kf, kt⟩ := st 0 a rfl acc s h
    have ih := fun acc s h => loopC_s Inv l acc s (i + 1) h fun j a hj acc s h => by
      have := st (j + 1) a (by simpa using hj) acc s (by rw [show i + (j + 1) = i + 1 + j by omega]; exact h)
      rwa [show i + (j + 1) = i + 1 + j by omega] at this
    rw [show i + (a :: l).length = i + 1 + l.length by simp; omega]
    rw [List.map_cons]
    unfold loopC
    rw [if_pos hn, e1]
    dsimp only
    rw [e3]
    cases k with
    | false =>
      obtain ⟨out, s', e, hi⟩ := ih acc _ (kf rfl)
      exact ⟨out, s', e, hi⟩
    | true =>
      obtain ⟨x, s3, e4, h4⟩ := kt rfl
      obtain ⟨out, s', e, hi⟩ := ih _ _ h4
      refine ⟨out, s', ?_, hi⟩
      show (nerr (bnd fe fEsc s2)).bind _ = _
      rw [bnd_app, e4]
      exact e
theorem lc_s {α : Type} {fi : M (List PyData)} {b : Bd} {ft : M Bool} {fe : M R} {vs : List Nat} {s s0 : DSt} {f : α → PyData} {l : List α} (Inv : Nat → List PyData → DSt → Prop) (hi : fi s = .ok (l.map f) s0) (hl : l.length ≤ 100000) (h0 : Inv 0 [] s0)
    (st : ∀ (j : Nat) (a : α), l[j]? = some a → ∀ acc s, Inv j acc s → noOwn vs s.d = true ∧ ∃ s1, b (f a) ⟨blank vs s.d, s.w⟩ = some s1 ∧ ∃ k s2, ft s1 = .ok k s2 ∧ (k = false → Inv (j + 1) acc ⟨putBack vs s.d s2.d, s2.w⟩) ∧ (k = true → ∃ x s3, (fe s2).bind fEsc = .ok (.val x) s3 ∧ Inv (j + 1) (acc ++ [x]) ⟨putBack vs s.d s3.d, s3.w⟩)) :
    ∃ out s', fLc fi b ft fe vs s = .ok (.new out) s' ∧ Inv l.length out s' := by
  obtain ⟨out, s', e, h⟩ := loopC_s Inv l [] s0 0 h0 fun j a hj acc s h => by
    rw [Nat.zero_add] at h ⊢
    exact st j a hj acc s h
  rw [Nat.zero_add] at h
  refine ⟨out, s', ?_, h⟩
  have hl2 : leS (l.map f).length := by rw [List.length_map]; exact size_le hl
  unfold fLc
  simp only [bnd_app, hi, bind_ok, if_pos hl2]
  rw [e]
  rfl
end DL

/-! DL23: dicts that are known -/
noncomputable section
namespace DL
open PySem L2 PyProof.Rows
open Evl (Ex)
def keyD : PyData → Option Key
  | .int i => some (.inl i)
  | .str x => some (.inr x)
  | _ => none
def valD {κ : Type} [DecidableEq κ] (kvs : List (κ × PyData)) (k : κ) : Option PyData := (kvs.find? fun kv => decide (kv.1 = k)).map (·.2)
theorem valD_cons {κ : Type} [DecidableEq κ] {k j : κ} {d : PyData} {kvs : List (κ × PyData)} : valD ((k, d) :: kvs) j = if k = j then some d else valD kvs j := by
  unfold valD
  by_cases e : k = j <;> simp [List.find?_cons, e]
def fDictC (kvs : List (Str × Int)) : M R := ret (.ob (.dict (kvs.map fun p => (.inr p.1, .int p.2))))
def kDGet (g : M R) (x : R) (s : DSt) : Res R := match x with
  | .ob (.dict kvs) => (g s).bind fun y s2 => match look y s2 with
    | some d => match keyD d with
      | some k => match valD kvs k with
        | some e => .ok (.val e) s2
        | none => .stuck
      | none => .stuck
    | none => .stuck
  | _ => .stuck
def fDGet (f g : M R) : M R := bnd f (kDGet g)
def kDIn (neg : Bool) (y x : R) (s : DSt) : Res R := match look y s, x with
  | some d, .ob (.dict kvs) => match keyD d with
    | some k => .ok (.val (.bool (if neg then !(valD kvs k).isSome else (valD kvs k).isSome))) s
    | none => .stuck
  | _, _ => .stuck
def fDIn (neg : Bool) (f g : M R) : M R := bnd f fun y => bnd g fun x => kDIn neg y x
section
variable {X : Cx} {cl : String → Addr} {W : WX} {e a b : Expr} {f g : M R} {pos : Pos}
end
theorem ss_nev {X : Cx} {cl : String → Addr} {W : WX} {sts : List Stmt} : DSs X cl W sts fnever := ⟨fun _ _ _ _ _ _ ⟨_, _, _, h⟩ => h.elim⟩
/-! ### a < b < c -/
def kChain3 (o' : R → R → M R) (h : M R) (y : R) (z : R) (s : DSt) : Res R := match look z s with
  | some (.bool true) => (h s).bind fun w => o' y w
  | some (.bool false) => .ok (.val (.bool false)) s
  | _ => .stuck
def kChain2 (o o' : R → R → M R) (h : M R) (x : R) (y : R) (s : DSt) : Res R := (o x y s).bind (kChain3 o' h y)
def kChain1 (o o' : R → R → M R) (g h : M R) (x : R) (s : DSt) : Res R := (g s).bind (kChain2 o o' h x)
def fChain (o o' : R → R → M R) (f g h : M R) : M R := bnd f (kChain1 o o' g h)
section
variable {X : Cx} {cl : String → Addr} {W : WX} {e a b c : Expr} {f g h : M R} {pos : Pos}
end
section
variable {s : DSt} {f g : M R} {kvs : List (Key × PyData)} {x y : R} {d : PyData} {z : Str} {i : Int}
@[simp] theorem x_dictC {ws : List (Str × Int)} : fDictC ws s = .ok (.ob (.dict (ws.map fun p => (.inr p.1, .int p.2)))) s := Eq.trans rfl rfl
def kDGet2 (kvs : List (Key × PyData)) (y : R) (s2 : DSt) : Res R := match look y s2 with
    | some d => match keyD d with
      | some k => match valD kvs k with
        | some e => .ok (.val e) s2
        | none => .stuck
      | none => .stuck
    | none => .stuck
@[simp] theorem y_kDGet2 {s2 : DSt} : kDGet2 kvs y s2 = (match look y s2 with
    | some d => match keyD d with
      | some k => match valD kvs k with
        | some e => .ok (.val e) s2
        | none => .stuck
      | none => .stuck
    | none => .stuck) := Eq.trans rfl rfl
@[simp] theorem y_kDGet : kDGet g (.ob (.dict kvs)) s = (g s).bind (kDGet2 kvs) := Eq.trans rfl rfl
@[simp] theorem x_dget : fDGet f g s = (f s).bind (kDGet g) := Eq.trans rfl rfl
@[simp] theorem x_chain {o o' : R → R → M R} {h : M R} : fChain o o' f g h s = (f s).bind (kChain1 o o' g h) := Eq.trans rfl rfl
@[simp] theorem y_kChain1 {o o' : R → R → M R} {h : M R} : kChain1 o o' g h x s = (g s).bind (kChain2 o o' h x) := Eq.trans rfl rfl
@[simp] theorem y_kChain2 {o o' : R → R → M R} {h : M R} : kChain2 o o' h x y s = (o x y s).bind (kChain3 o' h y) := Eq.trans rfl rfl
def kChain4 (o' : R → R → M R) (y w : R) (s : DSt) : Res R := o' y w s
@[simp] theorem y_kChain4 {o' : R → R → M R} : kChain4 o' x y s = o' x y s := Eq.trans rfl rfl
@[simp] theorem y_kChain3 {o' : R → R → M R} {h : M R} {z : Bool} : kChain3 o' h y (.val (.bool z)) s = if z = true then (h s).bind (kChain4 o' y) else .ok (.val (.bool false)) s := by cases z <;> rfl
def kDIn1 (neg : Bool) (g : M R) (y : R) (s : DSt) : Res R := (g s).bind (kDIn neg y)
@[simp] theorem y_kDIn1 {neg : Bool} : kDIn1 neg g y s = (g s).bind (kDIn neg y) := Eq.trans rfl rfl
@[simp] theorem y_kDIn {neg : Bool} : kDIn neg y (.ob (.dict kvs)) s = (match look y s with
  | some d => match keyD d with
    | some k => .ok (.val (.bool (if neg then !(valD kvs k).isSome else (valD kvs k).isSome))) s
    | none => .stuck
  | none => .stuck) := by
  unfold kDIn
  cases look y s <;> rfl
@[simp] theorem x_dIn {neg : Bool} : fDIn neg f g s = (f s).bind (kDIn1 neg g) := Eq.trans rfl rfl
@[simp] theorem x_keyI : keyD (.int i) = some (.inl i) := Eq.trans rfl rfl
@[simp] theorem x_keyS : keyD (.str z) = some (.inr z) := Eq.trans rfl rfl
@[simp] theorem x_valD_nil {k : Key} : valD [] k = none := Eq.trans rfl rfl
@[simp] theorem x_valD_cons {k j : Key} : valD ((k, d) :: kvs) j = if k = j then some d else valD kvs j := valD_cons
end
end DL

/-! DL24: errors raised, caught and kept -/
noncomputable section
namespace DL
open PySem L2 PyProof.Rows PySem.Spec
open Evl (Ex)
/-! ### raise -/
def fRaise (n : String) : DSt → Flow := fun s => .err ⟨n, none⟩ s
section
variable {X : Cx} {cl : String → Addr} {W : WX} {pos : Pos}
theorem s_raise {x m : Str} {n : String} {C : Addr} {j : Nat} {p p2 pos' : Pos} (hc : X.calm = true) (tk : Takes X W) (hC : cl n = C) (q : PySem.W.excIn X.K C [.type "ValueError", .type "Exception", .type "BaseException", .type "object"] "ValueError.__new__" = true) (gC : X.mg x = some (.ref C)) (kC : PySem.W.keepIn X.K (.ref C) = true)
    (h1 : PySem.W.subIn X.K (.ref C) (.type "BaseException") = some true) (h2 : PySem.W.typeIn X.K (.ref C) = some (.type "type")) (hg : Gl X x) (hdb : (x == ("__debug__" : Str)) = false := by decide) :
    DS X cl W (.Raise (some (.Call (.Name x p) [.Constant (.str m) j p2] [] pos')) none pos) (fRaise n) :=
  ps_imp (ps_raise hc tk (pmk_own PySem.F.excBase_ValueError q gC kC (raises_own h1 h2) hg hdb)) fun D σ H ⟨G, s, S, h⟩ => h _ _ G σ H Stp.refl S ⟨by rw [hC], rfl⟩
end
/-! ### what is caught is kept: it is a thing of the heap from then on -/
section
variable {X : Cx} {pins : List (Addr × Obj)} {σ : L2.St} {H : Hp} {s sI : Shared} {a : Addr} {cls : Value} {d : Option Addr}
end
def wKeep (K : PySem.W.Frag) (c : Value) (i j : Nat) (Wout : WX) (D : Ends) : WX := fun cls d σ H =>
  ∃ b, PySem.W.exmOne K cls c = some b ∧ (b = true → ∀ a, H a = none → i < σ.length ∧ D.nx (((σ.set i (some (.ref a))).set j (some (.ref a))).set i none) (upd H a (excO a cls d))) ∧ (b = false → Wout cls d σ H)
section
variable {X : Cx} {x n : Str} {c : Value} {i j : Nat} {body suite : List Stmt} {b₀ : Stmt} {np pos pos' : Pos} {tb : WX → TS} {Wout : WX}
end
/-! ### try: .. except FolkError as e: caught = e -/
def isCaught (ns : List String) (x : Exn) : Bool := ns.contains x.name && (match x.arg with | none => true | some _ => false)
def fTry (ns : List String) (i j : Nat) (p : DSt → Flow) : DSt → Flow := fun s => match p s with
  | .err x s' => if isCaught ns x = true ∧ i < s'.d.length ∧ j < s'.d.length ∧ i ≠ j then .next (putS i .no (putS j (.ob (.exc x)) s')) else .stuck
  | fl => fl
section
variable {K : PySem.W.Frag} {G H G0 H0 : Hp} {s s0 : DSt} {σ σ0 : L2.St}
end
section
variable {X : Cx} {cl : String → Addr} {W : WX} {x n : Str} {C : Addr} {i j : Nat} {body suite : List Stmt} {b₀ : Stmt} {np pos pos' : Pos} {p : DSt → Flow}
end
/-! ### isinstance of what was caught -/
def rIsX (K : PySem.W.Frag) : List V → Hp → VK → Prop := fun xs H Q => ∃ (a D : Addr) (c : V) (cv : Value) (b : Bool), xs = [.ref a, c] ∧ H a = some (excO a (.ref D) none) ∧ ExcC K D ∧ ClsV c cv ∧ PySem.W.kitOne K (.ref D) cv = some b ∧ Q (.bl b) H
structure ExF (K : PySem.W.Frag) (mg : Str → Option Value) (n : String) : Prop where
  g : mg (Str.ofString n) = some (.ref (clOf K n))
  x : PySem.W.excIn K (clOf K n) [.type "ValueError", .type "Exception", .type "BaseException", .type "object"] "ValueError.__new__" = true
  kp : PySem.W.keepIn K (.ref (clOf K n)) = true
  b : PySem.W.subIn K (.ref (clOf K n)) (.type "BaseException") = some true
  ty : PySem.W.typeIn K (.ref (clOf K n)) = some (.type "type")
  c : ExcC K (clOf K n)
  v : PySem.W.subIn K (.ref (clOf K n)) (.type "ValueError") = some true
structure ExFs (K : PySem.W.Frag) (mg : Str → Option Value) (ns : List String) : Prop where
  each : ∀ n ∈ ns, ExF K mg n
  top : ∀ n ∈ ns, PySem.W.exmOne K (.ref (clOf K n)) (.ref (clOf K "FolkError")) = some true
  two : ∀ n ∈ ns, ∀ m ∈ ns, PySem.W.kitOne K (.ref (clOf K n)) (.ref (clOf K m)) = some (n == m)
  gF : mg "FolkError" = some (.ref (clOf K "FolkError"))
def fIsX (ns : List String) (m : String) (f : M R) : M R := bnd f fun r s => match r with
  | .ob (.exc ⟨n, none⟩) => if n ∈ ns ∧ m ∈ ns then .ok (.val (.bool (n == m))) s else .stuck
  | _ => .stuck
def fIsV (ns : List String) (f : M R) : M R := bnd f fun r s => match r with
  | .ob (.exc ⟨n, none⟩) => if n ∈ ns then .ok (.val (.bool true)) s else .stuck
  | _ => .stuck
section
variable {X : Cx} {cl : String → Addr} {W : WX} {e : Expr} {f : M R} {pos : Pos}
end
section
variable {s : DSt} {f : M R} {p : DSt → Flow}
@[simp] theorem x_raise {n : String} : fRaise n s = .err ⟨n, none⟩ s := Eq.trans rfl rfl
def kTry (ns : List String) (i j : Nat) (fl : Flow) : Flow := match fl with
  | .err x s' => if isCaught ns x = true ∧ i < s'.d.length ∧ j < s'.d.length ∧ i ≠ j then .next (putS i .no (putS j (.ob (.exc x)) s')) else .stuck
  | fl => fl
@[simp] theorem x_try {ns : List String} {i j : Nat} : fTry ns i j p s = kTry ns i j (p s) := by
  unfold fTry kTry
  cases p s <;> rfl
@[simp] theorem y_kTry_next {ns : List String} {i j : Nat} : kTry ns i j (.next s) = .next s := Eq.trans rfl rfl
@[simp] theorem y_kTry_ret {ns : List String} {i j : Nat} {r : R} : kTry ns i j (.ret r s) = .ret r s := Eq.trans rfl rfl
@[simp] theorem y_kTry_err {ns : List String} {i j : Nat} {n : String} : kTry ns i j (.err ⟨n, none⟩ s) = if n ∈ ns ∧ i < s.d.length ∧ j < s.d.length ∧ i ≠ j then .next (putS i .no (putS j (.ob (.exc ⟨n, none⟩)) s)) else .stuck := by
  show (if isCaught ns ⟨n, none⟩ = true ∧ _ then _ else _) = _
  have : isCaught ns ⟨n, none⟩ = true ↔ n ∈ ns := by simp [isCaught]
  simp only [this]
def kIsX (ns : List String) (m : String) (r : R) (s : DSt) : Res R := match r with
  | .ob (.exc ⟨n, none⟩) => if n ∈ ns ∧ m ∈ ns then .ok (.val (.bool (n == m))) s else .stuck
  | _ => .stuck
@[simp] theorem y_kIsX {ns : List String} {n m : String} : kIsX ns m (.ob (.exc ⟨n, none⟩)) s = if n ∈ ns ∧ m ∈ ns then .ok (.val (.bool (n == m))) s else .stuck := Eq.trans rfl rfl
@[simp] theorem x_isX {ns : List String} {m : String} : fIsX ns m f s = (f s).bind (kIsX ns m) := Eq.trans rfl rfl
def kIsV (ns : List String) (r : R) (s : DSt) : Res R := match r with
  | .ob (.exc ⟨n, none⟩) => if n ∈ ns then .ok (.val (.bool true)) s else .stuck
  | _ => .stuck
@[simp] theorem y_kIsV {ns : List String} {n : String} : kIsV ns (.ob (.exc ⟨n, none⟩)) s = if n ∈ ns then .ok (.val (.bool true)) s else .stuck := Eq.trans rfl rfl
@[simp] theorem x_isV {ns : List String} : fIsV ns f s = (f s).bind (kIsV ns) := Eq.trans rfl rfl
end
/-! ### the facts of the classes, from the written part -/
section
variable {K : PySem.W.Frag} {h : Heap} {mg : Str → Option Value} {n m : String} {C D : Addr}
theorem ex_mk (X : PySem.W.Frag.In K h) (G : h.Ns mainGlobals mg) (a : PySem.W.nsIn K mainGlobals (Str.ofString n) = some (some (.ref C))) (x : PySem.W.excIn K C [.type "ValueError", .type "Exception", .type "BaseException", .type "object"] "ValueError.__new__" = true) (kp : PySem.W.keepIn K (.ref C) = true)
    (b : PySem.W.subIn K (.ref C) (.type "BaseException") = some true) (ty : PySem.W.typeIn K (.ref C) = some (.type "type")) (v : PySem.W.subIn K (.ref C) (.type "ValueError") = some true) (hd : PySem.W.hasDictIn K C = true)
    (hg : PySem.W.findIn K (.ref C) "__getattribute__" = some (some (.builtin "BaseException.__getattribute__"))) (hk : PySem.W.findIn K (.ref C) "__getattr__" = some none) (hc : PySem.W.findIn K (.ref C) "__class__" = some (some (.builtin "object.__class__")))
    (hm : PySem.W.mroIn K C (.type "object") = some true) (s0 : PySem.W.specialIn K (.builtin "object.__class__") "__get__" = some (some (.builtin "getset_descriptor.__get__"))) (t0 : PySem.W.takesIn K (.builtin "object.__class__") = some true) : ExF K mg n := by
  have g := PySem.W.mg_of X G a
  have e := clOf_of a
  subst e
  exact ⟨g, x, kp, b, ty, ⟨hg, hk, b, hd, hc, s0, t0, hm⟩, v⟩
theorem top_mk (a : PySem.W.nsIn K mainGlobals (Str.ofString n) = some (some (.ref C))) (aF : PySem.W.nsIn K mainGlobals "FolkError" = some (some (.ref D))) (b : PySem.W.subIn K (.ref D) (.type "BaseException") = some true) (hd : PySem.W.hasDictIn K D = true)
    (ty : PySem.W.typeIn K (.ref D) = some (.type "type")) (s : PySem.W.subIn K (.ref C) (.ref D) = some true) : PySem.W.exmOne K (.ref (clOf K n)) (.ref (clOf K "FolkError")) = some true := by
  have eF : clOf K "FolkError" = D := clOf_of aF
  rw [clOf_of a, eF]
  exact PySem.W.exm_ref b hd ty s
theorem two_eq : PySem.W.kitOne K (.ref (clOf K n)) (.ref (clOf K n)) = some (n == n) := by
  unfold PySem.W.kitOne
  rw [if_pos (by simp)]
  simp
theorem two_mk (a : PySem.W.nsIn K mainGlobals (Str.ofString n) = some (some (.ref C))) (a2 : PySem.W.nsIn K mainGlobals (Str.ofString m) = some (some (.ref D))) (s : PySem.W.subIn K (.ref C) (.ref D) = some false) (s2 : PySem.W.subIn K (.ref C) (.ref C) = some true)
    (hd : PySem.W.hasDictIn K D = true) (ty : PySem.W.typeIn K (.ref D) = some (.type "type")) (hne : n ≠ m) : PySem.W.kitOne K (.ref (clOf K n)) (.ref (clOf K m)) = some (n == m) := by
  rw [clOf_of a, clOf_of a2]
  have ne : C ≠ D := fun z => by subst z; rw [s] at s2; cases s2
  unfold PySem.W.kitOne
  rw [if_neg (by intro z; exact ne (Value.ref.inj (beq_iff_eq.mp z)))]
  obtain ⟨cd, hc, _⟩ := PySem.W.any_some hd
  show (if ((PySem.W.clsIn K D).isSome && PySem.W.typeIn K (.ref D) == some (.type "type")) = true then PySem.W.subIn K (.ref C) (.ref D) else none) = _
  rw [if_pos (by rw [hc, ty] <;> rfl), s, beq_eq_false_iff_ne.mpr hne]
theorem mgF_mk (X : PySem.W.Frag.In K h) (G : h.Ns mainGlobals mg) (a : PySem.W.nsIn K mainGlobals "FolkError" = some (some (.ref C))) : mg "FolkError" = some (.ref (clOf K "FolkError")) := by
  have g := PySem.W.mg_of X G a
  have e : clOf K "FolkError" = C := clOf_of a
  subst e
  exact g
end
end DL

/-! DL25: the script, bits, a law without a purse -/
noncomputable section
namespace DL
open PySem L2 PyProof.Rows
open Evl (Ex)
def kScLen (x : R) (s : DSt) : Res R := match x with
  | .ob (.scr ns) => .ok (.val (.int ns.length)) s
  | _ => .stuck
def fScLen (f : M R) : M R := bnd f kScLen
def kScIx (g : M R) (x : R) (s : DSt) : Res R := match x with
  | .ob (.scr ns) => (g s).bind fun y s2 => match look y s2 with
    | some (.int n) => match atI ns n with
      | some z => .ok (.val (.int z)) s2
      | none => .stuck
    | _ => .stuck
  | _ => .stuck
def fScIx (f g : M R) : M R := bnd f (kScIx g)
def andO : PyData → PyData → Option R
  | .int i, .int j => some (.val (.int (Builtin.bitAnd i j)))
  | _, _ => none
theorem opd_and {K : PySem.W.Frag} : OpD K (rI0 fun i j => .int (Builtin.bitAnd i j)) andO := by
  intro G H x y d e r Q ex hx hy ho k
  unfold andO at ho
  split at ho
  · cases ho
    obtain rfl := dq_int hx
    obtain rfl := dq_int hy
    exact ⟨_, _, rfl, rfl, k.1 _ (.int _)⟩
  · cases ho
section
variable {X : Cx} {cl : String → Addr} {W : WX} {a b x e : Expr} {f g : M R} {pos : Pos}
theorem d_and (ha : DE X cl W a f) (hb : DE X cl W b g) : DE X cl W (.BinOp a .BitAnd b pos) (fOp (lift2 andO) f g) := d_op2 (pe_op op_and) (ops_lift opd_and) ha hb
theorem d_scLen {p : Pos} (hg : Gl X "len") (hm : X.mg "len" = none) (hx : DE X cl W x f)
    (he : starEach (x :: []) X.env = (false, eval x X.env) :: starEach [] X.env := by rfl) (hpl : (backTo pos (starEach [] X.env)).any (·.1) = false := by rfl) : DE X cl W (.Call (.Name "len" p) [x] [] pos) (fScLen f) := by
  refine pe_imp (pe_callB call_len_seq hg hm (by decide +kernel) (pa_cons hx pa_nil he) (by decide) (by decide) he hpl) fun σ H Q ⟨G, s, S, h⟩ => ?_
  refine ⟨G, s, S, out_mono (out_bind h) fun r G1 s1 H1 st1 S1 k v rr => ?_⟩
  unfold kScLen at k
  split at k
  · rename_i ns
    obtain ⟨p, rfl, hl⟩ := rr
    refine ⟨p, _, rfl, .inl (Evl.ex_l S1.gh hl), ?_⟩
    have := k G1 H1 Stp.refl S1 _ (.int _)
    rw [List.length_map]
    exact this
  · exact k.elim
theorem d_scIx (ha : DE X cl W a f) (hb : DE X cl W b g) (hs : PlainIx b) : DE X cl W (.Subscript a b pos) (fScIx f g) := by
  refine pe_imp (pe_ix ix_seq ha hb hs) fun σ H Q ⟨G, s, S, q⟩ => ?_
  refine ⟨G, s, S, out_mono (out_bind q) fun r G1 s1 H1 st1 S1 k v rr => ?_⟩
  unfold kScIx at k
  split at k
  · rename_i ns
    obtain ⟨p, rfl, hl⟩ := rr
    refine ⟨G1, s1, S1, out_mono (out_bind k) fun r2 G2 s2 H2 st2 S2 k2 u ru => ?_⟩
    split at k2
    · rename_i n en
      split at k2
      · rename_i z ez
        obtain rfl := dq_int (look_q S2 ru en)
        exact .inl ⟨p, _, n, _, rfl, rfl, Evl.ex_l (st2.ex.trans S2.gh) hl, atI_map ez, k2 G2 H2 Stp.refl S2 _ (.int z)⟩
      · exact k2.elim
    · exact k2.elim
  · exact k.elim
@[simp] theorem x_scLen {s : DSt} : fScLen f s = (f s).bind kScLen := Eq.trans rfl rfl
@[simp] theorem x_kScLen {ns : List Int} {s : DSt} : kScLen (.ob (.scr ns)) s = .ok (.val (.int ns.length)) s := Eq.trans rfl rfl
@[simp] theorem x_scIx {s : DSt} : fScIx f g s = (f s).bind (kScIx g) := Eq.trans rfl rfl
def kScIx2 (ns : List Int) (y : R) (s2 : DSt) : Res R := match look y s2 with
    | some (.int n) => match atI ns n with
      | some z => .ok (.val (.int z)) s2
      | none => .stuck
    | _ => .stuck
@[simp] theorem x_kScIx {ns : List Int} {s : DSt} : kScIx g (.ob (.scr ns)) s = (g s).bind (kScIx2 ns) := Eq.trans rfl rfl
@[simp] theorem x_kScIx2 {ns : List Int} {i : Int} {s : DSt} : kScIx2 ns (.val (.int i)) s = (match atI ns i with | some z => .ok (.val (.int z)) s | none => .stuck) := Eq.trans rfl rfl
@[simp] theorem x_bitAnd {i j : Int} : andO (.int i) (.int j) = some (.val (.int (Builtin.bitAnd i j))) := Eq.trans rfl rfl
end
/-! ### classes that nothing of the law raises -/
structure ExY (K : PySem.W.Frag) (mg : Str → Option Value) (ns : List String) (m : String) : Prop where
  g : mg (Str.ofString m) = some (.ref (clOf K m))
  two : ∀ n ∈ ns, PySem.W.kitOne K (.ref (clOf K n)) (.ref (clOf K m)) = some false
def kIsY (ns : List String) (m : String) (r : R) (s : DSt) : Res R := match r with
  | .ob (.exc ⟨n, none⟩) => if n ∈ ns then .ok (.val (.bool false)) s else .stuck
  | _ => .stuck
def fIsY (ns : List String) (m : String) (f : M R) : M R := bnd f (kIsY ns m)
@[simp] theorem x_isY {ns : List String} {m : String} {f : M R} {s : DSt} : fIsY ns m f s = (f s).bind (kIsY ns m) := Eq.trans rfl rfl
@[simp] theorem y_kIsY {ns : List String} {n m : String} {s : DSt} : kIsY ns m (.ob (.exc ⟨n, none⟩)) s = if n ∈ ns then .ok (.val (.bool false)) s else .stuck := Eq.trans rfl rfl
def LawOkS (n : Nat) (p : DSt → Flow) : Prop := ∀ ns : List Int, ns.length ≤ 63 → ∃ s', p ⟨Sl.ob (.scr ns) :: List.replicate (n - 1) Sl.no, none⟩ = .ret (.val (.bool true)) s'
section
variable {P : Program} {w : World} {K : PySem.W.Frag} {mg : Str → Option Value} {base : Heap} {cl : String → Addr}
theorem law_ok2 {st : Stmt} {x : Str} {N : List Str} {k : Nat} {p : DSt → Flow} {arg : Str} {f : Addr} {fd : FuncData} (F : Fun K x x st f fd) (S : FnScope N [arg] (defScope st))
    (hb : ∀ (f : Addr) (cdv : Value) (A : Around) (outer : List Env) (s : Shared) (H : Hp) (E : XK), RoomG k (A.deeper (envOfC x (defScope st) s.heap.objs.size f cdv)) →
      DSs (cxOf (L2.CX P w) P w K mg base N x (defScope st) f cdv A outer s H E) cl (fun cls d _ H => E cls d H) (defBody st) p)
    (hp : LawOkS N.length p) : FnG P w K mg base (L2.CX P w) (k + 1) f fd [arg] (spLaw K) := by
  refine okG F S (fun vs H Q E h => ?_) (fun cdv A outer s H vs Q E hr h => ?_)
  · obtain ⟨a, ns, rfl, _⟩ := h; rfl
  · refine ⟨_, hb f cdv A outer s H E hr, ?_⟩
    obtain ⟨a, ns, rfl, hs, hl, tb, q⟩ := h
    obtain ⟨s', hp1⟩ := hp ns hl
    have hst : L2.start N [V.ref a] = some (.ref a) :: List.replicate (N.length - 1) none := rfl
    have noown : ∀ (σ : L2.St) (j : Nat) (c : Addr), ¬ OwnAt ⟨Sl.ob (.scr ns) :: List.replicate (N.length - 1) Sl.no, none⟩ σ j c := by
      rintro σ j c ⟨⟨ds, e⟩, _⟩
      match j with
      | 0 => cases e
      | j + 1 =>
        simp only [List.getElem?_cons_succ, List.getElem?_replicate] at e
        split at e <;> cases e
    -- the script is known from the start: all of the heap is taken as known
    refine ⟨allG none H, ⟨Sl.ob (.scr ns) :: List.replicate (N.length - 1) Sl.no, none⟩, ⟨?_, allG_ex, fun j sl e => ?_, fun j _ c z => (noown _ j c z).elim, fun j c z => (noown _ j c z).elim, ⟨trivial, tb.to (fun _ _ h _ => h) (fun _ _ h => h) fun c z => allG_in (.inr z)⟩, fun j c z => (noown _ j c z).elim⟩, ?_⟩
    · rw [hst]; simp
    · rw [hst]
      match j with
      | 0 =>
        cases e
        refine ⟨.ref a, rfl, a, rfl, ?_⟩
        have hn : ∀ u, H a = some u → (∀ ps, u ≠ .tbl ps) → allG none H a = some u := fun u hu n => by
          rw [allG_out, hu]
          rintro (z | z)
          · exact z
          · obtain ⟨ps, e⟩ := tb.h z
            rw [hu] at e; cases e; exact n _ rfl
        rcases hs with (e | ⟨o, e⟩) | z
        · exact .inl (.inl (hn _ e fun _ => nofun))
        · exact .inl (.inr ⟨o, hn _ e fun _ => nofun⟩)
        · exact .inr z
      | j + 1 =>
        simp only [List.getElem?_cons_succ, List.getElem?_replicate] at e
        split at e
        · cases e; trivial
        · cases e
    · show FOut K cl _ _ _ _ _ (p _) _
      rw [hp1]
      intro v G' σ' H2 st' S' rr
      cases rr
      exact q H2
end
end DL

/-! DL26: bool(x) -/
noncomputable section
namespace DL
open PySem L2 PyProof.Rows
open Evl (Ex)
def boolO : List PyData → Option R
  | [.int i] => some (.val (.bool (i != 0)))
  | [.bool b] => some (.val (.bool b))
  | _ => none
@[simp] theorem x_boolI {a : Int} : boolO [.int a] = some (.val (.bool (a != 0))) := Eq.trans rfl rfl
@[simp] theorem x_boolB {b : Bool} : boolO [.bool b] = some (.val (.bool b)) := Eq.trans rfl rfl
end DL

/-! DL27: a comprehension over an own list that stays own -/
noncomputable section
namespace DL
open PySem L2 PyProof.Rows
open Evl (Ex)
def isOwnL (j : Nat) (ds : List PyData) (s : DSt) : Prop := s.d[j]? = some (.own ds)
instance (j : Nat) (ds : List PyData) (s : DSt) : Decidable (isOwnL j ds s) := Classical.propDecidable _
def loopCO (j : Nat) (all : List PyData) (b : Bd) (ft : M Bool) (fe : M R) (vs : List Nat) : List PyData → List PyData → M (List PyData)
  | [], acc, s => if isOwnL j all s then .ok acc s else .stuck
  | d :: ds, acc, s => if isOwnL j all s then if noOwn vs s.d then match b d { s with d := blank vs s.d } with
      | none => .stuck
      | some s1 => (nerr (ft s1)).bind fun t s2 => if t then (nerr (bnd fe fEsc s2)).bind fun r s3 => match r with
            | .val x => loopCO j all b ft fe vs ds (acc ++ [x]) { s3 with d := putBack vs s.d s3.d }
            | _ => .stuck
          else loopCO j all b ft fe vs ds acc { s2 with d := putBack vs s.d s2.d }
    else .stuck else .stuck
def kNewL : List PyData → M R := fun acc s => .ok (.new acc) s
def kLcO (s : DSt) (j : Nat) (b : Bd) (ft : M Bool) (fe : M R) (vs : List Nat) (ds : List PyData) : Res R := (if leS ds.length then loopCO j ds b ft fe vs ds [] s else .stuck).bind kNewL
def fLcO (j : Nat) (b : Bd) (ft : M Bool) (fe : M R) (vs : List Nat) : M R := fun s => if j ∈ vs then .stuck else match s.d[j]? with
  | some (.own ds) => kLcO s j b ft fe vs ds
  | _ => .stuck
section
variable {X : Cx} {cl : String → Addr} {W : WX} {tg iter : Expr} {pos : Pos}
end
end DL

/-! DL39: x in range(..) -/
noncomputable section
namespace DL
open PySem L2 PyProof.Rows
open Evl (Ex)
def kInR2 (neg : Bool) (x : R) (rs : List R) (s : DSt) : Res R := match rs with
  | [r] => (match look x s, look r s with
    | some (.int i), some (.int j) => .ok (.val (.bool (if neg = true then !decide (0 ≤ i ∧ i < j) else decide (0 ≤ i ∧ i < j)))) s
    | _, _ => .stuck)
  | _ => .stuck
def kInR (neg : Bool) (fs : M (List R)) (x : R) (s : DSt) : Res R := (fs s).bind (kInR2 neg x)
@[simp] theorem y_kInR {neg : Bool} {fs : M (List R)} {x : R} {s : DSt} : kInR neg fs x s = (fs s).bind (kInR2 neg x) := Eq.trans rfl rfl
@[simp] theorem y_kInR2 {neg : Bool} {x r : R} {s : DSt} : kInR2 neg x [r] s = (match look x s, look r s with
  | some (.int i), some (.int j) => .ok (.val (.bool (if neg = true then !decide (0 ≤ i ∧ i < j) else decide (0 ≤ i ∧ i < j)))) s
  | _, _ => .stuck) := Eq.trans rfl rfl
def fInR (neg : Bool) (f : M R) (fs : M (List R)) : M R := bnd f (kInR neg fs)
@[simp] theorem x_inR {neg : Bool} {f : M R} {fs : M (List R)} {s : DSt} : fInR neg f fs s = (f s).bind (kInR neg fs) := Eq.trans rfl rfl
section
variable {X : Cx} {cl : String → Addr} {W : WX} {e a : Expr} {f : M R} {fs : M (List R)} {pos : Pos}
end
end DL

/-! DL48: range downwards; x[i], x[j] = a, b of an own list -/
noncomputable section
namespace DL
open PySem L2 PyProof.Rows
open Evl (Ex)
def downD (lo : Int) (n : Nat) : List PyData := (List.range n).map fun (k : Nat) => PyData.int (lo - (k : Int))
theorem it_down {K : PySem.W.Frag} {G : Hp} {lo : Int} {n : Nat} : ItOk K (Itc lo (-1) n) (downD lo n) G := by
  intro G' s' σ' H' ex S i
  refine ⟨fun d e => ?_, fun hl => show n ≤ i by simpa [downD] using hl⟩
  have hi : i < n := by have := (List.getElem?_eq_some_iff.mp e).1; simpa [downD] using this
  have e2 : d = .int (lo - (i : Int)) := by simp [downD, hi] at e; exact e.symm
  subst e2
  exact ⟨hi, fun x H2 ⟨e1, e3⟩ => by
    subst e1
    have : lo + ((i : Nat) : Int) * (-1) = lo - (i : Int) := by omega
    rw [this] at e3
    subst e3
    exact ⟨G', Stp.refl, S, .int _⟩⟩
def kRng3 (rs : List R) (s : DSt) : Res (List PyData) := match rs with
  | [r, r2, r3] => match look r s, look r2 s, look r3 s with
    | some (.int i), some (.int j), some (.int c) => if c = -1 ∧ inB i ∧ inB j then .ok (downD i (i - j).toNat) s else .stuck
    | _, _, _ => .stuck
  | _ => .stuck
def fRng3 (fs : M (List R)) : M (List PyData) := bnd fs kRng3
@[simp] theorem x_rng3 {fs : M (List R)} {s : DSt} : fRng3 fs s = (fs s).bind kRng3 := Eq.trans rfl rfl
@[simp] theorem y_kRng3 (rs : List R) (s : DSt) : kRng3 rs s = (match rs with
  | [r, r2, r3] => match look r s, look r2 s, look r3 s with
    | some (.int i), some (.int j), some (.int c) => if c = -1 ∧ inB i ∧ inB j then .ok (downD i (i - j).toNat) s else .stuck
    | _, _, _ => .stuck
  | _ => .stuck) := Eq.trans rfl rfl
section
variable {X : Cx} {cl : String → Addr} {W : WX} {tg a b c e : Expr} {f g1 g2 : M R} {fs : M (List R)} {pos : Pos}
theorem i_range3 {p pos : Pos} (hg : Gl X "range") (hm : X.mg "range" = none) (ha : DA X cl W [a, b, c] fs)
    (hs : starEach [a, b, c] X.env = (false, eval a X.env) :: starEach [b, c] X.env := by rfl) (hpl : (backTo pos (starEach [b, c] X.env)).any (·.1) = false := by rfl) :
    DI X cl W tg (.Call (.Name "range" p) [a, b, c] [] pos) (fRng3 fs) := by
  refine pi_imp (pi_range3 hg hm ha hs hpl) fun σ H R ⟨G, s, S, q⟩ => ?_
  refine ⟨G, s, S, out_mono (out_bind q) fun rs G1 s1 H1 st1 S1 k vs rr => ?_⟩
  unfold kRng3 at k
  split at k
  · split at k
    · rename_i i j c e1 e2 e3
      split at k
      · rename_i hb
        obtain ⟨hc, h1, h2⟩ := hb
        cases rr with
        | cons r1 r2 =>
          cases r2 with
          | cons r2 r3 =>
            cases r3 with
            | cons r3 r4 =>
              cases r4
              obtain rfl := dq_int (look_q S1 r1 e1)
              obtain rfl := dq_int (look_q S1 r2 e2)
              obtain rfl := dq_int (look_q S1 r3 e3)
              subst hc
              exact ⟨i, j, -1, (i - j).toNat, rfl, RgC.neg h1.1 h1.2 h2.1 h2.2, k G1 H1 Stp.refl S1 _ it_down⟩
      · exact k.elim
    · exact k.elim
  · exact k.elim
def kSwap3 (i : Nat) (d2 : PyData) (r : R) (s : DSt) : Flow := match look r s, s.d[i]? with
  | some (.int n), some (.own ds) => (match ixN ds.length n with
    | some j => .next (putS i (.own (ds.set j d2)) s)
    | none => .stuck)
  | _, _ => .stuck
def kSwap2 (i : Nat) (d1 d2 : PyData) (g2 : M R) (r : R) (s : DSt) : Flow := match look r s, s.d[i]? with
  | some (.int n), some (.own ds) => (match ixN ds.length n with
    | some j => onRes (g2 (putS i (.own (ds.set j d1)) s)) (kSwap3 i d2)
    | none => .stuck)
  | _, _ => .stuck
def kSwap1 (i : Nat) (g1 g2 : M R) (r : R) (s : DSt) : Flow := match r with
  | .val (.tuple [d1, d2]) => onRes (g1 s) (kSwap2 i d1 d2 g2)
  | _ => .stuck
def fSwap (i : Nat) (f g1 g2 : M R) : DSt → Flow := fun s => if isOwn i s = true then onRes (f s) (kSwap1 i g1 g2) else .stuck
@[simp] theorem x_swap {i : Nat} {f g1 g2 : M R} {s : DSt} : fSwap i f g1 g2 s = if isOwn i s = true then onRes (f s) (kSwap1 i g1 g2) else .stuck := Eq.trans rfl rfl
@[simp] theorem y_kSwap1 {i : Nat} {d1 d2 : PyData} {g1 g2 : M R} {s : DSt} : kSwap1 i g1 g2 (.val (.tuple [d1, d2])) s = onRes (g1 s) (kSwap2 i d1 d2 g2) := Eq.trans rfl rfl
@[simp] theorem y_kSwap2 (i : Nat) (d1 d2 : PyData) (g2 : M R) (r : R) (s : DSt) : kSwap2 i d1 d2 g2 r s = (match look r s, s.d[i]? with
  | some (.int n), some (.own ds) => (match ixN ds.length n with
    | some j => onRes (g2 (putS i (.own (ds.set j d1)) s)) (kSwap3 i d2)
    | none => .stuck)
  | _, _ => .stuck) := Eq.trans rfl rfl
@[simp] theorem y_kSwap3 (i : Nat) (d2 : PyData) (r : R) (s : DSt) : kSwap3 i d2 r s = (match look r s, s.d[i]? with
  | some (.int n), some (.own ds) => (match ixN ds.length n with
    | some j => .next (putS i (.own (ds.set j d2)) s)
    | none => .stuck)
  | _, _ => .stuck) := Eq.trans rfl rfl
end
end DL

/-! DL73: lambdas: sorted(.., key=lambda x: ..) -/
noncomputable section
namespace DL
open PySem L2 PySem.Spec PyProof.Rows
open Evl (Ex)
/-! ### a lambda is made -/
structure LF where
  qual : Str
  params : Arguments
  body : Expr
  scope : Scope
  cl : List (Str × Addr)
  c : Addr
abbrev LF.nf (F : LF) : NdefX.NF := ⟨"<lambda>", F.qual, F.params, [], F.scope, F.cl, F.c⟩
def LamO (f : Addr) (F : LF) : HO := .ext fun h => ∃ (pm ctv : Value), h.get? f = some (PySem.W.kla_obj "<lambda>" F.qual F.params F.body F.scope F.cl pm F.c ctv)
theorem lamO_at {P : Program} {w : World} {H : Hp} {h : Heap} {f : Addr} {F : LF} (hok : HOk P w H h) (e : H f = some (LamO f F)) : ∃ (pm ctv : Value), h.get? f = some (PySem.W.kla_obj "<lambda>" F.qual F.params F.body F.scope F.cl pm F.c ctv) := by
  obtain ⟨z, _, _⟩ := hok f _ e
  exact z
abbrev lfOf (X : Cx) (params : Arguments) (body : Expr) (scope : Scope) (c' : Addr) : LF := ⟨X.env.qual ++ "<lambda>", params, body, scope, cloFrom X.env.cells scope.names [], c'⟩
section
variable {X : Cx} {pins : List (Addr × Obj)} {σ : L2.St} {G H : Hp} {s : Shared}
theorem lam_mk {c P : Addr} {params : Arguments} {body : Expr} {scope : Scope} {pos : Pos} {E Q : Value → Shared → Prop} (I : Inv X pins σ H s) (TB : LamX.TabB X.base X.mg c P) (hcode : X.env.code = .ref c)
    (hm : (P, X.env.qual ++ "<lambda>") ∈ tabA) (hu : ∀ p ∈ tabA, p.1 = P → p.2 = X.env.qual ++ "<lambda>") (tb : TabOk G H) (hdef : defaultsOf params X.env = ([], [])) (hfree : ∀ y ∈ scope.names, y.2 = .free → ∃ c, X.env.cells.lookup y.1 = some c)
    (h : ∀ (f c' : Addr) (H1 : Hp) (s' : Shared), Inv X pins σ H1 s' → (∀ b o, b ≠ P → H b = some o → H1 b = some o) → H1 P ≠ none → TabOk G H1 → H f = none → H1 f = some (LamO f (lfOf X params body scope c')) → H1 c' = some (LamX.CodeO c' (X.env.qual ++ "<lambda>")) → Q (.ref f) s') :
    wpAny (model X.prog X.w) X.A (eval (.Lambda params body scope pos) X.env) Q E s := by
  obtain ⟨⟨ps, hP, ht, ha⟩, gP⟩ := tb _ hm
  have obP : s.heap.get? P = some { cls := .none, data := .fields ps } := I.hok P _ hP
  have blt : s.heap.BuiltinsAt X.mg P := TB.bm.keeps I.bk
  have objL : ∀ (g : Heap) (c' : Addr) (pm ctv : Value) (K : Hp), ObjOk X.prog X.w K (g.push (PySem.W.kla_obj "<lambda>" (X.env.qual ++ "<lambda>") params body scope (cloFrom X.env.cells scope.names []) pm c' ctv)) g.objs.size (LamO g.objs.size (lfOf X params body scope c')) := fun g c' pm ctv K =>
    ⟨⟨pm, ctv, Heap.get?_push_size _ rfl⟩, ⟨_, Heap.get?_push_size _ rfl⟩, fun h1 h2 ⟨pm, ctv, q⟩ st => ⟨pm, ctv, st _ q⟩⟩
  refine PySem.W.kla_eval hdef ?_
  cases hc : codeAmong pos ps.toList with
  | none =>
    refine PySem.W.kla_makeFunction (ps := ps) (mg := X.mg) (P := P) (c := c) (closure_ok hfree) I.ok.glob (I.mod.glob.keeps I.bk) hcode (TB.code.keeps I.bk) obP ht hc TB.gP blt ?_
    intro c' ctv h' tk hx hge hlt ⟨c2, oc, vs, t, e2, hoc, hd, hv⟩ htb
    cases e2
    have nC : H c' = none := I.hok.fresh hge
    have nPc : P ≠ c' := ne_of_none hP nC
    obtain ⟨more, hmore⟩ : ∃ more : Array Value, more = #[rawInt pos.line, rawInt pos.col, .ref c'] := ⟨_, rfl⟩
    rw [← hmore] at htb
    have J := LamX.inv_table (q := X.env.qual ++ "<lambda>") (more := more) (t' := tk) I hP (fun b o hb e => hx b o hb e) htb hge ⟨oc, vs, t, hoc, hd, hv⟩
    obtain ⟨HJ, hHJ⟩ : ∃ HJ, HJ = upd (upd H P (.tbl (ps ++ more))) c' (LamX.CodeO c' (X.env.qual ++ "<lambda>")) := ⟨_, rfl⟩
    rw [← hHJ] at J
    have kJ : ∀ b o, b ≠ P → H b = some o → HJ b = some o := fun b o nb e => by rw [hHJ, upd_ne (ne_of_none e nC), upd_ne nb]; exact e
    have pJ : HJ P = some (.tbl (ps ++ more)) := by rw [hHJ, upd_ne nPc, upd_same]
    have cJ : HJ c' = some (LamX.CodeO c' (X.env.qual ++ "<lambda>")) := by rw [hHJ, upd_same]
    have J2 := J.laid (o := LamO h'.objs.size (lfOf X params body scope c')) (t' := tk) (fun b o e => Heap.get?_push_of_some _ e) (Nat.le_refl _) (objL h' c' ((X.mg "__name__").getD .none) ctv _)
    have nF : HJ h'.objs.size = none := J.hok.fresh (Nat.le_refl _)
    have kF : ∀ b o, HJ b = some o → upd HJ h'.objs.size (LamO h'.objs.size (lfOf X params body scope c')) b = some o := fun b o e => by rw [upd_ne (ne_of_none e nF)]; exact e
    have fP : h'.objs.size ≠ P := fun z => by rw [z, pJ] at nF; cases nF
    have hF : H h'.objs.size = none := by
      cases q : H h'.objs.size with
      | none => rfl
      | some o => rw [kJ _ o fP q] at nF; cases nF
    refine h h'.objs.size c' _ _ J2 (fun b o nb e => kF b o (kJ b o nb e)) (by rw [kF _ _ pJ]; simp) (fun p hp => ?_) hF upd_same (kF _ _ cJ)
    obtain ⟨⟨ps2, a1, a2, a3⟩, gp⟩ := tb p hp
    by_cases hb : p.1 = P
    · have eq := hu p hp hb
      refine ⟨⟨ps ++ more, by rw [hb]; exact kF _ _ pJ, by rw [hmore, Array.toList_append]; exact PySem.TriplesOk_snoc _ _ _ _ ht, fun p' cv hcv => ?_⟩, gp⟩
      rw [hmore, Array.toList_append] at hcv
      rw [eq]
      rcases LamX.among_app _ ht hcv with z | z
      · obtain ⟨c0, e1, e2⟩ := ha p' cv z
        exact ⟨c0, e1, kF _ _ (kJ _ _ (fun q => by rw [q, hP] at e2; cases e2) e2)⟩
      · exact ⟨c', z, kF _ _ cJ⟩
    · refine ⟨⟨ps2, kF _ _ (kJ _ _ hb a1), a2, fun p' cv hcv => ?_⟩, gp⟩
      obtain ⟨c0, e1, e2⟩ := a3 p' cv hcv
      exact ⟨c0, e1, kF _ _ (kJ _ _ (fun q => by rw [q, hP] at e2; cases e2) e2)⟩
  | some cv =>
    obtain ⟨c', e, hco⟩ := ha pos cv hc
    subst e
    refine PySem.W.kla_makeFunctionHit (ps := ps) (mg := X.mg) (P := P) (c := c) (closure_ok hfree) I.ok.glob (I.mod.glob.keeps I.bk) hcode (TB.code.keeps I.bk) obP ht hc blt ?_
    intro ctv h' tk hx hsz
    have J : Inv X pins σ H { s with heap := h', toks := tk } := I.kept hx
    have J2 := J.laid (o := LamO h'.objs.size (lfOf X params body scope c')) (t' := tk) (fun b o e => Heap.get?_push_of_some _ e) (Nat.le_refl _) (objL h' c' ((X.mg "__name__").getD .none) ctv _)
    have nF : H h'.objs.size = none := J.hok.fresh (Nat.le_refl _)
    have kF : ∀ b o, H b = some o → upd H h'.objs.size (LamO h'.objs.size (lfOf X params body scope c')) b = some o := fun b o e => by rw [upd_ne (ne_of_none e nF)]; exact e
    exact h h'.objs.size c' _ _ J2 (fun b o _ e => kF b o e) (by rw [kF _ _ hP]; simp) (tb.to (fun a o e _ => kF a o e) (fun a φ e => kF a _ e) fun a z => tb.g z) nF upd_same (kF _ _ hco)
theorem lam_sa {K : PySem.W.Frag} {sd : DSt} {P : Addr} {H1 : Hp} (S : SA K G sd σ H) (hP : TOwn P) (k : ∀ b o, b ≠ P → H b = some o → H1 b = some o) (p1 : H1 P ≠ none) (tb : TabOk G H1) : Stp G sd σ H G sd σ H1 ∧ SA K G sd σ H1 := by
  have gP : G P = none := G_pown S.pw (.inr hP)
  have nP : ∀ xs, H P ≠ some (.lst xs) := fun xs z => by
    obtain ⟨ps, e⟩ := S.pw.2.h hP
    rw [z] at e; cases e
  refine ⟨⟨Ex.refl G, fun a o e n => ⟨k a o (fun z => n (by subst z; exact .inr (.inr hP))) e, rfl⟩, fun a z => .inl z, fun a e => ?_, fun _ z => z⟩, ⟨S.len, fun a o e => k a o (fun z => by subst z; rw [gP] at e; cases e) (S.gh a o e), fun i sl e => ?_, S.inj, S.ownG, ⟨?_, tb⟩, S.pne⟩⟩
  · by_cases q : a = P
    · subst q; exact p1
    · obtain ⟨o, eo⟩ := Option.ne_none_iff_exists'.mp e
      rw [k a o q eo]; simp
  · have q := S.slot i sl e
    cases sl with
    | no => trivial
    | val d => exact q
    | raw v => exact q
    | ob o => exact q
    | own es =>
      obtain ⟨a, xs, e1, ha, hh⟩ := q
      exact ⟨a, xs, e1, k a _ (fun z => by subst z; exact nP _ ha) ha, hh⟩
  · have q := S.pw.1
    unfold PwOk0 at q ⊢
    split
    · trivial
    · rename_i pa ca cells t e
      rw [e] at q
      exact ⟨q.1, k _ _ (fun z => by subst z; exact nP _ q.2.1) q.2.1, k _ _ (fun z => by subst z; exact nP _ q.2.2.1) q.2.2.1, q.2.2.2⟩
end
/-! ### it runs -/
def lamF (n m : Nat) (g : M R) : List R → Pw → FRes := fun rs w => if rs.length = m then match g ⟨rs.map toSl ++ List.replicate (n - m) .no, w⟩ with
  | .ok r s => match finR r s with
    | some r' => .ok r' s.w
    | none => .stuck
  | .err x s => .err x s.w
  | .stuck => .stuck
  else .stuck
def LamRun (P : Program) (w : World) (K : PySem.W.Frag) (mg : Str → Option Value) (base : Heap) (k : Nat) (f : Addr) (F : LF) (ps fr : List Str) (sp : Sp) : Prop :=
  ∀ (A : Around) (outer : List Env) (s : Shared) (H : Hp) (us : List Value) (vs ws : List V) (Q : VK) (E : XK), RoomG k A → Env0 P w K mg base A outer s H → H f = some (LamO f F) → H F.c = some (LamX.CodeO F.c F.qual) →
    NdefX.CellsAt F.cl fr (ws.map some) s.heap H → Vals vs us → vs.length = ps.length → sp (vs ++ ws) H Q E → codeAny (model P w) A (.call (.ref f) ⟨us, []⟩) (CR (L2.CX P w) outer P w H s Q E) s
theorem startF_eq {N : List Str} {vs ws : List V} : NdefX.startF N vs (ws.map some) = L2.start N (vs ++ ws) := by
  unfold NdefX.startF L2.start
  rw [List.map_append, List.append_assoc, List.length_map, List.length_append, Nat.sub_sub]
theorem lam_run {P : Program} {w : World} {K : PySem.W.Frag} {mg : Str → Option Value} {base : Heap} {cl : String → Addr} {N ps fr : List Str} {k : Nat} {f : Addr} {F : LF} {g : M R} (S : NdefX.NScope N ps fr F.scope) (hN : ps.length + fr.length ≤ N.length)
    (hb : ∀ (pm ctv : Value) (us : List Value), us.length = ps.length → bindArgs (PySem.W.kla_fn "<lambda>" F.qual F.params F.body F.scope F.cl pm (.ref F.c) ctv) ⟨us, []⟩ = pure (ps.zip us))
    (hbody : ∀ (A : Around) (outer : List Env) (s : Shared) (H : Hp) (E : XK), RoomG k (A.deeper (NdefX.envF F.nf f s.heap.objs.size)) → DE (NdefX.ncx (L2.CX P w) P w K mg base N F.nf f A outer s H E) cl (fun cls d _ H => E cls d H) F.body g) :
    LamRun P w K mg base (k + 1) f F ps fr (spF K cl (lamF N.length (ps.length + fr.length) g)) := by
  intro A outer s H us vs ws Q E hr e0 hf hc C rv hl hsp
  have up : ∀ b o, base.get? b = some o → s.heap.get? b = some o := fun b o z => (e0.bs b o z).1
  have lim : s.heap.NoLimit := e0.mod.nolimit.keeps up
  obtain ⟨pm, ctv, ho⟩ := lamO_at e0.hok hf
  refine PySem.W.kla_callFunE hr.room.depth ho rfl S.co S.gen rfl (NdefX.codeO_at e0.hok hc) ?_
  rw [hb pm ctv us (by rw [← rv.length]; exact hl)]
  refine wpAny_pure (wpAny_newFunctionEnv S.nocell (fun ⟨n, _⟩ hy => S.par n (List.of_mem_zip hy).1) (fun h₁ hns hsb => ⟨lim.fresh _ hsb, ?_⟩) S.kind)
  show codeAny _ _ (.expr F.body (NdefX.envF F.nf f s.heap.objs.size)) _ _
  have kp : ∀ b o, s.heap.get? b = some o → h₁.get? b = some o := fun b o e => hsb.extBut b o (Nat.ne_of_lt (Heap.lt_size e)) (Heap.get?_push_of_some _ e)
  have I : Inv (NdefX.ncx (L2.CX P w) P w K mg base N F.nf f A outer s H E) [] (NdefX.startF N vs (ws.map some)) H { s with heap := h₁, toks := s.toks + (ps.zip us).length } := NdefX.inv_startN S hr.room.hd e0 hl rv C hns kp
  rw [startF_eq] at I
  refine PySem.W.kla_codeExpr (wpAny_mono ((hbody A outer s H E (hr.deeper _)).run [] _ _ H (fun v H' => Q v H') I ?_) (fun u s' hs => ?_) fun e s' hs => hs)
  rotate_left
  · obtain ⟨v, H', J, r, q⟩ := hs
    exact ⟨v, H', J.os, J.bare, J.base, J.hok, r, q⟩
  obtain ⟨G, rs, pw0, gh, hv, pw, kk⟩ := hsp
  have lw : ws.length = fr.length := by have := C.len; simpa using this
  have hn : rs.length = ps.length + fr.length := by
    rw [← pair_len hv, List.length_append, hl, lw]
  unfold lamF at kk
  rw [if_pos hn] at kk
  refine ⟨G, ⟨rs.map toSl ++ List.replicate (N.length - (ps.length + fr.length)) .no, pw0⟩, show SA K G _ (L2.start N (vs ++ ws)) H from start_sa gh hv pw hn hN, ?_⟩
  cases z : g ⟨rs.map toSl ++ List.replicate (N.length - (ps.length + fr.length)) .no, pw0⟩ with
  | stuck => rw [z] at kk; exact kk.elim
  | err x s' => rw [z] at kk; exact fun cls d G' H' st S' xr => kk cls d G' H' (fstp_of st S') S'.pw xr
  | ok r s' =>
    rw [z] at kk
    intro G' H' st S' v rr
    cases r with
    | val d => exact kk v G' H' (fstp_of st S') S'.pw rr
    | raw u => exact kk v G' H' (fstp_of st S') S'.pw rr
    | ob o => exact kk v G' H' (fstp_of st S') S'.pw rr
    | new ds =>
      refine kk v G' H' (fstp_of st S') S'.pw ?_
      obtain ⟨a, xs, e, ha, hd, hg, h0, hn⟩ := rr
      exact ⟨a, xs, e, ha, hd, hg, h0, fun z => hn (.inr z)⟩
    | slot i =>
      have rr : (L2.start N (vs ++ ws))[i]? = some (some v) := rr
      dsimp only [finR] at kk
      cases q : s'.d[i]? with
      | none => rw [q] at kk; exact kk.elim
      | some sl =>
        rw [q] at kk
        cases sl with
        | no => exact kk.elim
        | raw u => exact kk.elim
        | ob o => exact kk.elim
        | val d =>
          refine kk v G' H' (fstp_of st S') S'.pw ?_
          obtain ⟨u, e, hd⟩ := S'.slot i _ q
          rw [rr] at e
          cases e
          exact hd
        | own ds =>
          refine kk v G' H' (fstp_of st S') S'.pw ?_
          obtain ⟨a, xs, e, ha, hd⟩ := S'.slot i _ q
          rw [rr] at e
          cases e
          have ho : OwnAt s' (L2.start N (vs ++ ws)) i a := ⟨⟨ds, q⟩, rr⟩
          refine ⟨a, xs, rfl, ha, hd, S'.ownG i a ho, ?_, S'.pne i a ho⟩
          rcases st.own a (.inl ⟨i, ho⟩) with z | z
          · have z := start_own z
            exact absurd (st.pw a z) (S'.pne i a ho)
          · exact z
/-! ### sorted by what it tells -/
def sortByD (ds ks : List PyData) : List PyData := ((ds.zip ks).mergeSort (PySem.W.dataLe false Prod.snd)).map Prod.fst
structure Mine (X : Cx) (pins : List (Addr × Obj)) (it : Addr) : Prop where
  sz : X.s_0.heap.objs.size ≤ it
  loc : it ≠ X.env.locals
  cell : ∀ x c, X.env.cells.lookup x = some c → c ≠ it
  pin : ∀ p ∈ X.pn ++ pins, p.1 ≠ it
section
variable {X : Cx} {pins : List (Addr × Obj)} {σ : L2.St} {H : Hp} {s : Shared}
theorem mine_of (I : Inv X pins σ H s) {it : Addr} (h : s.heap.objs.size ≤ it) : Mine X pins it := by
  refine ⟨Nat.le_trans I.sz h, fun z => ?_, fun x c e z => ?_, fun p hp z => ?_⟩
  · have := I.lt
    rw [← z] at this
    exact absurd (Nat.lt_of_lt_of_le this h) (Nat.lt_irrefl _)
  · obtain ⟨v, o, ho, _⟩ := I.cell x c e
    rw [z] at ho
    exact absurd (Nat.lt_of_lt_of_le (Heap.lt_size ho) h) (Nat.lt_irrefl _)
  · have ho := (I.pin p hp).1
    rw [z] at ho
    exact absurd (Nat.lt_of_lt_of_le (Heap.lt_size ho) h) (Nat.lt_irrefl _)
theorem inv_mine {x y : Addr} {h' : Heap} {tk : Nat} (I : Inv X pins σ H s) (mx : Mine X pins x) (my : Mine X pins y) (nx : H x = none) (ny : H y = none) (k : ∀ b o, b ≠ x → b ≠ y → s.heap.get? b = some o → h'.get? b = some o) : Inv X pins σ H { s with heap := h', toks := tk } := by
  have nh : ∀ b u, H b = some u → b ≠ x ∧ b ≠ y := fun b u e => ⟨fun z => (by rw [z, nx] at e; cases e), fun z => (by rw [z, ny] at e; cases e)⟩
  refine I.step (g' := s.gens) (d' := s.drawn) (ch := [x, y]) (fun b hb => ?_) (fun b o _ _ hc e _ => k b o (fun z => hc (by simp [z])) (fun z => hc (by simp [z])) e) (fun b o _ _ hc e _ => ⟨o.slots, k b o (fun z => hc (by simp [z])) (fun z => hc (by simp [z])) e⟩) (fun _ _ _ _ n => n)
    (fun b o hc e => ⟨o, k b o (fun z => hc (by simp [z])) (fun z => hc (by simp [z])) e⟩) (fun _ _ e => e) (fun _ _ _ e => e) (fun b ps e => ⟨#[], by rw [e]; simp⟩) (fun m hm => ?_) (fun b u e => ?_) I.bare
  · rcases List.mem_cons.mp hb with e | e
    · subst e; exact ⟨.inr mx.sz, mx.loc, mx.cell, mx.pin⟩
    · rw [List.mem_singleton] at e
      subst e; exact ⟨.inr my.sz, my.loc, my.cell, my.pin⟩
  · obtain ⟨o, es, ep, ho, r⟩ := hm
    exact ⟨o, es, ep, k _ o (Ne.symm mx.loc) (Ne.symm my.loc) ho, r⟩
  · refine (I.hok b u e).stay (fun c v hc q => ?_) (fun _ q => q) fun _ _ q => q
    have : c ≠ x ∧ c ≠ y := by
      rcases hc with z | z
      · rw [z]; exact nh b u e
      · exact nh c _ z
    exact k c v this.1 this.2 q
theorem inv_take {x : Addr} {o : HO} (I : Inv X pins σ H s) (mx : Mine X pins x) (nx : H x = none) (new : ObjOk X.prog X.w (upd H x o) s.heap x o) : Inv X pins σ (upd H x o) s := by
  have ne : ∀ b u, H b = some u → b ≠ x := fun b u e z => by rw [z, nx] at e; cases e
  have J := I.step (h' := s.heap) (H' := upd H x o) (g' := s.gens) (d' := s.drawn) (t' := s.toks) (ch := [x]) (fun b hb => by
      rw [List.mem_singleton] at hb
      subst hb
      exact ⟨.inr mx.sz, mx.loc, mx.cell, mx.pin⟩) (fun _ _ _ _ _ e _ => e) (fun b u _ _ _ e _ => ⟨u.slots, e⟩) (fun b u hc e n => by rw [upd_ne fun z => hc (by simp [z])]; exact n) (fun b u _ e => ⟨u, e⟩)
      (fun b xs e => by rw [upd_ne (ne b _ e)]; exact e) (fun b u v e => by rw [upd_ne (ne b _ e)]; exact e) (fun b ps e => ⟨#[], by rw [upd_ne (ne b _ e), e]; simp⟩) (fun _ hm => hm) (fun b u e => ?_) I.bare
  · exact J
  · by_cases q : b = x
    · subst q
      rw [upd_same] at e
      cases e
      exact new
    · rw [upd_ne q] at e
      exact (I.hok b u e).stay (fun _ _ _ q => q) (fun c q => by rw [upd_ne (ne c _ q)]; exact q) fun c xs q => by rw [upd_ne (ne c _ q)]; exact q
theorem mine_out (I : Inv X pins σ H s) {it : Addr} (m : Mine X pins it) : it ∉ frs X.stack := fun z => by
  rcases List.mem_cons.mp (I.stkSub it z) with e | e
  · exact m.loc e
  · obtain ⟨_, o, ho, _⟩ := I.ok.funs.mem e
    exact absurd (Nat.lt_of_lt_of_le (Heap.lt_size ho) m.sz) (Nat.lt_irrefl _)
theorem vals_eachT {α : Type} : ∀ {zs : List (V × α)} {us : List Value}, PySem.W.EachIs (fun (u : Value) (z : V × α) => RelV z.1 u) us zs → Vals (zs.map (·.1)) us
  | _, _, .nil => .nil
  | _, _, .cons r t => .cons r (vals_eachT t)
theorem vals_snoc {v : V} {u : Value} (r : RelV v u) : ∀ {vs : List V} {us : List Value}, Vals vs us → Vals (vs ++ [v]) (us ++ [u])
  | _, _, .nil => .cons r .nil
  | _, _, .cons q t => .cons q (vals_snoc r t)
end
section
variable {X : Cx} {pins : List (Addr × Obj)} {σ : L2.St} {G H : Hp} {s : Shared} {sd : DSt} {cl : String → Addr}
theorem sort_keys {FL : List R → Pw → FRes} {js : List Nat} {k : Nat} {f x kS : Addr} {F : LF} {ps fr : List Str} {its : List V} {us : List Value} {ds ks cs : List PyData} {e1 : Nat} {Pf : PySem.Fin → Shared → Prop} {E : Value → Shared → Prop}
    (I : Inv X pins σ H s) (S : SA X.K G sd σ H) (RL : LamRun X.prog X.w X.K X.mg X.base k f F ps fr (spF X.K cl FL)) (hr : RoomG k X.A.in1.in1) (hu0 : X.A.units + 64 < cLine)
    (hf : H f = some (LamO f F)) (hc : H F.c = some (LamX.CodeO F.c F.qual)) (cap : NdefX.Caps X F.cl fr js) (hps : ps.length = 1)
    (lcs : cs.length = js.length) (hcs : ∀ (i j : Nat), js[i]? = some j → ∃ c, cs[i]? = some c ∧ sd.d[j]? = some (.val c))
    (rv : Vals its us) (rd : RpAll X.K G its ds) (lk : ks.length = ds.length) (hk : ∀ (i : Nat) (d q : PyData), ds[i]? = some d → ks[i]? = some q → FL (.val d :: cs.map .val) sd.w = .ok (.val q) sd.w) (hsort : canSort ks) (hz : ds.length ≤ sizeLine)
    (mx : Mine X pins x) (my : Mine X pins kS) (nx : H x = none) (ny : H kS = none) (hxk : kS ≠ x)
    (ox : s.heap.get? x = some (seqObj "list" #[] e1)) (oy : s.heap.get? kS = some (seqObj "list" #[] 0))
    (fin : ∀ (G' H' : Hp) (s' : Shared) (out : List V), Inv X pins σ (upd H' x (.lst out)) s' → Stp G sd σ H G' sd σ H' → SA X.K G' sd σ H' → H' x = none → RpAll X.K G' out (sortByD ds ks) → Pf (.done (.ret .none)) s') :
    wpAny (model X.prog X.w) X.A.in1.in1 (ksk_rest x (.ref f) false us.toArray e1 (.ref kS)) Pf E s := by
  have li := dps_len rd
  have lu : us.length = its.length := rv.length.symm
  -- what is captured
  obtain ⟨ws, hws⟩ : ∃ ws : List V, ws = js.map fun j => (NdefX.slotAt σ j).getD .non := ⟨_, rfl⟩
  have cat : ∀ (i j : Nat), js[i]? = some j → ∃ c v, cs[i]? = some c ∧ NdefX.slotAt σ j = some v ∧ Rp X.K G v c := fun i j e => by
    obtain ⟨c, e2, e3⟩ := hcs i j e
    obtain ⟨v, e4, hd⟩ := S.slot j _ e3
    refine ⟨c, v, e2, NdefX.slotAt_of ?_, hd⟩
    cases z : σ[j]? with
    | none => rw [z] at e4; cases e4
    | some o => rw [z] at e4; simp at e4; rw [e4]
  have ews : js.map (NdefX.slotAt σ) = ws.map some := by
    rw [hws, List.map_map]
    refine List.map_congr_left fun j hj => ?_
    obtain ⟨i, hi⟩ := List.mem_iff_getElem?.mp hj
    obtain ⟨c, v, _, e, _⟩ := cat i j hi
    show _ = some ((NdefX.slotAt σ j).getD .non)
    rw [e] <;> rfl
  have par : ∀ G' : Hp, Ex G G' → Paired (AR X.K G') ws (cs.map R.val) := fun G' ex => by
    have go : ∀ (js : List Nat) (cs : List PyData), cs.length = js.length → (∀ (i j : Nat), js[i]? = some j → ∃ c v, cs[i]? = some c ∧ NdefX.slotAt σ j = some v ∧ Rp X.K G v c) → Paired (AR X.K G') (js.map fun j => (NdefX.slotAt σ j).getD .non) (cs.map R.val) := by
      intro js
      induction js with
      | nil => intro cs l _; cases cs with | nil => exact .nil | cons c cs => simp at l
      | cons j js ih =>
        intro cs l h
        cases cs with
        | nil => simp at l
        | cons c cs =>
          obtain ⟨c', v, e1, e2, e3⟩ := h 0 j rfl
          cases e1
          refine .cons ?_ (ih cs (by simpa using l) fun i j e => h (i + 1) j e)
          show Rp X.K G' ((NdefX.slotAt σ j).getD .non) c
          rw [e2]
          exact dp_mono ex _ _ e3
    rw [hws]
    exact go js cs lcs cat
  unfold ksk_rest
  refine wpAny_bind (wpAny_rule ?_)
  first
    | rw [List.forIn_toArray]
    | (rw [← Array.forIn_toList]; simp only [List.toList_toArray])
  refine wpAny_bind (ksk_fold (fun i s' => ∃ (Gi Hi : Hp) (kA : Array Value) (e : Nat) (kv : List V), Inv X pins σ Hi s' ∧ Stp G sd σ H Gi sd σ Hi ∧ SA X.K Gi sd σ Hi ∧ Hi x = none ∧ Hi kS = none ∧ s'.heap.get? kS = some (seqObj "list" kA e) ∧
      s'.heap.get? x = some (seqObj "list" #[] e1) ∧ Vals kv kA.toList ∧ RpAll X.K Gi kv (ks.take i)) us 0 s ⟨G, H, #[], 0, [], I, Stp.refl, S, nx, ny, oy, ox, .nil, by rw [List.take_zero]; exact .nil⟩ ?turn ?done)
  case turn =>
    rintro j u s' hj ⟨Gi, Hi, kA, e, kv, Ii, sti, Si, nxi, nyi, oyi, oxi, kvr, kvd⟩
    simp only [Nat.zero_add] at kvd ⊢
    have lj : j < us.length := (List.getElem?_eq_some_iff.mp hj).1
    obtain ⟨v, ev⟩ : ∃ v, its[j]? = some v := ⟨its[j]'(by omega), List.getElem?_eq_getElem (by omega)⟩
    obtain ⟨u', eu', rr⟩ := rv.get ev
    rw [hj] at eu'; cases eu'
    obtain ⟨d, ed, rpv⟩ := dps_get rd ev
    obtain ⟨q, eq⟩ : ∃ q, ks[j]? = some q := ⟨ks[j]'(by omega), List.getElem?_eq_getElem (by omega)⟩
    have hq := hk j d q ed eq
    have nownF : ∀ φ a, H a = some (.ext φ) → ¬ Own sd σ a := fun φ a e z => by
      obtain ⟨o, eo, ne⟩ := S.ownS z
      rw [e] at eo; cases eo; exact ne φ rfl
    have hfi : Hi f = some (LamO f F) := (sti.keep f _ hf (nownF _ _ hf)).1
    have hci : Hi F.c = some (LamX.CodeO F.c F.qual) := (sti.keep F.c _ hc (nownF _ _ hc)).1
    have C := NdefX.cells_of Ii cap
    rw [ews] at C
    have e0 : Env0 X.prog X.w X.K X.mg X.base X.A.in1.in1 X.stack s' Hi := Ii.env0.in1.in1
    refine wpAny_bind (wpAny_attempt (wpAny_call (codeAny_mono (RL X.A.in1.in1 X.stack s' Hi [u] [v] ws (fun v' H' => ∃ G', FStp Gi sd.w Hi G' sd.w H' ∧ PwOk G' sd.w H' ∧ Rp X.K G' v' q) (fun _ _ _ => False) hr e0 hfi hci C (.cons rr .nil) (by rw [hps]; rfl)
      ⟨Gi, .val d :: cs.map .val, sd.w, Si.gh, .cons (dp_mono sti.ex _ _ rpv) (par Gi sti.ex), Si.pw, by rw [hq]; exact fun v' G' H' fs pw fr => ⟨G', fs, pw, fr⟩⟩) ?_)))
    intro res st' hres
    match res, hres with
    | .error z, hres =>
      obtain ⟨_, _, _, _, _, _, _, _, _, _, _, _, z⟩ := hres
      exact z.elim
    | .ok .next, hres => exact hres.elim
    | .ok .brk, hres => exact hres.elim
    | .ok .cont, hres => exact hres.elim
    | .ok (.ret u2), ⟨v', H', os, bare, un, hok, r2, G', fs, pw, rp⟩ =>
      obtain ⟨v3, H3, I3, _, e3, e4⟩ := Ii.after (Q := fun v H => v = v' ∧ H = H') ⟨v', H', os, bare, un, hok, r2, rfl, rfl⟩
      subst e3 e4
      have oy2 := un.keep kS _ oyi nyi (mine_out Ii my) (by simp)
      have ox2 := un.keep x _ oxi nxi (mine_out Ii mx) (by simp)
      have ny2 := un.free kS _ oyi nyi (by simp)
      have nx2 := un.free x _ oxi nxi (by simp)
      obtain ⟨st2, S2⟩ := call_stp Si fs pw
      have lkv : kv.length = kA.size := by rw [kvr.length, Array.length_toList]
      have lkd := dps_len kvd
      rw [List.length_take] at lkd
      have hsz : kA.size ≤ sizeLine := by omega
      obtain ⟨c2, hc2⟩ : ∃ c2, (st'.heap.update kS (Obj.mapSeq (·.push u2))).get? kS = some (seqObj "list" (kA.push u2) c2) := ⟨_, get?_update_seq oy2 (·.push u2)⟩
      refine wpAny_bind (listUpdate_at oy2 rfl (wpAny_pure ⟨rfl, G', H3, kA.push u2, c2, kv ++ [v3], ?_, sti.trans st2, S2, nx2, ny2, hc2, ?_, ?_, ?_⟩) hsz (by rw [Array.size_push]; omega))
      · exact inv_mine (tk := st'.toks) I3 mx my nx2 ny2 fun b o _ nb e => (Heap.get?_update_ne _ _ _ _ nb).trans e
      · exact (Heap.get?_update_ne _ _ _ _ (Ne.symm hxk)).trans ox2
      · rw [Array.toList_push]
        exact vals_snoc r2 kvr
      · rw [List.take_add_one, eq]
        exact dps_app (dps_mono st2.ex _ _ kvd) (.cons rp .nil)
  case done =>
    rintro s' ⟨Gi, Hi, kA, e, kv, Ii, sti, Si, nxi, nyi, oyi, oxi, kvr, kvd⟩
    have e3 : ks.take (0 + us.length) = ks := List.take_of_length_le (by omega)
    rw [e3] at kvd
    have lkv : kv.length = kA.size := by rw [kvr.length, Array.length_toList]
    have lkd := dps_len kvd
    obtain ⟨c1, c2, c3⟩ := hsort
    have hk' : PySem.W.EachIs (fun v k => ∃ as, Reads s'.heap v k as) kA.toList ks := each_of (by rw [Array.length_toList]; omega) fun i u d g1 g2 => by
      obtain ⟨v, ev⟩ : ∃ v, kv[i]? = some v := by
        have := (List.getElem?_eq_some_iff.mp g2).1
        exact ⟨_, List.getElem?_eq_getElem (by omega : i < kv.length)⟩
      obtain ⟨u', eu, rr⟩ := kvr.get ev
      rw [g1] at eu; cases eu
      obtain ⟨d', ed, rp⟩ := dps_get kvd ev
      rw [g2] at ed; cases ed
      exact Dp.reads Ii d v u (rp_dp _ _ (dp_mono Si.gh _ _ rp)) rr
    refine wpAny_bind (listItems_at oyi rfl ?_)
    have un2 : X.A.in1.in1.units = X.A.units + 2 := rfl
    refine PySem.W.keyH_end (κ := PySem.W.dataKind s'.heap ks) (h₁ := PySem.W.hideAll s'.heap [kS]) (vs := us) (fun b o _ e => PySem.W.of_hideAll [kS] e) (PySem.W.hideAll_none [kS] (List.mem_singleton.mpr rfl)) oyi oxi hxk
      (PySem.W.SortsAt.data (s := s') hk' c1 c2 fun d hd => by have := c3 d hd; rw [un2]; omega) (by omega) (by omega) fun h3 tk3 c4 k3 n3 => ?_
    have I3 : Inv X pins σ Hi { s' with heap := h3, toks := tk3 } := inv_mine Ii mx my nxi nyi fun b o nb nk e => k3 b o nb (PySem.W.hideAll_get [kS] e (by simpa using nk))
    -- the items in order
    obtain ⟨zs, hzs⟩ : ∃ zs, zs = its.zip (ds.zip ks) := ⟨_, rfl⟩
    have ldk : (ds.zip ks).length = ds.length := by rw [List.length_zip]; omega
    have ez : zs.map (fun z : V × PyData × PyData => z.2) = ds.zip ks := by rw [hzs]; exact List.map_snd_zip (by omega)
    have ez2 : zs.map (fun z : V × PyData × PyData => z.2.2) = ks := by
      have : zs.map (fun z : V × PyData × PyData => z.2.2) = (zs.map (fun z : V × PyData × PyData => z.2)).map Prod.snd := by rw [List.map_map]; rfl
      rw [this, ez]
      exact List.map_snd_zip (by omega)
    have lz : zs.length = us.length := by rw [hzs, List.length_zip]; omega
    have zget : ∀ (i : Nat) (z : V × PyData × PyData), zs[i]? = some z → its[i]? = some z.1 ∧ ds[i]? = some z.2.1 := fun i z e => by
      rw [hzs, List.getElem?_zip_eq_some] at e
      have e2 := e.2
      rw [show z.2 = (z.2.1, z.2.2) from rfl, List.getElem?_zip_eq_some] at e2
      exact ⟨e.1, e2.1⟩
    have KO : PySem.W.KeyedOut false (zs.map fun z : V × PyData × PyData => z.2.2) us (PySem.W.sortVals (PySem.W.dataKind s'.heap ks) false kA.toList us) := by rw [ez2]; exact ⟨s'.heap, kA.toList, c1, rfl, hk'⟩
    have hR : PySem.W.EachIs (fun (u : Value) (z : V × PyData × PyData) => RelV z.1 u) us zs := each_of lz.symm fun i u z g1 g2 => by
      obtain ⟨h1, _⟩ := zget i z g2
      obtain ⟨u', eu, rr⟩ := rv.get h1
      rw [g1] at eu; cases eu
      exact rr
    have hO := PySem.W.keyedOut_each (fun z : V × PyData × PyData => z.2.2) KO hR
    obtain ⟨ys, hys⟩ : ∃ ys, ys = zs.mergeSort (PySem.W.dataLe false fun z : V × PyData × PyData => z.2.2) := ⟨_, rfl⟩
    rw [← hys] at hO
    have py : ys.Perm zs := by rw [hys]; exact List.mergeSort_perm _ _
    have lys : ys.length = us.length := by rw [py.length_eq, lz]
    have rpo : RpAll X.K Gi (ys.map (·.1)) (sortByD ds ks) := by
      have h1 : RpAll X.K Gi ((ys.map fun z => (z.1, z.2.1)).map (·.1)) ((ys.map fun z => (z.1, z.2.1)).map (·.2)) := rps_zip fun p hp => by
        obtain ⟨z, hz2, rfl⟩ := List.mem_map.mp hp
        obtain ⟨i, hi⟩ := List.mem_iff_getElem?.mp (py.mem_iff.mp hz2)
        obtain ⟨g1, g2⟩ := zget i z hi
        obtain ⟨d, ed, rp⟩ := dps_get rd g1
        rw [g2] at ed; cases ed
        exact dp_mono sti.ex _ _ rp
      rw [List.map_map, List.map_map] at h1
      have h2 : ys.map (fun z : V × PyData × PyData => z.2.1) = sortByD ds ks := by
        unfold sortByD
        rw [← ez, ← PySem.W.sort_maps (r := PySem.W.dataLe false fun z : V × PyData × PyData => z.2.2) (fun z : V × PyData × PyData => z.2) fun _ _ _ _ => rfl, ← hys, List.map_map]
        rfl
      rw [← h2]
      exact h1
    exact fin Gi Hi _ (ys.map (·.1)) (inv_take I3 mx nxi ⟨by rw [List.length_map]; omega, _, c4, vals_eachT hO, n3⟩) sti Si nxi rpo
end
end DL

/-! DL74: sorted(.., key=lambda x: ..), read -/
noncomputable section
namespace DL
open PySem L2 PySem.Spec PyProof.Rows
open Evl (Ex)
def goodK (FL : List R → Pw → FRes) (cs : List PyData) (w : Pw) (ds ks : List PyData) : Prop := ks.length = ds.length ∧ ∀ (i : Nat) (d q : PyData), ds[i]? = some d → ks[i]? = some q → FL (.val d :: cs.map .val) w = .ok (.val q) w
theorem goodK_uniq {FL : List R → Pw → FRes} {cs : List PyData} {w : Pw} : ∀ {ds ks ks' : List PyData}, goodK FL cs w ds ks → goodK FL cs w ds ks' → ks = ks'
  | [], ks, ks', h, h' => by
    have := h.1; have := h'.1
    cases ks with
    | nil => cases ks' with | nil => rfl | cons => simp at this
    | cons => simp at *
  | d :: ds, [], _, h, _ => by have := h.1; simp at this
  | d :: ds, _ :: _, [], _, h => by have := h.1; simp at this
  | d :: ds, k :: ks, k' :: ks', h, h' => by
    have e1 := h.2 0 d k rfl rfl
    have e2 := h'.2 0 d k' rfl rfl
    rw [e1] at e2
    cases e2
    rw [goodK_uniq (ds := ds) ⟨by have := h.1; simpa using this, fun i d q a b => h.2 (i + 1) d q a b⟩ ⟨by have := h'.1; simpa using this, fun i d q a b => h'.2 (i + 1) d q a b⟩]
def capsOk (js : List Nat) (s : DSt) (cs : List PyData) : Prop := cs.length = js.length ∧ ∀ (i j : Nat), js[i]? = some j → ∃ c, cs[i]? = some c ∧ s.d[j]? = some (.val c)
theorem capsOk_uniq {s : DSt} : ∀ {js : List Nat} {cs cs' : List PyData}, capsOk js s cs → capsOk js s cs' → cs = cs'
  | [], cs, cs', h, h' => by
    have := h.1; have := h'.1
    cases cs with
    | nil => cases cs' with | nil => rfl | cons => simp at this
    | cons => simp at *
  | j :: js, [], _, h, _ => by have := h.1; simp at this
  | j :: js, _ :: _, [], _, h => by have := h.1; simp at this
  | j :: js, c :: cs, c' :: cs', h, h' => by
    obtain ⟨a, e1, e2⟩ := h.2 0 j rfl
    obtain ⟨b, f1, f2⟩ := h'.2 0 j rfl
    cases e1; cases f1
    rw [e2] at f2
    cases f2
    rw [capsOk_uniq (js := js) ⟨by have := h.1; simpa using this, fun i j a => h.2 (i + 1) j a⟩ ⟨by have := h'.1; simpa using this, fun i j a => h'.2 (i + 1) j a⟩]
def goodS (FL : List R → Pw → FRes) (js : List Nat) (ds : List PyData) (s : DSt) (p : List PyData × List PyData) : Prop := capsOk js s p.1 ∧ goodK FL p.1 s.w ds p.2 ∧ canSort p.2 ∧ leS ds.length
def kSortD (FL : List R → Pw → FRes) (js : List Nat) (ds : List PyData) (s : DSt) : Res R := @dite _ (∃ p, goodS FL js ds s p) (Classical.propDecidable _) (fun h => .ok (.new (sortByD ds h.choose.2)) s) fun _ => .stuck
theorem y_kSortD {FL : List R → Pw → FRes} {js : List Nat} {ds ks cs : List PyData} {s : DSt} (h1 : capsOk js s cs) (h2 : goodK FL cs s.w ds ks) (h3 : canSort ks) (h4 : leS ds.length) : kSortD FL js ds s = .ok (.new (sortByD ds ks)) s := by
  have ex : ∃ p, goodS FL js ds s p := ⟨(cs, ks), h1, h2, h3, h4⟩
  have e1 : kSortD FL js ds s = .ok (.new (sortByD ds ex.choose.2)) s := dif_pos ex
  have g := ex.choose_spec
  have ec : ex.choose.1 = cs := capsOk_uniq g.1 h1
  have ek : ex.choose.2 = ks := goodK_uniq (FL := FL) (cs := cs) (by rw [← ec]; exact g.2.1) h2
  rw [e1, ek]
def kSortL (FL : List R → Pw → FRes) (js : List Nat) (r : R) (s : DSt) : Res R := match look r s with
  | some (.list ds) => kSortD FL js ds s
  | _ => .stuck
def fSortL (f : M R) (FL : List R → Pw → FRes) (js : List Nat) : M R := bnd f (kSortL FL js)
@[simp] theorem x_sortL {f : M R} {FL : List R → Pw → FRes} {js : List Nat} {s : DSt} : fSortL f FL js s = (f s).bind (kSortL FL js) := Eq.trans rfl rfl
@[simp] theorem y_kSortL {FL : List R → Pw → FRes} {js : List Nat} {r : R} {s : DSt} : kSortL FL js r s = (match look r s with | some (.list ds) => kSortD FL js ds s | _ => .stuck) := Eq.trans rfl rfl
def kSortR (FL : List R → Pw → FRes) (js : List Nat) (r : R) (s : DSt) : Res R := match look r s with
  | some (.int n) => if rgS 0 n then kSortD FL js (rangeD 0 n.toNat) s else .stuck
  | _ => .stuck
def fSortR (f : M R) (FL : List R → Pw → FRes) (js : List Nat) : M R := bnd f (kSortR FL js)
@[simp] theorem x_sortR {f : M R} {FL : List R → Pw → FRes} {js : List Nat} {s : DSt} : fSortR f FL js s = (f s).bind (kSortR FL js) := Eq.trans rfl rfl
@[simp] theorem y_kSortR {FL : List R → Pw → FRes} {js : List Nat} {r : R} {s : DSt} : kSortR FL js r s = (match look r s with | some (.int n) => if rgS 0 n then kSortD FL js (rangeD 0 n.toNat) s else .stuck | _ => .stuck) := Eq.trans rfl rfl
section
variable {X : Cx} {cl : String → Addr} {W : WX} {pins : List (Addr × Obj)} {σ : L2.St} {G H : Hp} {s : Shared} {sd : DSt}
def SrcAt (X : Cx) (H : Hp) (a : Addr) (its : List V) : Prop := SqL X.K H a its ∨ ∃ n, H a = some (.rng 0 n) ∧ RgOk 0 n ∧ its = rgV 0 n
theorem src_collect (I : Inv X pins σ H s) (hc : X.calm = true) {a : Addr} {its : List V} (h : SrcAt X H a its) {Q' : List Value → Shared → Prop} {E' : Value → Shared → Prop}
    (q : ∀ (h' : Heap) (tk : Nat) (us : List Value), (∀ b o, s.heap.get? b = some o → h'.get? b = some o) → Vals its us → us.length ≤ sizeLine → Q' us { s with heap := h', toks := tk }) : wpAny (model X.prog X.w) X.A.in1 (collect (.ref a)) Q' E' s := by
  rcases h with h | ⟨n, h, rg, e⟩
  · obtain ⟨us, rv, pl, hz⟩ := I.list h
    have hz2 : us.length ≤ sizeLine := by rw [← rv.length]; exact hz
    refine collect_list pl.isList (q _ s.toks us (fun b o e => ?_) rv hz2) hz2
    have ne : b ≠ s.heap.objs.size := Nat.ne_of_lt (Heap.lt_size e)
    exact (Heap.get?_update_ne _ _ _ _ ne).trans (Heap.get?_push_of_some _ e)
  · subst e
    obtain ⟨t, u, v, hr⟩ : ∃ t u v, IsRange s.heap a 0 n 1 t u v := I.hok a _ h
    obtain ⟨b1, b2, b3, b4, b5⟩ := rg
    refine collect_range (n := (n - 0).toNat) (show X.A.in1.handled = none from I.ok.hd hc) hr (small_one b1 b2 b3 b4) (rangeSize_nat 0 n) b5 fun h' tk acc hk hi => ?_
    have rv := vals_rg hi
    refine q h' tk acc.toList hk rv ?_
    rw [← rv.length, rgV_length, sizeLine_eq]
    omega
theorem src_len (I : Inv X pins σ H s) {a : Addr} {its : List V} (h : SrcAt X H a its) : its.length ≤ sizeLine := by
  rcases h with h | ⟨n, h, rg, e⟩
  · obtain ⟨us, rv, pl, hz⟩ := I.list h
    exact hz
  · subst e
    obtain ⟨b1, b2, b3, b4, b5⟩ := rg
    rw [rgV_length, sizeLine_eq]; omega
theorem src_keep {P : Addr} {H1 : Hp} {ps : Array Value} {a : Addr} {its : List V} (h : SrcAt X H a its) (hP : H P = some (.tbl ps)) (k : ∀ b o, b ≠ P → H b = some o → H1 b = some o) : SrcAt X H1 a its := by
  have go : ∀ o, H a = some o → (∀ ps, o ≠ .tbl ps) → H1 a = some o := fun o e n => k a o (fun z => by rw [z, hP] at e; cases e; exact n _ rfl) e
  rcases h with ((e | ⟨o, e⟩) | z) | ⟨n, e, r⟩
  · exact .inl (.inl (.inl (go _ e fun _ => nofun)))
  · exact .inl (.inl (.inr ⟨o, go _ e fun _ => nofun⟩))
  · exact .inl (.inr z)
  · exact .inr ⟨n, go _ e (fun _ => nofun), r⟩
theorem sorted_lam {FL : List R → Pw → FRes} {js : List Nat} {k : Nat} {f : Addr} {F : LF} {ps fr : List Str} {a : Addr} {its : List V} {ds ks cs : List PyData} {Q : VK}
    (I : Inv X pins σ H s) (hcalm : X.calm = true) (S : SA X.K G sd σ H) (RL : LamRun X.prog X.w X.K X.mg X.base k f F ps fr (spF X.K cl FL)) (hr : RoomG (k + 2) X.A)
    (hf : H f = some (LamO f F)) (hc : H F.c = some (LamX.CodeO F.c F.qual)) (cap : NdefX.Caps X F.cl fr js) (hps : ps.length = 1) (hcs : capsOk js sd cs) (src : SrcAt X H a its) (rd : RpAll X.K G its ds) (hk : goodK FL cs sd.w ds ks) (hsort : canSort ks)
    (fin : ∀ (G' H' : Hp) (out : List V), Stp G sd σ H G' sd σ H' → SA X.K G' sd σ H' → RpAll X.K G' out (sortByD ds ks) → ∀ p, H' p = none → Q (.ref p) (upd H' p (.lst out))) :
    wpAny (model X.prog X.w) X.A (call (.builtin "sorted") [.ref a] [(Str.ofString "key", .ref f)]) (EP X pins σ Q) X.xe s := by
  have hz : ds.length ≤ sizeLine := by rw [← dps_len rd]; exact src_len I src
  refine call_function_entry_kw kind_sorted plain_sorted entry_sorted (ksk_s1 _ _) ?_
  unfold Builtin.«sorted»
  refine wpAny_bind (m := checkCount "sorted" 1 1 _) (wpAny_pure ?_)
  refine wpAny_bind (src_collect I hcalm src fun h1 t1 us k1 rv lz => ?_)
  refine wpAny_bind (wpAny_newList ?_ lz)
  obtain ⟨L, hL⟩ : ∃ L, h1.objs.size = L := ⟨_, rfl⟩
  obtain ⟨h2, hh2⟩ : ∃ h2, h1.push (seqObj "list" us.toArray 0) = h2 := ⟨_, rfl⟩
  have k2 : ∀ b o, h1.get? b = some o → h2.get? b = some o := fun b o e => by rw [← hh2]; exact Heap.get?_push_of_some _ e
  have oL : h2.get? L = some (seqObj "list" us.toArray 0) := by rw [← hh2, ← hL]; exact Heap.get?_push_size _ rfl
  have I1 : Inv X pins σ H { s with heap := h1, toks := t1 } := I.kept k1
  have mL : Mine X pins L := mine_of I1 (by show h1.objs.size ≤ L; rw [hL]; exact Nat.le_refl _)
  have nL : H L = none := I1.hok.fresh (by show h1.objs.size ≤ L; rw [hL]; exact Nat.le_refl _)
  show wpAny _ X.A.in1 _ _ _ { s with heap := h1.push (seqObj "list" us.toArray 0), toks := t1 }
  rw [hL, hh2]
  have I2 : Inv X pins σ H { s with heap := h2, toks := t1 } := I1.kept k2
  refine wpAny_bind (wpAny_holding (wpAny_call_entry_kw slot_list_sort ⟨_, oL, rfl⟩ entry_list_sort ?_ (ksk_l1 _ _)))
  show wpAny (model X.prog X.w) X.A.in1.in1 (Builtin.«list.sort» ⟨[.ref L], [(Str.ofString "key", .ref f)]⟩) _ _ _
  rw [ksk_t1]
  unfold ksk_tree
  obtain ⟨e3, o3⟩ : ∃ e3, (h2.update L (Obj.mapSeq fun _ => (#[] : Array Value))).get? L = some (seqObj "list" #[] e3) := ⟨_, get?_update_seq oL fun _ => #[]⟩
  obtain ⟨h3, hh3⟩ : ∃ h3, h2.update L (Obj.mapSeq fun _ => (#[] : Array Value)) = h3 := ⟨_, rfl⟩
  rw [hh3] at o3
  have k3 : ∀ b o, b ≠ L → h2.get? b = some o → h3.get? b = some o := fun b o nb e => by rw [← hh3]; exact (Heap.get?_update_ne _ _ _ _ nb).trans e
  have I3 : Inv X pins σ H { s with heap := h3, toks := t1 } := inv_mine (s := { s with heap := h2, toks := t1 }) I2 mL mL nL nL fun b o nb _ e => k3 b o nb e
  refine wpAny_bind (listItems_at oL rfl ?_)
  refine wpAny_bind (listUpdate_at oL rfl ?_ (by rw [List.size_toArray]; exact lz) (Nat.zero_le _))
  show wpAny _ _ _ _ _ { s with heap := h2.update L (Obj.mapSeq fun _ => (#[] : Array Value)), toks := t1 }
  rw [hh3]
  refine wpAny_bind (seqEpoch_at o3 rfl ?_)
  refine wpAny_bind (wpAny_newTuple ?_ (by show us.length ≤ _; exact lz))
  refine wpAny_bind (wpAny_newList ?_ (Nat.zero_le _))
  refine wpAny_holding ?_
  obtain ⟨h4, hh4⟩ : ∃ h4, h3.push (seqObj "tuple" us.toArray 0) = h4 := ⟨_, rfl⟩
  obtain ⟨kS, hkS⟩ : ∃ kS, h4.objs.size = kS := ⟨_, rfl⟩
  obtain ⟨h5, hh5⟩ : ∃ h5, h4.push (seqObj "list" #[] 0) = h5 := ⟨_, rfl⟩
  show wpAny _ _ (ksk_rest L (.ref f) false us.toArray e3 (.ref (h3.push (seqObj "tuple" us.toArray 0)).objs.size)) _ _ { s with heap := (h3.push (seqObj "tuple" us.toArray 0)).push (seqObj "list" #[] 0), toks := t1 }
  rw [hh4, hkS, hh5]
  have k4 : ∀ b o, h3.get? b = some o → h4.get? b = some o := fun b o e => by rw [← hh4]; exact Heap.get?_push_of_some _ e
  have k5 : ∀ b o, h4.get? b = some o → h5.get? b = some o := fun b o e => by rw [← hh5]; exact Heap.get?_push_of_some _ e
  have oS : h5.get? kS = some (seqObj "list" #[] 0) := by rw [← hh5, ← hkS]; exact Heap.get?_push_size _ rfl
  have I4 : Inv X pins σ H { s with heap := h4, toks := t1 } := I3.kept k4
  have I5 : Inv X pins σ H { s with heap := h5, toks := t1 } := I4.kept k5
  have mS : Mine X pins kS := mine_of I4 (by show h4.objs.size ≤ kS; rw [hkS]; exact Nat.le_refl _)
  have nS : H kS = none := I4.hok.fresh (by show h4.objs.size ≤ kS; rw [hkS]; exact Nat.le_refl _)
  have ne : kS ≠ L := fun z => by
    have := Heap.lt_size (k4 _ _ o3)
    rw [hkS, z] at this
    exact Nat.lt_irrefl _ this
  refine sort_keys I5 S RL ⟨hr.room.in1.in1, hr.quiet⟩ hr.units hf hc cap hps hcs.1 hcs.2 rv rd hk.1 hk.2 hsort hz mL mS nL nS ne (k5 _ _ (k4 _ _ o3)) oS fun G' H' s' out I' st S' n' ro => ?_
  exact ⟨_, rfl, wpAny_pure ⟨_, rfl, .ref L, upd H' L (.lst out), I', rfl, fin G' H' out st S' ro L n'⟩⟩
end
section
variable {X : Cx} {cl : String → Addr} {W : WX}
def tSortL (X : Cx) (FL : List R → Pw → FRes) (js : List Nat) (te : TE) : TE := fun σ H Q => tCons te tNil σ H fun vs H1 => ∃ v, vs = [v] ∧ ∃ (a : Addr) (its : List V) (G : Hp) (sd : DSt) (ds ks cs : List PyData), v = .ref a ∧ SrcAt X H1 a its ∧ SA X.K G sd σ H1 ∧ RpAll X.K G its ds ∧ capsOk js sd cs ∧ goodK FL cs sd.w ds ks ∧ canSort ks ∧
  ∀ (G' H' : Hp) (out : List V), Stp G sd σ H1 G' sd σ H' → SA X.K G' sd σ H' → RpAll X.K G' out (sortByD ds ks) → ∀ p, H' p = none → Q (.ref p) (upd H' p (.lst out))
theorem pe_sortLam {FL : List R → Pw → FRes} {js : List Nat} {k : Nat} {ps fr : List Str} {c P : Addr} {params : Arguments} {body e : Expr} {scope : Scope} {lpos kpos p pos : Pos} {te : TE} (he0 : PE X e te) (hcalm : X.calm = true) (hg : Gl X "sorted") (hm0 : X.mg "sorted" = none)
    (TB : LamX.TabB X.base X.mg c P) (hcode : X.env.code = .ref c) (hm : (P, X.env.qual ++ "<lambda>") ∈ tabA) (hu : ∀ p ∈ tabA, p.1 = P → p.2 = X.env.qual ++ "<lambda>") (hdef : defaultsOf params X.env = ([], []))
    (hfree : ∀ y ∈ scope.names, y.2 = .free → X.env.scope.names.lookup y.1 = some .cell ∨ X.env.scope.names.lookup y.1 = some .free) (hfr : ∀ y ∈ fr, (y, NameKind.free) ∈ scope.names) (hjs : js.map (fun j => X.N[j]?) = fr.map some) (hps : ps.length = 1) (hr : RoomG (k + 2) X.A)
    (RL : ∀ f c', LamRun X.prog X.w X.K X.mg X.base k f (lfOf X params body scope c') ps fr (spF X.K cl FL))
    (he : backTo pos (starEach [e] X.env) = (false, eval e X.env) :: backTo pos (starEach [] X.env) := by rfl) (hpl : (backTo pos (starEach [e] X.env)).any (·.1) = false := by rfl)
    (na : starEach [e] X.env = (false, eval e X.env) :: starEach [] X.env := by rfl)
    (hall : (backToKw pos (keywordEach [⟨some "key", .Lambda params body scope lpos, kpos⟩] X.env)).all (·.1.isSome) = true := by rfl) (hnone : (backToKw pos (keywordEach [⟨some "key", .Lambda params body scope lpos, kpos⟩] X.env)).any (·.1.isNone) = false := by rfl)
    (hks : (backToKw pos (keywordEach [⟨some "key", .Lambda params body scope lpos, kpos⟩] X.env)).filterMap (·.1) = [Str.ofString "key"] := by rfl) :
    PE X (.Call (.Name "sorted" p) [e] [⟨some "key", .Lambda params body scope lpos, kpos⟩] pos) (tSortL X FL js te) := by
  refine ⟨fun pins s σ H Q I h => ?_⟩
  have hPT : TOwn P := ⟨_, hm⟩
  have pl : PE X (.Lambda params body scope lpos) (fun σ H Q => ∃ G, TabOk G H ∧ ∀ (f c' : Addr) (H1 : Hp), (∀ b o, b ≠ P → H b = some o → H1 b = some o) → H1 P ≠ none → TabOk G H1 → H1 f = some (LamO f (lfOf X params body scope c')) → H1 c' = some (LamX.CodeO c' (X.env.qual ++ "<lambda>")) → Q (.ref f) H1) :=
    ⟨fun pins s σ H Q I ⟨G, tb, q⟩ => lam_mk I TB hcode hm hu tb hdef (fun y hy e => (hfree y hy e).elim (fun z => I.ok.has _ (.inl z)) fun z => I.ok.has _ (.inr z)) fun f c' H1 s' I1 k1 p1 t1 _ f1 c1 => ⟨.ref f, H1, I1, rfl, q f c' H1 k1 p1 t1 f1 c1⟩⟩
  refine wpAny_Call_Name_kw (ld_blt I hg hm0 (show bootBuiltins (Str.ofString "sorted") = some (.builtin "sorted") by decide +kernel) ?_ (by decide) (by decide))
  refine callWith_kw (thn ((pa_cons he0 pa_nil na).run pos pins s σ H (fun vs H1 => ∃ v, vs = [v] ∧ ∃ (a : Addr) (its : List V) (G : Hp) (sd : DSt) (ds ks cs : List PyData), v = .ref a ∧ SrcAt X H1 a its ∧ SA X.K G sd σ H1 ∧ RpAll X.K G its ds ∧ capsOk js sd cs ∧ goodK FL cs sd.w ds ks ∧ canSort ks ∧
      ∀ (G' H' : Hp) (out : List V), Stp G sd σ H1 G' sd σ H' → SA X.K G' sd σ H' → RpAll X.K G' out (sortByD ds ks) → ∀ p, H' p = none → Q (.ref p) (upd H' p (.lst out))) I ?_) fun us s1 ⟨vs, H1, I1, r1, v, ev, a, its, G, sd, ds, ks, cs, e1, src, S, rd, hcs, hk, hso, fin⟩ => ?_) he hpl hall hnone
  · exact h
  · subst ev e1
    cases r1 with
    | cons r1 r2 =>
      cases r2
      cases r1
      refine thn ((pk_cons (kpos := kpos) (nm := some "key") pl pk_nil).run pos pins s1 σ H1 (fun zs H2 => ∃ (f c' : Addr), zs = [.ref f] ∧ (∀ b o, b ≠ P → H1 b = some o → H2 b = some o) ∧ H2 P ≠ none ∧ TabOk G H2 ∧ H2 f = some (LamO f (lfOf X params body scope c')) ∧ H2 c' = some (LamX.CodeO c' (X.env.qual ++ "<lambda>"))) I1
        ⟨G, S.pw.2, fun f c' H2 k1 p1 t1 f1 c1 => ⟨f, c', rfl, k1, p1, t1, f1, c1⟩⟩) fun ws s2 ⟨zs, H2, I2, r2, f, c', ez, k1, p1, t1, f1, c1⟩ => ?_
      subst ez
      cases r2 with
      | cons r2 r3 =>
        cases r3
        cases r2
        rw [hks]
        obtain ⟨st2, S2⟩ := lam_sa S hPT k1 p1 t1
        obtain ⟨ps2, hP1⟩ := S.pw.2.h hPT
        exact sorted_lam I2 hcalm S2 (RL f c') hr f1 c1 (NdefX.Caps.made I2.ok hfree hfr hjs) hps hcs (src_keep src hP1 k1) rd hk hso fun G' H' out st S' ro p hp => fin G' H' out (st2.trans st) S' ro p hp
theorem sort_reads {K : PySem.W.Frag} {FL : List R → Pw → FRes} {js : List Nat} {σ : L2.St} {H0 H1 G1 : Hp} {s1 : DSt} {ds : List PyData} {Q : VK} (dm : ∀ a, H0 a ≠ none → H1 a ≠ none)
    (k : Out K cl W G1 s1 σ H1 (kSortD FL js ds s1) fun r G' s' H' => ∀ v, RRel K H0 G' s' σ H' v r → Q v H') :
    ∃ ks cs, capsOk js s1 cs ∧ goodK FL cs s1.w ds ks ∧ canSort ks ∧ ∀ (G' H' : Hp) (out : List V), Stp G1 s1 σ H1 G' s1 σ H' → SA K G' s1 σ H' → RpAll K G' out (sortByD ds ks) → ∀ p, H' p = none → Q (.ref p) (upd H' p (.lst out)) := by
  by_cases ex : ∃ p, goodS FL js ds s1 p
  · obtain ⟨p, g1, g2, g3, g4⟩ := ex
    refine ⟨p.2, p.1, g1, g2, g3, fun G' H' out st S' ro q hq => ?_⟩
    rw [y_kSortD g1 g2 g3 g4] at k
    obtain ⟨st2, S2, r2⟩ := new_list (H0 := H0) S' hq ro (fun a h => st.dom a (dm a h))
    exact k _ _ (st.trans st2) S2 _ r2
  · unfold kSortD at k
    rw [dif_neg ex] at k
    exact k.elim
theorem sortL_reads {f : M R} {FL : List R → Pw → FRes} {js : List Nat} {σ : L2.St} {H : Hp} {Q : VK} (q : tD X.K cl W (fSortL f FL js) σ H Q) : tSortL X FL js (tD X.K cl W f) σ H Q := by
  obtain ⟨G, s, S, q⟩ := q
  refine ⟨G, s, S, out_mono (out_bind q) fun r G1 s1 H1 st1 S1 k v rr => ⟨v, rfl, ?_⟩⟩
  unfold kSortL at k
  split at k
  · rename_i ds e
    obtain ⟨ks, cs, g1, g2, g3, fin⟩ := sort_reads st1.dom k
    cases r with
    | val d =>
      cases e
      cases rr with
      | lst h1 h2 => exact ⟨_, _, G1, s1, ds, ks, cs, rfl, .inl (.inl (.inl (S1.gh _ _ h1))), S1, h2, g1, g2, g3, fin⟩
    | raw u => cases e
    | ob o => cases e
    | new es =>
      cases e
      obtain ⟨a, xs, rfl, ha, hd, _⟩ := rr
      exact ⟨a, xs, G1, s1, ds, ks, cs, rfl, .inl (.inl (.inl ha)), S1, hd, g1, g2, g3, fin⟩
    | slot i =>
      have h' : σ[i]? = some (some v) := rr
      simp only [look] at e
      split at e
      · rename_i es q2
        cases e
        obtain ⟨a, xs, e1, ha, hd⟩ := S1.slot i _ q2
        rw [h'] at e1
        cases e1
        exact ⟨a, xs, G1, s1, ds, ks, cs, rfl, .inl (.inl (.inl ha)), S1, hd, g1, g2, g3, fin⟩
      · rename_i d' q2
        cases e
        obtain ⟨u, e1, hd⟩ := S1.slot i _ q2
        rw [h'] at e1
        cases e1
        cases hd with
        | lst h1 h2 => exact ⟨_, _, G1, s1, ds, ks, cs, rfl, .inl (.inl (.inl (S1.gh _ _ h1))), S1, h2, g1, g2, g3, fin⟩
      · cases e
  · exact k.elim
end
end DL

/-! DL75: defs with a lambda, the end with tables -/
noncomputable section
namespace DL
open PySem L2 PySem.Spec PyProof.Rows
open Evl (Ex)
structure FunC (K : PySem.W.Frag) (x qual : Str) (st : Stmt) (f : Addr) (fd : FuncData) (cdv : Value) : Prop where
  ex : ∃ (oc : Value) (od : Option Addr) (kV doc pm : Value) (an : Option Addr) (ct : Value) (osl : Array (Option Value)),
    fd = PySem.W.fnOf x qual (defArgs st) (defBody st) (defScope st) .none kV doc pm an cdv ct ∧ K.lookup f = some ⟨oc, od, .func fd, osl⟩ ∧ PySem.W.codeIn K cdv qual = true
  kp : PySem.W.keepIn K (.ref f) = true
section
variable {P : Program} {w : World} {K : PySem.W.Frag} {mg : Str → Option Value} {base : Heap} {cl : String → Addr}
theorem okGC {cdv : Value} {x qual : Str} {d : Stmt} {f : Addr} {fd : FuncData} {N ps : List Str} {k : Nat} {sp : Sp} (F : FunC K x qual d f fd cdv) (S : FnScope N ps (defScope d)) (many : ∀ vs H Q E, sp vs H Q E → vs.length = ps.length)
    (hbody : ∀ (A : Around) (outer : List Env) (st : Shared) (H : Hp) (vs : List V) (Q : VK) (E : XK), RoomG k (A.deeper (envOfC qual (defScope d) st.heap.objs.size f cdv)) → sp vs H Q E →
      ∃ t, PSs (cxOf (L2.CX P w) P w K mg base N qual (defScope d) f cdv A outer st H E) (defBody d) t ∧ t { nx := fun _ H' => Q .non H', rt := Q } (start N vs) H) : FnG P w K mg base (L2.CX P w) (k + 1) f fd ps sp := by
  obtain ⟨oc, od, kV, doc, pm, an, ct, osl, rfl, lk, hcd⟩ := F.ex
  refine ⟨many, ?_⟩
  intro A outer st H args us vs Q E hr e0 hb r hsp
  have up : ∀ b o, base.get? b = some o → st.heap.get? b = some o := fun b o z => (e0.bs b o z).1
  have KX : K.In st.heap := e0.mod.kin.keeps up
  refine codeAny_call_function hr.room.depth (KX _ _ lk) rfl S.co S.gen rfl (PySem.W.codeRec_of KX hcd) (hb _ _ _ _ (wpAny_newFunctionEnv_cells S.kind (fun y hy => ?_) fun env he st1 z => ?_))
  · rcases S.par y.1 (List.of_mem_zip (a := y.1) (b := y.2) hy).1 with q | q
    · exact .inl q
    · exact .inr ⟨q, PySem.W.cellsFrom_some _ _ _ (.inl q)⟩
  · subst he
    obtain ⟨t, ht, hq⟩ := hbody A outer st H vs Q E (hr.deeper _) hsp
    have I : Inv (cxOf (L2.CX P w) P w K mg base N qual (defScope d) f cdv A outer st H E) [] (start N vs) H st1 := inv_start S hr.room.hd e0 (many _ _ _ _ hsp) r z
    refine ⟨(e0.mod.nolimit.keeps up).keeps z.toInCall.keep, codeAny_func (wpAny_mono (ht.run [] st1 (start N vs) H _ I hq) ?_ fun _ _ hs => hs)⟩
    intro fl st' hs
    match fl, hs with
    | .ret u, ⟨v, _, H', J, rv, q⟩ => exact ⟨v, H', J.os, J.bare, J.base, J.hok, rv, q⟩
    | .next, ⟨_, H', J, q⟩ => exact ⟨V.non, H', J.os, J.bare, J.base, J.hok, rfl, q⟩
    | .brk, ⟨_, _, _, q⟩ => exact q.elim
    | .cont, ⟨_, _, _, q⟩ => exact q.elim
theorem def_okC {cdv : Value} {x qual : Str} {st : Stmt} {f : Addr} {fd : FuncData} {N ps : List Str} {k : Nat} {p : DSt → Flow} (F : FunC K x qual st f fd cdv) (S : FnScope N ps (defScope st)) (hN : ps.length ≤ N.length)
    (hb : ∀ (A : Around) (outer : List Env) (s : Shared) (H : Hp) (E : XK), RoomG k (A.deeper (envOfC qual (defScope st) s.heap.objs.size f cdv)) →
      DSs (cxOf (L2.CX P w) P w K mg base N qual (defScope st) f cdv A outer s H E) cl (fun cls d _ H => E cls d H) (defBody st) p) : FnG P w K mg base (L2.CX P w) (k + 1) f fd ps (spF K cl (runF N.length ps.length p)) := by
  have hlen : ∀ {rs : List R} {w : Pw}, (match runF N.length ps.length p rs w with | .stuck => False | _ => True) → rs.length = ps.length := by
    intro rs w h
    unfold runF at h
    split at h
    · exact h.elim
    · rename_i z
      by_cases q : rs.length = ps.length
      · exact q
      · rw [if_neg q] at z; exact absurd rfl z
  refine okGC F S (fun vs H Q E h => ?_) fun A outer s H vs Q E hr h => ⟨_, hb A outer s H E hr, ?_⟩
  · obtain ⟨G, rs, w, gh, hv, pw, k⟩ := h
    rw [pair_len hv]
    refine hlen (w := w) ?_
    cases z : runF N.length ps.length p rs w with
    | ok r w' => trivial
    | err x w' => trivial
    | stuck => rw [z] at k; exact k
  · obtain ⟨G, rs, w, gh, hv, pw, k⟩ := h
    have hn : rs.length = ps.length := by
      refine hlen (w := w) ?_
      cases z : runF N.length ps.length p rs w with
      | ok r w' => trivial
      | err x w' => trivial
      | stuck => rw [z] at k; exact k
    refine ⟨G, ⟨rs.map toSl ++ List.replicate (N.length - ps.length) .no, w⟩, show SA K G _ (L2.start N vs) H from start_sa gh hv pw hn hN, ?_⟩
    unfold runF at k
    rw [if_pos hn] at k
    cases z : p ⟨rs.map toSl ++ List.replicate (N.length - ps.length) .no, w⟩ with
    | next s' => rw [z] at k; exact fun G' σ' H' st S' => k .non G' H' (fstp_of st S') S'.pw .non
    | brk s' => rw [z] at k; exact k.elim
    | cnt s' => rw [z] at k; exact k.elim
    | stuck => rw [z] at k; exact k.elim
    | err x s' => rw [z] at k; exact fun cls d G' σ' H' st S' xr => k cls d G' H' (fstp_of st S') S'.pw xr
    | ret r s' =>
      rw [z] at k
      intro v G' σ' H' st S' rr
      cases r with
      | val d => exact k v G' H' (fstp_of st S') S'.pw rr
      | raw u => exact k v G' H' (fstp_of st S') S'.pw rr
      | ob o => exact k v G' H' (fstp_of st S') S'.pw rr
      | new ds =>
        refine k v G' H' (fstp_of st S') S'.pw ?_
        obtain ⟨a, xs, e, ha, hd, hg, h0, hn⟩ := rr
        exact ⟨a, xs, e, ha, hd, hg, h0, fun z => hn (.inr z)⟩
      | slot i =>
        have rr : σ'[i]? = some (some v) := rr
        dsimp only [finR] at k
        cases q : s'.d[i]? with
        | none => rw [q] at k; exact k.elim
        | some sl =>
          rw [q] at k
          cases sl with
          | no => exact k.elim
          | raw u => exact k.elim
          | ob o => exact k.elim
          | val d =>
            refine k v G' H' (fstp_of st S') S'.pw ?_
            obtain ⟨u, e, hd⟩ := S'.slot i _ q
            rw [rr] at e
            cases e
            exact hd
          | own ds =>
            refine k v G' H' (fstp_of st S') S'.pw ?_
            obtain ⟨a, xs, e, ha, hd⟩ := S'.slot i _ q
            rw [rr] at e
            cases e
            have ho : OwnAt s' σ' i a := ⟨⟨ds, q⟩, rr⟩
            refine ⟨a, xs, rfl, ha, hd, S'.ownG i a ho, ?_, S'.pne i a ho⟩
            rcases st.own a (.inl ⟨i, ho⟩) with z | z
            · have z := start_own z
              exact absurd (st.pw a z) (S'.pne i a ho)
            · exact z

def WrC (K : PySem.W.Frag) (mg : Str → Option Value) (x : Str) (st : Stmt) (ps : List Str) (c : Addr) : Prop := ∃ (f : Addr) (fd : FuncData), FunC K x x st f fd (.ref c) ∧ mg x = some (.ref f) ∧ Binds K fd ps []
theorem cal_ofC {x : Str} {k : Nat} {c : Addr} {N ps : List Str} {st : Stmt} {p : DSt → Flow} (h : WrC K mg x st ps c) (S : FnScope N ps (defScope st)) (hN : ps.length ≤ N.length)
    (hb : ∀ (f : Addr) (A : Around) (outer : List Env) (s : Shared) (H : Hp) (E : XK), RoomG k (A.deeper (envOfC x (defScope st) s.heap.objs.size f (.ref c))) →
      DSs (cxOf (L2.CX P w) P w K mg base N x (defScope st) f (.ref c) A outer s H E) cl (fun cls d _ H => E cls d H) (defBody st) p) : Cal P w K mg base cl x (k + 1) ps (runF N.length ps.length p) := by
  obtain ⟨f, fd, F, g, b⟩ := h
  exact ⟨f, fd, def_okC F S hN fun A outer s H E hr => hb f A outer s H E hr, g, F.kp, b⟩
theorem wrc_mk {h : Heap} {x : Str} {st : Stmt} {f : Addr} {oc : Value} {od an : Option Addr} {osl : Array (Option Value)} {kV doc pm ct : Value} {c : Addr} {ps : List Str} (X : K.In h) (G : h.Ns mainGlobals mg)
    (a : PySem.W.nsIn K mainGlobals x = some (some (.ref f))) (l : K.lookup f = some ⟨oc, od, .func (PySem.W.fnOf x x (defArgs st) (defBody st) (defScope st) .none kV doc pm an (.ref c) ct), osl⟩)
    (cd : PySem.W.codeIn K (.ref c) x = true) (k : PySem.W.keepIn K (.ref f) = true) (h : ∀ (kV doc pm : Value) (an : Option Addr) (cdv ct : Value) (us : List Value), us.length = ps.length → bindArgs (PySem.W.fnOf x x (defArgs st) (defBody st) (defScope st) .none kV doc pm an cdv ct) ⟨us, []⟩ = pure (ps.zip us)) : WrC K mg x st ps c :=
  ⟨f, _, ⟨⟨_, _, _, _, _, _, _, _, rfl, l, cd⟩, k⟩, PySem.W.mg_of X G a, (fun_mk l cd k).binds h⟩
end
/-! ### sorted(.., key=lambda), as data -/
section
variable {X : Cx} {cl : String → Addr} {W : WX}
theorem d_sortL {FL : List R → Pw → FRes} {js : List Nat} {k : Nat} {ps fr : List Str} {c P : Addr} {params : Arguments} {body e : Expr} {scope : Scope} {lpos kpos p pos : Pos} {f : M R} (ha : DE X cl W e f) (hcalm : X.calm = true) (hg : Gl X "sorted") (hm0 : X.mg "sorted" = none)
    (TB : LamX.TabB X.base X.mg c P) (hcode : X.env.code = .ref c) (hm : (P, X.env.qual ++ "<lambda>") ∈ tabA) (hu : ∀ p ∈ tabA, p.1 = P → p.2 = X.env.qual ++ "<lambda>") (hdef : defaultsOf params X.env = ([], []))
    (hfree : ∀ y ∈ scope.names, y.2 = .free → X.env.scope.names.lookup y.1 = some .cell ∨ X.env.scope.names.lookup y.1 = some .free) (hfr : ∀ y ∈ fr, (y, NameKind.free) ∈ scope.names) (hjs : js.map (fun j => X.N[j]?) = fr.map some) (hps : ps.length = 1) (hr : RoomG (k + 2) X.A)
    (RL : ∀ f c', LamRun X.prog X.w X.K X.mg X.base k f (lfOf X params body scope c') ps fr (spF X.K cl FL))
    (he : backTo pos (starEach [e] X.env) = (false, eval e X.env) :: backTo pos (starEach [] X.env) := by rfl) (hpl : (backTo pos (starEach [e] X.env)).any (·.1) = false := by rfl)
    (na : starEach [e] X.env = (false, eval e X.env) :: starEach [] X.env := by rfl)
    (hall : (backToKw pos (keywordEach [⟨some "key", .Lambda params body scope lpos, kpos⟩] X.env)).all (·.1.isSome) = true := by rfl) (hnone : (backToKw pos (keywordEach [⟨some "key", .Lambda params body scope lpos, kpos⟩] X.env)).any (·.1.isNone) = false := by rfl)
    (hks : (backToKw pos (keywordEach [⟨some "key", .Lambda params body scope lpos, kpos⟩] X.env)).filterMap (·.1) = [Str.ofString "key"] := by rfl) :
    DE X cl W (.Call (.Name "sorted" p) [e] [⟨some "key", .Lambda params body scope lpos, kpos⟩] pos) (fSortL f FL js) :=
  pe_imp (pe_sortLam ha hcalm hg hm0 TB hcode hm hu hdef hfree hfr hjs hps hr RL he hpl na hall hnone hks) fun σ H Q q => sortL_reads q
end
/-! ### where a lambda stands -/
def lamE : Expr → Arguments × Expr × Scope
  | .Lambda a b s _ => (a, b, s)
  | .Call _ _ [⟨_, .Lambda a b s _, _⟩] _ => (a, b, s)
  | e => (⟨[], [], none, [], [], none, []⟩, e, default)
def retE : Stmt → Expr
  | .Return (some e) _ => e
  | _ => .Name "" default
/-! ### the end -/
section
variable {P : Program} {w : World} {K : PySem.W.Frag} {mg mb : Str → Option Value} {k : Nat} {fa a : Addr} {fd : FuncData} {x : Str} {sp : Sp} {s1 : Shared} {us : List Value} {ns : List Int} {cs : List (Addr × Addr)}
theorem law_fromT {H : Hp} (KX : K.In s1.heap) (G1 : s1.heap.Ns mainGlobals mg) (G2 : s1.heap.Ns builtinsNs mb) (G3 : ∀ x : Str, x ≠ "__name__" → mb x = bootBuiltins x) (G4 : s1.heap.NoLimit) (G5 : s1.gens = #[])
    (hT : ∀ p ∈ cs, s1.heap.get? p.2 = some { cls := .none, data := .fields #[] }) (nT : ∀ p ∈ cs, K.lookup p.2 = none) (C : ∀ p ∈ cs, PySem.W.CodeHd s1.heap p.1 p.2)
    (hbm : ∃ (bm : Addr) (ob : Obj), mg "__builtins__" = some (.ref bm) ∧ bm ≠ builtinsNs ∧ s1.heap.get? bm = some ob ∧ ob.cls = .type "module" ∧ ob.dict = some builtinsNs ∧ ob.data = .plain)
    (scr : s1.heap.get? a = some { cls := .type "list", data := .seq us.toArray }) (hr : Room k callerA) (F : ∀ base : Heap, K.In base → base.Ns mainGlobals mg → (∀ p ∈ cs, LamX.TabB base mg p.1 p.2) → FnG P w K mg base (L2.CX P w) k fa fd [x] sp)
    (bi : ∀ (st : Shared) (u : Value), BindsTo st fd ⟨[u], []⟩ [(x, u)]) (on : ∀ b, H b = none ∨ b ∈ cs.map (·.2) ∨ ∃ o xs, H b = some (.frz o (.lst xs))) (tabs : ∀ p ∈ cs, H p.2 = some (.tbl #[])) (pr : sp [.ref a] H (fun v _ => v = .bl true) fun _ _ _ => False) (hok : HOk P w H s1.heap)
    (one : ∀ b, H b ≠ none → b = a ∨ b ∈ cs.map (·.2)) (out : H a ≠ none → K.lookup a = none) :
    codeAny (model P w) callerA (.call (.ref fa) ⟨[.ref a], []⟩) (LawEnd s1) s1 := by
  have isT : ∀ b : Addr, b ∈ cs.map (·.2) → ∃ p ∈ cs, p.2 = b ∧ s1.heap.get? b = some { cls := .none, data := .fields #[] } := fun b hb => by
    obtain ⟨p, hp, e⟩ := List.mem_map.mp hb
    exact ⟨p, hp, e, by rw [← e]; exact hT p hp⟩
  have free : ∀ (b : Addr) (o : Obj), s1.heap.get? b = some o → (∀ vs n, o.data ≠ .seq vs n) → o.data ≠ .fields #[] → H b = none := fun b o e n1 n2 => Classical.byContradiction fun z => by
    rcases one b z with q | q
    · subst q
      rw [scr] at e; cases e
      exact n1 _ _ rfl
    · obtain ⟨_, _, _, e2⟩ := isT b q
      rw [e2] at e; cases e
      exact n2 rfl
  have stays : ∀ (b : Addr) (m : Str → Option Value), s1.heap.Ns b m → (hidT s1.heap H).Ns b m := by
    rintro b m ⟨o, es, ep, e, d, r⟩
    exact ⟨o, es, ep, hidT_get e (free b o e (fun vs n z => by rw [d] at z; cases z) fun z => by rw [d] at z; cases z), d, r⟩
  have K1 : K.In (hidT s1.heap H) := fun b o e => hidT_get (KX b o e) (Classical.byContradiction fun z => by
    rcases one b z with q | q
    · subst q
      rw [out z] at e
      cases e
    · obtain ⟨p, hp, ep, _⟩ := isT b q
      subst ep
      rw [nT p hp] at e
      cases e)
  obtain ⟨mc, l1, l2⟩ := G4
  have nsG : ∃ (o : Obj) (es : Array DictEntry) (ep : Nat), s1.heap.get? mainGlobals = some o ∧ o.data = .dict es ep := by
    obtain ⟨o, es, ep, e, hd, _⟩ := G1
    exact ⟨o, es, ep, e, hd⟩
  have TB : ∀ p ∈ cs, LamX.TabB (hidT s1.heap H) mg p.1 p.2 := fun p hp => by
    have hTp := hT p hp
    refine ⟨?_, ?_, fun z => ?_⟩
    · obtain ⟨o, vs, file, tf, flags, tg, inF, text, tt, e1, r1, r2, r3, rest⟩ := C p hp
      exact ⟨o, vs, file, tf, flags, tg, inF, text, tt, hidT_get e1 (free _ o e1 (fun vs n z => by rw [r2] at z; cases z) fun z => by rw [r2] at z; cases z; simp at r3), r1, r2, r3, rest⟩
    · obtain ⟨bm, ob, b1, b2, b3, b4, b5, b6⟩ := hbm
      obtain ⟨o, es, ep, eG, dG⟩ := nsG
      refine ⟨bm, ob, b1, b2, fun q => ?_, fun q => ?_, hidT_get b3 (free bm ob b3 (fun vs n z => by rw [b6] at z; cases z) fun z => by rw [b6] at z; cases z), b4, b5, b6⟩
      · rw [q, eG] at b3; cases b3
        rw [dG] at b6; cases b6
      · rw [q, hTp] at b3; cases b3
        cases b6
    · obtain ⟨o, es, ep, eG, dG⟩ := nsG
      rw [z, hTp] at eG; cases eG
      cases dG
  have e0 : Env0 P w K mg (hidT s1.heap H) callerA [] s1 H := ⟨rfl, ⟨K1, stays _ _ G1, ⟨mb, stays _ _ G2, G3⟩, ⟨mc, stays _ _ l1, l2⟩⟩, fun _ _ e => of_hidT e, Nat.le_of_eq (hidT_size _ _), trivial, fun _ hb => (by cases hb), hok, .of_eq G5⟩
  refine codeAny_mono ((F _ K1 (stays _ _ G1) TB).goes callerA [] s1 H ⟨[.ref a], []⟩ [.ref a] [.ref a] _ _ (quiet_caller hr) e0 (bi s1 (.ref a)) (.cons rfl .nil) pr) ?_
  intro r s2 h
  match r, h with
  | .error _, h =>
    obtain ⟨_, _, _, _, _, _, _, _, _, _, _, _, z⟩ := h
    exact z.elim
  | .ok .next, h => exact h.elim
  | .ok .brk, h => exact h.elim
  | .ok .cont, h => exact h.elim
  | .ok (.ret u), ⟨v, H2, os, bare, un, hok2, rv, q⟩ =>
    have q : v = .bl true := q
    subst q
    have rv : u = Value.bool true := rv
    subst rv
    have key : ∀ b o, b ∉ cs.map (·.2) → s1.heap.get? b = some o → s2.heap.get? b = some o := fun b o nb e => by
      rcases on b with z | z | ⟨ob, xs, z⟩
      · exact un.keep b o e z (fun y => by cases y) (fun y => by cases y)
      · exact absurd z nb
      · have g1 := (hok b _ z).1
        rw [e] at g1
        cases g1
        exact (hok2 b _ (un.frzs b _ _ z)).1
    have big : ∀ p ∈ cs, ∃ more : Array Value, s2.heap.get? p.2 = some { cls := .none, data := .fields more } := fun p hp => by
      obtain ⟨more, z⟩ := un.tbls p.2 #[] (tabs p hp)
      exact ⟨_, hok2 p.2 _ z⟩
    refine ⟨rfl, ⟨fun b o e => ?_, fun b o e => ?_⟩, os, bare⟩
    · by_cases hb : b ∈ cs.map (·.2)
      · obtain ⟨p, hp, ep, e2⟩ := isT b hb
        obtain ⟨more, hm⟩ := big p hp
        subst ep
        rw [e2] at e
        cases e
        exact .inr (.inl ⟨((C p hp).tab (hT p hp)).isCodeTable, rfl, #[], more, rfl, by rw [Array.empty_append]; exact hm⟩)
      · exact .inl (key b o hb e)
    · by_cases hb : b ∈ cs.map (·.2)
      · obtain ⟨p, hp, ep, e2⟩ := isT b hb
        obtain ⟨more, hm⟩ := big p hp
        subst ep
        exact ⟨_, hm⟩
      · exact ⟨o, key b o hb e⟩
theorem law_goesT (KX : K.In s1.heap) (G1 : s1.heap.Ns mainGlobals mg) (G2 : s1.heap.Ns builtinsNs mb) (G3 : ∀ x : Str, x ≠ "__name__" → mb x = bootBuiltins x) (G4 : s1.heap.NoLimit) (G5 : s1.gens = #[])
    (hT : ∀ p ∈ cs, s1.heap.get? p.2 = some { cls := .none, data := .fields #[] }) (nT : ∀ p ∈ cs, K.lookup p.2 = none) (C : ∀ p ∈ cs, PySem.W.CodeHd s1.heap p.1 p.2)
    (hbm : ∃ (bm : Addr) (ob : Obj), mg "__builtins__" = some (.ref bm) ∧ bm ≠ builtinsNs ∧ s1.heap.get? bm = some ob ∧ ob.cls = .type "module" ∧ ob.dict = some builtinsNs ∧ ob.data = .plain)
    (scr : s1.heap.get? a = some { cls := .type "list", data := .seq us.toArray }) (hi : IntsAre us ns) (hl : ns.length ≤ sizeLine) (hr : Room k callerA) (F : ∀ base : Heap, K.In base → base.Ns mainGlobals mg → (∀ p ∈ cs, LamX.TabB base mg p.1 p.2) → FnG P w K mg base (L2.CX P w) k fa fd [x] sp)
    (bi : ∀ (st : Shared) (u : Value), BindsTo st fd ⟨[u], []⟩ [(x, u)]) (pr : ∀ H : Hp, (∀ p ∈ cs, H p.2 = some (.tbl #[])) → SqL K H a (ns.map V.int) → sp [.ref a] H (fun v _ => v = .bl true) fun _ _ _ => False) :
    codeAny (model P w) callerA (.call (.ref fa) ⟨[.ref a], []⟩) (LawEnd s1) s1 := by
  have rv := vals_ints hi
  have memT : ∀ p ∈ cs, p.2 ∈ cs.map (·.2) := fun p hp => List.mem_map.mpr ⟨p, hp, rfl⟩
  have aT : a ∉ cs.map (·.2) := fun z => by
    obtain ⟨p, hp, e⟩ := List.mem_map.mp z
    have q := hT p hp
    rw [e, scr] at q
    cases q
  have tb : ∀ b, b ∈ cs.map (·.2) → s1.heap.get? b = some { cls := .none, data := .fields #[] } := fun b hb => by
    obtain ⟨p, hp, e⟩ := List.mem_map.mp hb
    rw [← e]; exact hT p hp
  cases hk : K.lookup a with
  | some o =>
    have e := KX a o hk
    rw [scr] at e
    cases e
    obtain ⟨H, eH⟩ : ∃ H : Hp, H = fun b => if b ∈ cs.map (·.2) then some (.tbl #[]) else none := ⟨_, rfl⟩
    have at_t : ∀ b, b ∈ cs.map (·.2) → H b = some (.tbl #[]) := fun b hb => by rw [eH]; exact if_pos hb
    have at_n : ∀ b, b ∉ cs.map (·.2) → H b = none := fun b hb => by rw [eH]; exact if_neg hb
    have lay : SqL K H a (ns.map V.int) := .inr ⟨_, us.toArray, _, hk, rfl, rfl, rfl, by rw [List.size_toArray, hi.length]; exact hl, by simpa using rv⟩
    refine law_fromT (H := H) KX G1 G2 G3 G4 G5 hT nT C hbm scr hr F bi (fun b => ?_) (fun p hp => at_t _ (memT p hp)) (pr H (fun p hp => at_t _ (memT p hp)) lay) (fun b u z => ?_) (fun b z => ?_) fun z => absurd (at_n a aT) z
    · by_cases hb : b ∈ cs.map (·.2)
      · exact .inr (.inl hb)
      · exact .inl (at_n b hb)
    · by_cases hb : b ∈ cs.map (·.2)
      · rw [at_t b hb] at z; cases z
        exact tb b hb
      · rw [at_n b hb] at z; cases z
    · by_cases hb : b ∈ cs.map (·.2)
      · exact .inr hb
      · exact absurd (at_n b hb) z
  | none =>
    obtain ⟨H, eH⟩ : ∃ H : Hp, H = fun b => if b = a then some (.frz { cls := .type "list", data := .seq us.toArray } (.lst (ns.map V.int))) else if b ∈ cs.map (·.2) then some (.tbl #[]) else none := ⟨_, rfl⟩
    have at_a : H a = some (.frz { cls := .type "list", data := .seq us.toArray } (.lst (ns.map V.int))) := by rw [eH]; exact if_pos rfl
    have at_t : ∀ b, b ∈ cs.map (·.2) → H b = some (.tbl #[]) := fun b hb => by
      rw [eH]
      exact (if_neg (fun z => aT (by rw [← z]; exact hb))).trans (if_pos hb)
    have at_n : ∀ b, b ≠ a → b ∉ cs.map (·.2) → H b = none := fun b h1 hb => by rw [eH]; exact (if_neg h1).trans (if_neg hb)
    refine law_fromT KX G1 G2 G3 G4 G5 hT nT C hbm scr hr F bi (fun b => ?_) (fun p hp => at_t _ (memT p hp)) (pr H (fun p hp => at_t _ (memT p hp)) (.inl (.inr ⟨_, at_a⟩))) (fun b u z => ?_) (fun b z => ?_) fun _ => hk
    · by_cases h1 : b = a
      · subst h1; exact .inr (.inr ⟨_, _, at_a⟩)
      · by_cases hb : b ∈ cs.map (·.2)
        · exact .inr (.inl hb)
        · exact .inl (at_n b h1 hb)
    · by_cases h1 : b = a
      · subst h1
        rw [at_a] at z
        cases z
        exact ⟨scr, by rw [List.length_map]; exact hl, us, _, rv, scr⟩
      · by_cases hb : b ∈ cs.map (·.2)
        · rw [at_t b hb] at z; cases z
          exact tb b hb
        · rw [at_n b h1 hb] at z; cases z
    · by_cases h1 : b = a
      · exact .inl h1
      · by_cases hb : b ∈ cs.map (·.2)
        · exact .inr hb
        · exact absurd (at_n b h1 hb) z
end
def LawC (P : Program) (w : World) (K : PySem.W.Frag) (mg : Str → Option Value) (k : Nat) (fa : Addr) (x : Str) (h : Heap) : Prop :=
  ∃ (cs : List (Addr × Addr)) (fd : FuncData), (∀ p ∈ cs, h.get? p.2 = some { cls := .none, data := .fields #[] } ∧ K.lookup p.2 = none ∧ PySem.W.CodeHd h p.1 p.2) ∧ (∀ p ∈ tabA, ∃ c, (c, p.1) ∈ cs) ∧
    (∀ (s : Shared) (u : Value), BindsTo s fd ⟨[u], []⟩ [(x, u)]) ∧ ∀ base : Heap, K.In base → base.Ns mainGlobals mg → (∀ p ∈ cs, LamX.TabB base mg p.1 p.2) → FnG P w K mg base (L2.CX P w) k fa fd [x] (spLaw K)
theorem walkT {l : PySem.W.OpenLaw} {q : Program} {loose : List Str} {XP : (Str → Option Value) → Heap → Prop} {YP : World → Heap → Prop} {d : DefRec} {K : Params → PySem.W.Frag} {k : Nat} {x : Str} {ts : List Addr} (hn : l.most = some 63) (hdf : d.params.defaults = []) (hr : Room k callerA)
    (hY : ∀ (w : World) (h : Heap), YP w h → (K w.params).In h) (hT : ∀ (w : World) (h : Heap), YP w h → ∀ P ∈ ts, h.get? P = some { cls := .none, data := .fields #[] })
    (F : ∀ (w : World) (mg : Str → Option Value) (fa : Addr) (h : Heap), (K w.params).In h → h.Ns mainGlobals mg → (∀ P ∈ ts, h.get? P = some { cls := .none, data := .fields #[] }) → mg d.name = some (.ref fa) → LawC l.prog w (K w.params) mg k fa x h) :
    PySem.W.WalkO q loose XP YP l.row.toRowW d [] (fun f vs => PySem.call f vs) := by
  refine Att.attach_call hn hdf fun w _ s1 mg mb fa _ _ _ _ a us ns G Y _ _ _ hmg scr hi hl g0 => ?_
  have KX := hY w _ Y
  obtain ⟨cs, fd, hc, ht, bi, FF⟩ := F w mg fa _ KX G.T.g (hT w _ Y) hmg
  exact law_goesT KX G.T.g G.T.b G.T.builtins G.T.nolimit g0 (fun p hp => (hc p hp).1) (fun p hp => (hc p hp).2.1) (fun p hp => (hc p hp).2.2) G.T.bmain scr hi (Nat.le_trans hl (by decide)) hr FF bi fun H hH hS => ⟨a, ns, rfl, hS, hl, fun p hp => by
    obtain ⟨c, hp2⟩ := ht p hp
    exact ⟨LamX.TabS.nil (hH _ hp2), rfl⟩, fun _ => rfl⟩
end DL

noncomputable section
namespace DL
open PySem L2
def b_law_purse_1 : DSt → Flow := fIfS (fB (fOp (lift2 geO) (fCall absO (pCons (fOp (lift2 ixO) (fVar 1) (fVar 2)) fNil)) (fOp (lift2 powO) (fC (.int 10)) (fC (.int 18))))) (fSetIx 1 (fOp (lift2 modO) (fOp (lift2 ixO) (fVar 1) (fVar 2)) (fOp (lift2 powO) (fOp (lift2 powO) (fC (.int 10)) (fC (.int 60))) (fC (.int 20)))) (fVar 2)) fnext
abbrev o_law_purse_1 : List PyData → DSt → Flow := loopF (bName 2) b_law_purse_1
def p_law_purse : DSt → Flow := fseq (fFor (fRng1 (pCons (fCall lenO (pCons (fVar 1) fNil)) fNil)) (bName 2) b_law_purse_1) (fseq (fIfS (fB (fOp (lift2 eqO) (fVar 1) (fLst fNil))) (fSet 1 (fLst (fCons (fC (.int 0)) fNil))) fnext) (fRet (fLst (fCons (fVar 1) (fCons (fC (.int 0)) fNil)))))
def F_law_purse : List R → Pw → FRes := runF 3 1 p_law_purse
def p_law_draw : DSt → Flow := fseq (fUnP 0 2 3) (fseq (fSet 4 (fOp (lift2 modO) (fVar 3) (fLenC 2))) (fseq (fSet 5 (fIxC 2 (fVar 4))) (fseq (fSetT 0 (fOp (lift2 addO) (fVar 3) (fC (.int 1)))) (fseq (fIfS (fB (fOp (lift2 geO) (fVar 5) (fOp (lift2 powO) (fC (.int 10)) (fC (.int 18))))) (fseq (fSetC 2 (fOp (lift2 fdivO) (fVar 5) (fVar 1)) (fVar 4)) (fRet (fOp (lift2 modO) (fVar 5) (fVar 1)))) fnext) (fseq (fSet 6 (fOp (lift2 modO) (fOp (lift2 addO) (fOp (lift2 addO) (fOp (lift2 mulO) (fOp (lift2 modO) (fVar 5) (fC (.int 2147483629))) (fC (.int 48271))) (fOp (lift2 mulO) (fOp (lift2 mulO) (fVar 3) (fVar 3)) (fC (.int 69621)))) (fC (.int 11))) (fC (.int 2147483647)))) (fseq (fSet 6 (fOp (lift2 modO) (fOp (lift2 mulO) (fVar 6) (fVar 6)) (fC (.int 2147483629)))) (fseq (fSet 6 (fOp (lift2 modO) (fOp (lift2 mulO) (fVar 6) (fVar 6)) (fC (.int 2147483587)))) (fseq (fIfS (fB (fOp (lift2 gtO) (fVar 1) (fOp (lift2 powO) (fC (.int 10)) (fC (.int 9))))) (fseq (fSet 7 (fOp (lift2 modO) (fOp (lift2 addO) (fOp (lift2 addO) (fOp (lift2 mulO) (fVar 6) (fC (.int 39373))) (fOp (lift2 mulO) (fVar 3) (fC (.int 7919)))) (fC (.int 500))) (fC (.int 2147483629)))) (fSet 6 (fOp (lift2 mulO) (fVar 6) (fOp (lift2 addO) (fOp (lift2 mulO) (fOp (lift2 mulO) (fVar 7) (fVar 7)) (fVar 7)) (fC (.int 1)))))) fnext) (fRet (fOp (lift2 modO) (fVar 6) (fVar 1)))))))))))
def F_law_draw : List R → Pw → FRes := runF 8 2 p_law_draw
def WP (pa : Addr) (w : Pw) (m : Int) : Prop := ∃ (ca : Addr) (cells : List Int) (t : Int), pa ≠ ca ∧ w = some (pa, ca, cells, t) ∧ cells ≠ [] ∧ 0 ≤ t ∧ t ≤ m
theorem WP.mono {pa : Addr} {w : Pw} {m m' : Int} (h : WP pa w m) (h2 : m ≤ m') : WP pa w m' := by
  obtain ⟨ca, cells, t, ne, e, hc, t0, tm⟩ := h
  exact ⟨ca, cells, t, ne, e, hc, t0, by omega⟩
end DL

noncomputable section
namespace DL
open PySem L2
def c_law_mixed_1 : M Bool := fB (fOp (lift2 neO) (fVar 2) (fLst fNil))
def b_law_mixed_2 : DSt → Flow := fDrop (fApp 3 (fPopAt 2 (fUser F_law_draw (fCons (fVar 0) (fCons (fCall lenO (pCons (fVar 2) fNil)) fNil)))))
abbrev o_law_mixed_2 : DSt → Flow := whileF c_law_mixed_1 b_law_mixed_2 10000
def p_law_mixed : DSt → Flow := fseq (fSet 2 (fCall listO (pCons (fVar 1) fNil))) (fseq (fSet 3 (fLst fNil)) (fseq (whileF c_law_mixed_1 b_law_mixed_2 10000) (fRet (fVar 3))))
def F_law_mixed : List R → Pw → FRes := runF 4 2 p_law_mixed
def b_law_names_1 : DSt → Flow := fseq (fSet 5 (fLst (fCons (fC (.int 1)) (fCons (fOp (lift2 addO) (fC (.int 1)) (fUser F_law_draw (fCons (fVar 0) (fCons (fC (.int 3)) fNil)))) (fCons (fOp (lift2 addO) (fC (.int 1)) (fUser F_law_draw (fCons (fVar 0) (fCons (fOp (lift2 powO) (fC (.int 10)) (fC (.int 28))) fNil)))) fNil))))) (fseq (fSet 3 (fOp (lift2 addO) (fVar 3) (fOp (lift2 ixO) (fVar 5) (fOp (lift2 fdivO) (fUser F_law_draw (fCons (fVar 0) (fCons (fC (.int 6)) fNil))) (fC (.int 2)))))) (fDrop (fApp 2 (fVar 3))))
abbrev o_law_names_1 : List PyData → DSt → Flow := loopF (bName 4) b_law_names_1
def p_law_names : DSt → Flow := fseq (fSet 2 (fLst fNil)) (fseq (fSet 3 (fUn (lift1 negO) (fC (.int 1)))) (fseq (fFor (fRng1 (pCons (fVar 1) fNil)) (bName 4) b_law_names_1) (fRet (fVar 2))))
def F_law_names : List R → Pw → FRes := runF 6 2 p_law_names
/-! drawn lists -/
end DL

noncomputable section
namespace DL
open PySem L2
def p_is_number : DSt → Flow := fRet (fAndV (fIsi "int" (fVar 0)) (fV (fNot (fB (fIsi "bool" (fVar 0))))))
def F_is_number : List R → Pw → FRes := runF 1 1 p_is_number
def e_are_unlike_names_1 : M R := fAndV (fUser F_is_number (fCons (fVar 1) fNil)) (fOp (lift2 geO) (fVar 1) (fC (.int 0)))
abbrev l_are_unlike_names_1 : M R := fLc (fLstI (fVar 0)) (bName 1) fYes (e_are_unlike_names_1) [1]
def p_are_unlike_names : DSt → Flow := fseq (fIfS (fOr (fNot (fB (fIsi "list" (fVar 0)))) (fNot (fB (fCall allO (pCons (fLc (fLstI (fVar 0)) (bName 1) fYes (e_are_unlike_names_1) [1]) fNil))))) (fRet (fC (.bool false))) fnext) (fRet (fOp (lift2 eqO) (fLenSet (fVar 0)) (fCall lenO (pCons (fVar 0) fNil))))
def F_are_unlike_names : List R → Pw → FRes := runF 2 1 p_are_unlike_names
def p_is_ranking : DSt → Flow := fRet (fAndV (fUser F_are_unlike_names (fCons (fVar 0) fNil)) (fAndV (fOp (lift2 gtO) (fCall lenO (pCons (fVar 0) fNil)) (fC (.int 0))) (fOp (lift2 leO) (fCall lenO (pCons (fVar 0) fNil)) (fC (.int 10)))))
def F_is_ranking : List R → Pw → FRes := runF 1 1 p_is_ranking
def p_must_be_ranking : DSt → Flow := fIfS (fNot (fB (fUser F_is_ranking (fCons (fVar 0) fNil)))) (fRaise "NoRanking") fnext
def F_must_be_ranking : List R → Pw → FRes := runF 1 1 p_must_be_ranking
def p_is_ahead : DSt → Flow := fRet (fOp (lift2 ltO) (fIndex (fVar 0) (fVar 1)) (fIndex (fVar 0) (fVar 2)))
def F_is_ahead : List R → Pw → FRes := runF 3 3 p_is_ahead
def p_ahead : DSt → Flow := fseq (fDrop (fUser F_must_be_ranking (fCons (fVar 0) fNil))) (fseq (fIfS (fOr (fB (fOp (lift2 notInO) (fVar 1) (fVar 0))) (fOr (fB (fOp (lift2 notInO) (fVar 2) (fVar 0))) (fB (fOp (lift2 eqO) (fVar 1) (fVar 2))))) (fRaise "NoNames") fnext) (fRet (fUser F_is_ahead (fCons (fVar 0) (fCons (fVar 1) (fCons (fVar 2) fNil))))))
def F_ahead : List R → Pw → FRes := runF 3 3 p_ahead
def e_places_of_pairs_1 : M R := fTup (fCons (fVar 2) (fCons (fVar 3) fNil))
abbrev l_places_of_pairs_1 : M R := fLc (fRng2 (pCons (fOp (lift2 addO) (fVar 2) (fC (.int 1))) (pCons (fVar 0) fNil))) (bName 3) fYes (e_places_of_pairs_1) [3]
def b_places_of_pairs_2 : DSt → Flow := fSet 1 (fOp (lift2 addO) (fVar 1) (fLc (fRng2 (pCons (fOp (lift2 addO) (fVar 2) (fC (.int 1))) (pCons (fVar 0) fNil))) (bName 3) fYes (e_places_of_pairs_1) [3]))
abbrev o_places_of_pairs_2 : List PyData → DSt → Flow := loopF (bName 2) b_places_of_pairs_2
def p_places_of_pairs : DSt → Flow := fseq (fSet 1 (fLst fNil)) (fseq (fFor (fRng1 (pCons (fVar 0) fNil)) (bName 2) b_places_of_pairs_2) (fRet (fVar 1)))
def F_places_of_pairs : List R → Pw → FRes := runF 4 1 p_places_of_pairs
def e_pairs_of_1 : M R := fTup (fCons (fOp (lift2 ixO) (fVar 0) (fVar 1)) (fCons (fOp (lift2 ixO) (fVar 0) (fVar 2)) fNil))
abbrev l_pairs_of_1 : M R := fLc (fLstI (fUser F_places_of_pairs (fCons (fCall lenO (pCons (fVar 0) fNil)) fNil))) (bTup 2 (bCons (bName 1) (bCons (bName 2) bNil))) fYes (e_pairs_of_1) [1, 2]
def p_pairs_of : DSt → Flow := fRet (fLc (fLstI (fUser F_places_of_pairs (fCons (fCall lenO (pCons (fVar 0) fNil)) fNil))) (bTup 2 (bCons (bName 1) (bCons (bName 2) bNil))) fYes (e_pairs_of_1) [1, 2])
def F_pairs_of : List R → Pw → FRes := runF 3 1 p_pairs_of
def t_many_unlike_1 : M Bool := fNot (fB (fUser F_is_ahead (fCons (fVar 1) (fCons (fOp (lift2 ixO) (fVar 2) (fC (.int 0))) (fCons (fOp (lift2 ixO) (fVar 2) (fC (.int 1))) fNil)))))
def e_many_unlike_2 : M R := fVar 2
abbrev l_many_unlike_2 : M R := fLc (fLstI (fUser F_pairs_of (fCons (fVar 0) fNil))) (bName 2) (t_many_unlike_1) (e_many_unlike_2) [2]
def p_many_unlike : DSt → Flow := fRet (fCall lenO (pCons (fLc (fLstI (fUser F_pairs_of (fCons (fVar 0) fNil))) (bName 2) (t_many_unlike_1) (e_many_unlike_2) [2]) fNil))
def F_many_unlike : List R → Pw → FRes := runF 3 2 p_many_unlike
def b_must_be_alike_named_1 : DSt → Flow := fDrop (fUser F_must_be_ranking (fCons (fVar 1) fNil))
abbrev o_must_be_alike_named_1 : List PyData → DSt → Flow := loopF (bName 1) b_must_be_alike_named_1
def e_must_be_alike_named_2 : M R := fOp (lift2 eqO) (fCall sortedO (pCons (fVar 1) fNil)) (fCall sortedO (pCons (fOp (lift2 ixO) (fVar 0) (fC (.int 0))) fNil))
abbrev l_must_be_alike_named_2 : M R := fLc (fLstI (fVar 0)) (bName 1) fYes (e_must_be_alike_named_2) [1]
def p_must_be_alike_named : DSt → Flow := fseq (fFor (fLstI (fVar 0)) (bName 1) b_must_be_alike_named_1) (fIfS (fNot (fB (fCall allO (pCons (fLc (fLstI (fVar 0)) (bName 1) fYes (e_must_be_alike_named_2) [1]) fNil)))) (fRaise "NoFit") fnext)
def F_must_be_alike_named : List R → Pw → FRes := runF 2 1 p_must_be_alike_named
def p_unlike : DSt → Flow := fseq (fDrop (fUser F_must_be_alike_named (fCons (fLst (fCons (fVar 0) (fCons (fVar 1) fNil))) fNil))) (fRet (fUser F_many_unlike (fCons (fVar 0) (fCons (fVar 1) fNil))))
def F_unlike : List R → Pw → FRes := runF 2 2 p_unlike
def Rank (ns : List Int) : Prop := ns.Nodup ∧ (∀ x ∈ ns, 0 ≤ x) ∧ 0 < ns.length ∧ ns.length ≤ 10
theorem Rank.perm {ns ms : List Int} (h : Rank ns) (p : ms.Perm ns) : Rank ms := ⟨p.nodup_iff.mpr h.1, fun x hx => h.2.1 x (p.mem_iff.mp hx), by rw [p.length_eq]; exact h.2.2.1, by rw [p.length_eq]; exact h.2.2.2⟩
@[simp] theorem is_number_int {n : Int} {w : Pw} : F_is_number [.val (.int n)] w = .ok (.val (.bool true)) w := by
  unfold F_is_number p_is_number
  simp -implicitDefEqProofs [x_runF]
theorem unlike_names_ok {ns : List Int} {w : Pw} (h1 : ns.Nodup) (h2 : ∀ x ∈ ns, 0 ≤ x) (hl : ns.length ≤ 4000) : F_are_unlike_names [.val (.list (ns.map .int))] w = .ok (.val (.bool true)) w := by
  have e : fLc (fLstI (fVar 0)) (bName 1) fYes e_are_unlike_names_1 [1] ⟨[.val (.list (ns.map .int)), .no], w⟩ = .ok (.new (ns.map fun x => .bool (decide (0 ≤ x)))) ⟨[.val (.list (ns.map .int)), .no], w⟩ := by
    refine lc_all (fun a : Int => ⟨[.val (.list (ns.map .int)), .val (.int a)], w⟩) _ (f := .int) (l := ns) (by simp -implicitDefEqProofs) (by omega) rfl (fun a _ => by rfl) (fun a _ => by rfl) (fun a _ => ?_)
    unfold e_are_unlike_names_1
    simp -implicitDefEqProofs
  have e2 : (ns.map fun x : Int => decide (0 ≤ x)).all id = true := by
    simpa using h2
  have e3 : ns.length ≤ 4000 := hl
  have e4 := nub_len h1
  unfold F_are_unlike_names p_are_unlike_names
  simp only [x_runF]
  simp -implicitDefEqProofs [e, boolsD_map', e2, e3, e4]
theorem is_ranking_ok {ns : List Int} {w : Pw} (h : Rank ns) : F_is_ranking [.val (.list (ns.map .int))] w = .ok (.val (.bool true)) w := by
  obtain ⟨h1, h2, h3, h4⟩ := h
  unfold F_is_ranking p_is_ranking
  simp only [x_runF]
  have h4' : (ns.length : Int) ≤ 10 := by omega
  simp -implicitDefEqProofs [unlike_names_ok h1 h2 (by omega), h3, h4']
/-! ### pairs of places -/
def places (n : Nat) : List (Nat × Nat) := (List.range n).flatMap fun k => (List.range (n - (k + 1))).map fun j => (k, k + 1 + j)
def plD (p : Nat × Nat) : PyData := .tuple [.int (p.1 : Int), .int (p.2 : Int)]
def pairsI (ns : List Int) : List (Int × Int) := (places ns.length).map fun p => (ns.getD p.1 0, ns.getD p.2 0)
def prD (p : Int × Int) : PyData := .tuple [.int p.1, .int p.2]
def manyI (one other : List Int) : Nat := ((pairsI one).filter fun p => !decide (other.idxOf p.1 < other.idxOf p.2)).length
theorem sortI_perm_eq {a b : List Int} (h : a.Perm b) : sortI a = sortI b := sortI_eq ((sortI_perm a).trans h) (sortI_le a)
end DL

noncomputable section
namespace DL
open PySem L2
def p_law_many : DSt → Flow := fRet (fOp (lift2 addO) (fC (.int 1)) (fUser F_law_draw (fCons (fVar 0) (fCons (fOp (lift2 ixO) (fLst (fCons (fC (.int 4)) (fCons (fC (.int 7)) (fCons (fC (.int 10)) fNil)))) (fUser F_law_draw (fCons (fVar 0) (fCons (fC (.int 3)) fNil)))) fNil))))
def F_law_many : List R → Pw → FRes := runF 1 1 p_law_many
def cntP (one other : List Int) (a b : Int) : Bool := decide (one.idxOf a < one.idxOf b ∧ other.idxOf b < other.idxOf a)
def cnt2 (one other : List Int) (a : Int) : Nat := (one.filter (cntP one other a)).length
theorem nodup_idx {ns : List Int} (h : ns.Nodup) {i : Nat} (hi : i < ns.length) : ns.idxOf (ns.getD i 0) = i := by
  have e : ns.getD i 0 = ns[i] := by simp [List.getD_eq_getElem?_getD, List.getElem?_eq_getElem hi]
  rw [e]
  exact h.idxOf_getElem i hi
/-! ### twofold sums -/
def dbl (l : List Int) (f : Int → Int → Nat) : Nat := (l.map fun x => (l.map (f x)).sum).sum
def ah (r : List Int) (x y : Int) : Bool := decide (r.idxOf x < r.idxOf y)
theorem idx_inj {r : List Int} {x y : Int} (hx : x ∈ r) (hy : y ∈ r) (h : r.idxOf x = r.idxOf y) : x = y := by
  have e4 := List.getElem_idxOf (List.idxOf_lt_length_iff.mpr hx)
  have e5 := List.getElem_idxOf (List.idxOf_lt_length_iff.mpr hy)
  rw [← e4, ← e5]
  congr 1
def uq (a b : List Int) (x y : Int) : Nat := if ah a x y = ah b x y then 0 else 1
end DL

noncomputable section
namespace DL
open PySem L2

/-! ### falling along a line: the plain law -/
def cvx (L Q : List Int) : Prop := ∀ u ∈ Q, ∀ v ∈ Q, ∀ t ∈ L, L.idxOf u < L.idxOf t → L.idxOf t < L.idxOf v → t ∈ Q
def noV (L r : List Int) : Prop := ∀ u ∈ L, ∀ t ∈ L, ∀ v ∈ L, L.idxOf u < L.idxOf t → L.idxOf t < L.idxOf v → ¬ (r.idxOf u < r.idxOf t ∧ r.idxOf v < r.idxOf t)
theorem mem_take_idx {r : List Int} {t : Int} {m : Nat} : t ∈ r.take m ↔ t ∈ r ∧ r.idxOf t < m := by
  induction r generalizing m with
  | nil => simp
  | cons a r ih =>
    cases m with
    | zero => simp
    | succ m =>
      rw [List.take_succ_cons, List.mem_cons, List.mem_cons, ih, List.idxOf_cons]
      by_cases h : t = a
      · subst h
        simp
      · have : (a == t) = false := by simpa using fun e => h e.symm
        rw [this]
        simp [h]
theorem noV_cvx {L r : List Int} (hp : L.Perm r) : noV L r ↔ ∀ m, cvx L (r.take m) := by
  constructor
  · intro h m u hu v hv t ht h1 h2
    rw [mem_take_idx] at hu hv ⊢
    refine ⟨hp.mem_iff.mp ht, ?_⟩
    have := h u (hp.mem_iff.mpr hu.1) t ht v (hp.mem_iff.mpr hv.1) h1 h2
    omega
  · intro h u hu t ht v hv h1 h2 h3
    have hc := h (max (r.idxOf u) (r.idxOf v) + 1) u (mem_take_idx.mpr ⟨hp.mem_iff.mp hu, by omega⟩) v (mem_take_idx.mpr ⟨hp.mem_iff.mp hv, by omega⟩) t ht h1 h2
    have := (mem_take_idx.mp hc).2
    omega
theorem noV_rev {L r : List Int} (hL : L.Nodup) : noV L.reverse r ↔ noV L r := by
  have ix : ∀ x ∈ L, L.reverse.idxOf x = L.length - 1 - L.idxOf x := fun x hx => by
    have hi := List.idxOf_lt_length_iff.mpr hx
    have e : L.getD (L.idxOf x) 0 = x := by
      simp only [List.getD_eq_getElem?_getD, List.getElem?_eq_getElem hi]
      exact List.getElem_idxOf hi
    have hr : L.reverse.Nodup := (List.reverse_perm L).nodup_iff.mpr hL
    have e2 : L.getD (L.idxOf x) 0 = L.reverse.getD (L.length - 1 - L.idxOf x) 0 := by
      simp only [List.getD_eq_getElem?_getD]
      rw [List.getElem?_reverse (by omega)]
      congr 2
      omega
    have := nodup_idx hr (i := L.length - 1 - L.idxOf x) (by simp; omega)
    rw [← e2, e] at this
    exact this
  unfold noV
  constructor
  · intro h u hu t ht v hv h1 h2 h3
    have lu := List.idxOf_lt_length_iff.mpr hu
    have lt := List.idxOf_lt_length_iff.mpr ht
    have lv := List.idxOf_lt_length_iff.mpr hv
    exact h v (by simpa using hv) t (by simpa using ht) u (by simpa using hu) (by rw [ix v hv, ix t ht]; omega) (by rw [ix t ht, ix u hu]; omega) ⟨h3.2, h3.1⟩
  · intro h u hu t ht v hv h1 h2 h3
    have hu : u ∈ L := by simpa using hu
    have ht : t ∈ L := by simpa using ht
    have hv : v ∈ L := by simpa using hv
    have lu := List.idxOf_lt_length_iff.mpr hu
    have lt := List.idxOf_lt_length_iff.mpr ht
    have lv := List.idxOf_lt_length_iff.mpr hv
    rw [ix u hu, ix t ht] at h1
    rw [ix t ht, ix v hv] at h2
    exact h v hv t ht u hu (by omega) (by omega) ⟨h3.2, h3.1⟩
def goB (ok : List Int → Int → Bool) : List Int → List Int → Bool
  | _, [] => true
  | Q, a :: l => ok Q a && goB ok (Q ++ [a]) l
theorem goB_cvx {L : List Int} {ok : List Int → Int → Bool} : ∀ (l Q : List Int), (∀ (Q : List Int) (a : Int), Q ≠ [] → (Q ++ [a]).Nodup → (∀ x ∈ Q ++ [a], x ∈ L) → cvx L Q → (ok Q a = true ↔ cvx L (Q ++ [a]))) → Q ≠ [] → (Q ++ l).Nodup → (∀ x ∈ Q ++ l, x ∈ L) → cvx L Q → (goB ok Q l = true ↔ ∀ m, cvx L (Q ++ l.take m))
  | [], Q, _, _, _, _, hc => by simp [goB, hc]
  | a :: l, Q, h, h0, hn, hm, hc => by
    have e : Q ++ a :: l = (Q ++ [a]) ++ l := by simp
    have hn1 : (Q ++ [a]).Nodup := by
      rw [e] at hn
      exact (List.nodup_append.mp hn).1
    have hm1 : ∀ x ∈ Q ++ [a], x ∈ L := fun x hx => hm x (by rw [e]; exact List.mem_append_left _ hx)
    have k := h Q a h0 hn1 hm1 hc
    unfold goB
    rw [Bool.and_eq_true, k]
    constructor
    · rintro ⟨c1, c2⟩ m
      cases m with
      | zero => simpa using hc
      | succ m =>
        have := (goB_cvx l (Q ++ [a]) h (by simp) (by rw [← e]; exact hn) (by rw [← e]; exact hm) c1).mp c2 m
        simpa using this
    · intro c
      have c1 : cvx L (Q ++ [a]) := by simpa using c 1
      refine ⟨c1, (goB_cvx l (Q ++ [a]) h (by simp) (by rw [← e]; exact hn) (by rw [← e]; exact hm) c1).mpr fun m => ?_⟩
      simpa using c (m + 1)
/-! least and greatest places -/
def plI (L : List Int) (x : Int) : Int := (L.idxOf x : Nat)
theorem maxI_facts {l : List Int} (h : l ≠ []) : (∀ y ∈ l, y ≤ maxI l) ∧ maxI l ∈ l := by
  match l, h with
  | n :: ns, _ =>
    obtain ⟨h1, h2, h3⟩ := foldl_max_ge ns n
    refine ⟨fun y hy => ?_, ?_⟩
    · rcases List.mem_cons.mp hy with rfl | hy
      · exact h1
      · exact h2 y hy
    · rcases h3 with h3 | h3
      · show ns.foldl max n ∈ _
        rw [h3]
        exact List.mem_cons_self
      · exact List.mem_cons_of_mem _ h3
theorem minI_facts {l : List Int} (h : l ≠ []) : (∀ y ∈ l, minI l ≤ y) ∧ minI l ∈ l := by
  match l, h with
  | n :: ns, _ =>
    obtain ⟨h1, h2, h3⟩ := foldl_min_le ns n
    refine ⟨fun y hy => ?_, ?_⟩
    · rcases List.mem_cons.mp hy with rfl | hy
      · exact h1
      · exact h2 y hy
    · rcases h3 with h3 | h3
      · show ns.foldl min n ∈ _
        rw [h3]
        exact List.mem_cons_self
      · exact List.mem_cons_of_mem _ h3
theorem maxI_snoc {l : List Int} {p : Int} (h : l ≠ []) : maxI (l ++ [p]) = max (maxI l) p := by
  match l, h with
  | n :: ns, _ =>
    show (ns ++ [p]).foldl max n = _
    rw [List.foldl_append]
    rfl
theorem minI_snoc {l : List Int} {p : Int} (h : l ≠ []) : minI (l ++ [p]) = min (minI l) p := by
  match l, h with
  | n :: ns, _ =>
    show (ns ++ [p]).foldl min n = _
    rw [List.foldl_append]
    rfl
theorem at_place {L : List Int} (hL : L.Nodup) {k : Int} (h0 : 0 ≤ k) (h1 : k < L.length) : ∃ t ∈ L, plI L t = k := by
  have hk : k.toNat < L.length := by omega
  refine ⟨L.getD k.toNat 0, ?_, ?_⟩
  · simp only [List.getD_eq_getElem?_getD, List.getElem?_eq_getElem hk]
    exact List.getElem_mem _
  · unfold plI
    rw [nodup_idx hL hk]
    omega
theorem pl_lt {L : List Int} {x : Int} (h : x ∈ L) : 0 ≤ plI L x ∧ plI L x < L.length := by
  have := List.idxOf_lt_length_iff.mpr h
  unfold plI
  omega
theorem pl_inj {L : List Int} {x y : Int} (hx : x ∈ L) (hy : y ∈ L) (h : plI L x = plI L y) : x = y := idx_inj hx hy (by unfold plI at h; omega)
theorem stretch {L Q : List Int} (h0 : Q ≠ []) (hm : ∀ x ∈ Q, x ∈ L) (hc : cvx L Q) {t : Int} (ht : t ∈ L) : t ∈ Q ↔ minI (Q.map (plI L)) ≤ plI L t ∧ plI L t ≤ maxI (Q.map (plI L)) := by
  have hne : Q.map (plI L) ≠ [] := by simpa using h0
  obtain ⟨a1, a2⟩ := minI_facts hne
  obtain ⟨b1, b2⟩ := maxI_facts hne
  constructor
  · intro h
    have := List.mem_map_of_mem (f := plI L) h
    exact ⟨a1 _ this, b1 _ this⟩
  · rintro ⟨h1, h2⟩
    obtain ⟨u, hu, eu⟩ := List.mem_map.mp a2
    obtain ⟨v, hv, ev⟩ := List.mem_map.mp b2
    by_cases e1 : plI L u = plI L t
    · rw [← pl_inj (hm u hu) ht e1]
      exact hu
    · by_cases e2 : plI L v = plI L t
      · rw [← pl_inj (hm v hv) ht e2]
        exact hv
      · refine hc u hu v hv t ht ?_ ?_ <;> unfold plI at * <;> omega
def ok1 (L : List Int) (Q : List Int) (a : Int) : Bool := decide (plI L a = minI (Q.map (plI L)) - 1) || decide (plI L a = maxI (Q.map (plI L)) + 1)
theorem ok1_cvx {L : List Int} (hL : L.Nodup) (Q : List Int) (a : Int) (h0 : Q ≠ []) (hn : (Q ++ [a]).Nodup) (hm : ∀ x ∈ Q ++ [a], x ∈ L) (hc : cvx L Q) : ok1 L Q a = true ↔ cvx L (Q ++ [a]) := by
  have hmQ : ∀ x ∈ Q, x ∈ L := fun x hx => hm x (List.mem_append_left _ hx)
  have ha : a ∈ L := hm a (by simp)
  have st := fun {t : Int} (ht : t ∈ L) => stretch h0 hmQ hc ht
  have naQ : a ∉ Q := fun h => by
    have := (List.nodup_append.mp hn).2.2 a h a (by simp)
    exact this rfl
  have hne : Q.map (plI L) ≠ [] := by simpa using h0
  obtain ⟨a1, a2⟩ := minI_facts hne
  obtain ⟨b1, b2⟩ := maxI_facts hne
  obtain ⟨u0, hu0, eu0⟩ := List.mem_map.mp a2
  obtain ⟨v0, hv0, ev0⟩ := List.mem_map.mp b2
  have out := fun h => naQ ((st ha).mpr h)
  have lohi : minI (Q.map (plI L)) ≤ maxI (Q.map (plI L)) := b1 _ a2
  obtain ⟨lo, hlo⟩ : ∃ lo, lo = minI (Q.map (plI L)) := ⟨_, rfl⟩
  obtain ⟨hi, hhi⟩ : ∃ hi, hi = maxI (Q.map (plI L)) := ⟨_, rfl⟩
  rw [← hlo, ← hhi] at st out lohi
  rw [← hlo] at eu0
  rw [← hhi] at ev0
  unfold ok1
  rw [← hlo, ← hhi]
  simp only [Bool.or_eq_true, decide_eq_true_eq]
  constructor
  · intro h u hu v hv t ht h1 h2
    rw [List.mem_append, List.mem_singleton] at hu hv ⊢
    have h1' : plI L u < plI L t := by unfold plI; omega
    have h2' : plI L t < plI L v := by unfold plI; omega
    rcases hu with hu | rfl <;> rcases hv with hv | rfl
    · exact .inl (hc u hu v hv t ht h1 h2)
    · have q := (st (hmQ u hu)).mp hu
      left
      rw [st ht]
      omega
    · have q := (st (hmQ v hv)).mp hv
      left
      rw [st ht]
      omega
    · omega
  · intro h
    refine Classical.byContradiction fun hno => ?_
    have pa := pl_lt ha
    have pu := pl_lt (hmQ u0 hu0)
    have pv := pl_lt (hmQ v0 hv0)
    by_cases hl : plI L a < lo
    · obtain ⟨t, ht, et⟩ := at_place hL (k := lo - 1) (by omega) (by omega)
      have := h a (by simp) u0 (List.mem_append_left _ hu0) t ht (by unfold plI at *; omega) (by unfold plI at *; omega)
      rw [List.mem_append, List.mem_singleton] at this
      rcases this with q | rfl
      · have := (st ht).mp q
        omega
      · omega
    · have hgt : hi < plI L a := by
        by_cases z : plI L a ≤ hi
        · exact (out ⟨by omega, z⟩).elim
        · omega
      obtain ⟨t, ht, et⟩ := at_place hL (k := hi + 1) (by omega) (by omega)
      have := h v0 (List.mem_append_left _ hv0) a (by simp) t ht (by unfold plI at *; omega) (by unfold plI at *; omega)
      rw [List.mem_append, List.mem_singleton] at this
      rcases this with q | rfl
      · have := (st ht).mp q
        omega
      · omega
def ok2 (L : List Int) (Q : List Int) (a : Int) : Bool := decide (maxI ((Q ++ [a]).map (plI L)) - minI ((Q ++ [a]).map (plI L)) = ((Q ++ [a]).length : Int) - 1)
end DL

noncomputable section
namespace DL
open PySem L2
def p_is_line : DSt → Flow := fRet (fUser F_is_ranking (fCons (fVar 0) fNil))
def F_is_line : List R → Pw → FRes := runF 1 1 p_is_line
def p_must_be_line : DSt → Flow := fIfS (fNot (fB (fUser F_is_line (fCons (fVar 0) fNil)))) (fRaise "NoLine") fnext
def F_must_be_line : List R → Pw → FRes := runF 1 1 p_must_be_line
def p_must_be_on : DSt → Flow := fseq (fDrop (fUser F_must_be_line (fCons (fVar 0) fNil))) (fseq (fDrop (fUser F_must_be_ranking (fCons (fVar 1) fNil))) (fIfS (fB (fOp (lift2 neO) (fCall sortedO (pCons (fVar 0) fNil)) (fCall sortedO (pCons (fVar 1) fNil)))) (fRaise "NoFit") fnext))
def F_must_be_on : List R → Pw → FRes := runF 2 2 p_must_be_on
def b_does_fall_1 : DSt → Flow := fseq (fSet 5 (fIndex (fVar 0) (fVar 4))) (fseq (fIfS (fAnd (fB (fOp (lift2 neO) (fVar 5) (fOp (lift2 subO) (fVar 2) (fC (.int 1))))) (fB (fOp (lift2 neO) (fVar 5) (fOp (lift2 addO) (fVar 3) (fC (.int 1)))))) (fRet (fC (.bool false))) fnext) (fseq (fSet 2 (fCall minO (pCons (fVar 2) (pCons (fVar 5) fNil)))) (fSet 3 (fCall maxO (pCons (fVar 3) (pCons (fVar 5) fNil))))))
abbrev o_does_fall_1 : List PyData → DSt → Flow := loopF (bName 4) b_does_fall_1
def p_does_fall : DSt → Flow := fseq (fSet 2 (fIndex (fVar 0) (fOp (lift2 ixO) (fVar 1) (fC (.int 0))))) (fseq (fSet 3 (fVar 2)) (fseq (fFor (fLstI (fSlice (fVar 1) (fPart (fC (.int 1))) fNoPart)) (bName 4) b_does_fall_1) (fRet (fC (.bool true)))))
def F_does_fall : List R → Pw → FRes := runF 6 2 p_does_fall
def p_falls : DSt → Flow := fseq (fDrop (fUser F_must_be_on (fCons (fVar 0) (fCons (fVar 1) fNil)))) (fRet (fUser F_does_fall (fCons (fVar 0) (fCons (fVar 1) fNil))))
def F_falls : List R → Pw → FRes := runF 2 2 p_falls
def b_law_falls_1 : DSt → Flow := fseq (fDrop (fApp 2 (fIndex (fVar 0) (fVar 3)))) (fIfS (fB (fOp (lift2 neO) (fOp (lift2 subO) (fCall maxO (pCons (fVar 2) fNil)) (fCall minO (pCons (fVar 2) fNil))) (fOp (lift2 subO) (fCall lenO (pCons (fVar 2) fNil)) (fC (.int 1))))) (fRet (fC (.bool false))) fnext)
abbrev o_law_falls_1 : List PyData → DSt → Flow := loopF (bName 3) b_law_falls_1
def p_law_falls : DSt → Flow := fseq (fSet 2 (fLst fNil)) (fseq (fFor (fLstI (fVar 1)) (bName 3) b_law_falls_1) (fRet (fC (.bool true))))
def F_law_falls : List R → Pw → FRes := runF 4 2 p_law_falls
def c_law_falling_1 : M Bool := fB (fOp (lift2 neO) (fVar 2) (fLst fNil))
def b_law_falling_2 : DSt → Flow := fDrop (fApp 3 (fPopAt 2 (fOp (lift2 mulO) (fOp (lift2 subO) (fCall lenO (pCons (fVar 2) fNil)) (fC (.int 1))) (fUser F_law_draw (fCons (fVar 0) (fCons (fC (.int 2)) fNil))))))
abbrev o_law_falling_2 : DSt → Flow := whileF c_law_falling_1 b_law_falling_2 10000
def p_law_falling : DSt → Flow := fseq (fSet 2 (fCall listO (pCons (fVar 1) fNil))) (fseq (fSet 3 (fLst fNil)) (fseq (whileF c_law_falling_1 b_law_falling_2 10000) (fRet (fUn (lift1 revO) (fVar 3)))))
def F_law_falling : List R → Pw → FRes := runF 4 2 p_law_falling
theorem must_line_ok {ns : List Int} {w : Pw} (h : Rank ns) : F_must_be_line [.val (.list (ns.map .int))] w = .ok (.val .none) w := by
  have e : F_is_line [.val (.list (ns.map .int))] w = .ok (.val (.bool true)) w := by
    unfold F_is_line p_is_line
    simp only [x_runF]
    simp -implicitDefEqProofs [is_ranking_ok h]
  unfold F_must_be_line p_must_be_line
  simp only [x_runF]
  simp -implicitDefEqProofs [e]
theorem goB_foldS {β : Type} {ok : List Int → Int → Bool} {step : β → Int → Sum β R} {st : List Int → β} {r : R} : ∀ (l Q : List Int), (∀ Q a, Q ≠ [] → step (st Q) a = if ok Q a = true then .inl (st (Q ++ [a])) else .inr r) → Q ≠ [] → foldS step (st Q) l = if goB ok Q l = true then .inl (st (Q ++ l)) else .inr r
  | [], Q, _, _ => by simp [foldS, goB]
  | a :: l, Q, h, h0 => by
    have ih := goB_foldS l (Q ++ [a]) h (by simp)
    unfold foldS goB
    rw [h Q a h0]
    cases k : ok Q a with
    | true =>
      simp only [if_true, Bool.true_and]
      rw [ih]
      simp
    | false => simp
def fallB (L r : List Int) : Bool := @decide (noV L r) (Classical.propDecidable _)
theorem fallB_iff {L r : List Int} : fallB L r = true ↔ noV L r := by unfold fallB; simp
theorem cvx_one {L : List Int} {x : Int} : cvx L [x] := by
  intro u hu v hv t ht h1 h2
  simp at hu hv
  subst hu hv
  omega
theorem goB_fall {L r : List Int} {x : Int} {l : List Int} {ok : List Int → Int → Bool} (hL : L.Nodup) (hp : r.Perm L) (hr : r = x :: l) (h : ∀ (Q : List Int) (a : Int), Q ≠ [] → (Q ++ [a]).Nodup → (∀ x ∈ Q ++ [a], x ∈ L) → cvx L Q → (ok Q a = true ↔ cvx L (Q ++ [a]))) : goB ok [x] l = fallB L r := by
  rw [Bool.eq_iff_iff, fallB_iff, noV_cvx hp.symm, hr]
  have hn : ([x] ++ l).Nodup := by
    have := hp.nodup_iff.mpr hL
    rw [hr] at this
    exact this
  have hm : ∀ y ∈ [x] ++ l, y ∈ L := fun y hy => hp.mem_iff.mp (by rw [hr]; exact hy)
  rw [goB_cvx l [x] h (by simp) hn hm cvx_one]
  constructor
  · intro k m
    cases m with
    | zero =>
      intro u hu
      simp at hu
    | succ m => simpa using k m
  · intro k m
    simpa using k (m + 1)
theorem does_fall_ok {L r : List Int} {w : Pw} (hL : Rank L) (hp : r.Perm L) : F_does_fall [.val (.list (L.map .int)), .val (.list (r.map .int))] w = .ok (.val (.bool (fallB L r))) w := by
  obtain ⟨x, l, hr⟩ : ∃ x l, r = x :: l := by
    cases r with
    | nil => have := hp.length_eq; have := hL.2.2.1; simp at *; omega
    | cons x l => exact ⟨x, l, rfl⟩
  have hx : x ∈ L := hp.mem_iff.mp (by rw [hr]; simp)
  have hl : ∀ y ∈ l, y ∈ L := fun y hy => hp.mem_iff.mp (by rw [hr]; exact List.mem_cons_of_mem _ hy)
  have key := loopS (b := bName 4) (p := b_does_fall_1) (f := .int) (l := l) (s := ⟨[.val (.list (L.map .int)), .val (.list (r.map .int)), .val (.int (plI L x)), .val (.int (plI L x)), .no, .no], w⟩) (x := (plI L x, plI L x))
    (fun (s : Int × Int) a => if (decide (plI L a = s.1 - 1) || decide (plI L a = s.2 + 1)) = true then .inl (min s.1 (plI L a), max s.2 (plI L a)) else .inr (.val (.bool false)))
    (fun z s => ∃ v4 v5, s = ⟨[.val (.list (L.map .int)), .val (.list (r.map .int)), .val (.int z.1), .val (.int z.2), v4, v5], w⟩) (fun _ s => s.w = w) ⟨_, _, rfl⟩ (by
      rintro a ha ⟨lo, hi⟩ s ⟨v4, v5, rfl⟩
      have hi' := idxO_mem (hl a ha)
      unfold b_does_fall_1
      by_cases h1 : plI L a = lo - 1
      · have e1 : ((L.idxOf a : Nat) : Int) = lo - 1 := h1
        refine ⟨fun y e => ?_, fun q e => ?_⟩
        · simp [h1] at e
          subst e
          simp -implicitDefEqProofs [hi', e1]
          constructor <;> split <;> omega
        · simp [h1] at e
      · by_cases h2 : plI L a = hi + 1
        · have e2 : ((L.idxOf a : Nat) : Int) = hi + 1 := h2
          refine ⟨fun y e => ?_, fun q e => ?_⟩
          · simp [h2] at e
            subst e
            simp -implicitDefEqProofs [hi', e2]
            constructor <;> split <;> omega
          · simp [h2] at e
        · have e1 : ¬ ((L.idxOf a : Nat) : Int) = lo - 1 := h1
          have e2 : ¬ ((L.idxOf a : Nat) : Int) = hi + 1 := h2
          refine ⟨fun y e => ?_, fun q e => ?_⟩
          · simp [h1, h2] at e
          · simp [h1, h2] at e
            subst e
            simp -implicitDefEqProofs [hi', e1, e2])
  have ef : foldS _ (plI L x, plI L x) l = _ := goB_foldS (ok := ok1 L) (st := fun Q => (minI (Q.map (plI L)), maxI (Q.map (plI L)))) (r := .val (.bool false)) (step := fun (s : Int × Int) a => if (decide (plI L a = s.1 - 1) || decide (plI L a = s.2 + 1)) = true then .inl (min s.1 (plI L a), max s.2 (plI L a)) else .inr (.val (.bool false))) l [x] (fun Q a h0 => by
    have hne : Q.map (plI L) ≠ [] := by simpa using h0
    simp only [List.map_append, List.map_cons, List.map_nil, minI_snoc hne, maxI_snoc hne]
    rfl) (by simp)
  rw [goB_fall hL.1 hp hr fun Q a h0 hn hm hc => ok1_cvx hL.1 Q a h0 hn hm hc] at ef
  rw [ef] at key
  have ix := idxO_mem hx
  have at0 : atI (r.map PyData.int) 0 = some (.int x) := by rw [hr]; simp
  have cu : cutI r (some 1) none = l := by
    rw [hr]
    exact cut_from (k := 1)
  unfold F_does_fall p_does_fall
  simp only [x_runF]
  cases k : fallB L r with
  | true =>
    obtain ⟨s', e, v4, v5, rfl⟩ := key.1 _ (by rw [k]; rfl)
    have e' : loopF (bName 4) b_does_fall_1 (l.map .int) ⟨[.val (.list (L.map .int)), .val (.list (r.map .int)), .val (.int ((L.idxOf x : Nat) : Int)), .val (.int ((L.idxOf x : Nat) : Int)), .no, .no], w⟩ = _ := e
    simp -implicitDefEqProofs [at0, -atI_0, ix, cutD_map, cu, e']
  | false =>
    obtain ⟨s', e, hw⟩ := key.2 _ (by rw [k]; rfl)
    have e' : loopF (bName 4) b_does_fall_1 (l.map .int) ⟨[.val (.list (L.map .int)), .val (.list (r.map .int)), .val (.int ((L.idxOf x : Nat) : Int)), .val (.int ((L.idxOf x : Nat) : Int)), .no, .no], w⟩ = _ := e
    simp -implicitDefEqProofs [at0, -atI_0, ix, cutD_map, cu, e', hw]
end DL

noncomputable section
namespace DL
open PySem L2

/-! rankings that fall, taken from the ends -/
def pick : List Int → List Bool → List Int
  | L, [] => L
  | L, b :: bs => match b with
    | false => L.take 1 ++ pick (L.drop 1) bs
    | true => L.drop (L.length - 1) ++ pick L.dropLast bs
theorem snoc_of {α : Type} (L : List α) : L = [] ∨ ∃ K z, L = K ++ [z] := by
  rcases List.eq_nil_or_concat L with h | ⟨K, z, h⟩
  · exact .inl h
  · exact .inr ⟨K, z, by rw [h, List.concat_eq_append]⟩
theorem pick_nil {L : List Int} : pick L [] = L := rfl
theorem pick_false {a : Int} {L : List Int} {bs : List Bool} : pick (a :: L) (false :: bs) = a :: pick L bs := rfl
theorem pick_true {z : Int} {L : List Int} {bs : List Bool} : pick (L ++ [z]) (true :: bs) = z :: pick L bs := by
  show (L ++ [z]).drop ((L ++ [z]).length - 1) ++ pick (L ++ [z]).dropLast bs = _
  rw [List.dropLast_concat]
  simp
theorem pick_perm : ∀ (bs : List Bool) (L : List Int), (pick L bs).Perm L
  | [], L => .refl _
  | false :: bs, L => by
    show (L.take 1 ++ pick (L.drop 1) bs).Perm L
    have := (pick_perm bs (L.drop 1)).append_left (L.take 1)
    rwa [List.take_append_drop] at this
  | true :: bs, L => by
    show (L.drop (L.length - 1) ++ pick L.dropLast bs).Perm L
    have h1 := (pick_perm bs L.dropLast).append_left (L.drop (L.length - 1))
    refine h1.trans (List.perm_append_comm.trans ?_)
    rw [List.dropLast_eq_take, List.take_append_drop]
theorem idx_app {a : Int} {l m : List Int} (h : a ∈ l) : (l ++ m).idxOf a = l.idxOf a := by
  rw [List.idxOf_append, if_pos h]
theorem idx_last {z : Int} {l : List Int} (h : z ∉ l) : (l ++ [z]).idxOf z = l.length := by
  rw [List.idxOf_append, if_neg h]
  simp
theorem idx_ne' {a b : Int} {l : List Int} (h : a ≠ b) : (a :: l).idxOf b = l.idxOf b + 1 := by
  have : (a == b) = false := by simpa using h
  rw [List.idxOf_cons, this]
  rfl
theorem pick_noV : ∀ (bs : List Bool) (L : List Int), L.Nodup → ∀ u ∈ L, ∀ t ∈ L, ∀ v ∈ L, L.idxOf u < L.idxOf t → L.idxOf t < L.idxOf v → ¬ ((pick L bs).idxOf t < (pick L bs).idxOf u ∧ (pick L bs).idxOf t < (pick L bs).idxOf v)
  | [], L, _, u, hu, t, ht, v, hv, h1, h2 => by
    rw [pick_nil]
    omega
  | false :: bs, [], _, u, hu, _, _, _, _, _, _ => by cases hu
  | false :: bs, a :: L, hn, u, hu, t, ht, v, hv, h1, h2 => by
    rw [pick_false]
    have hn := List.nodup_cons.mp hn
    intro ⟨g1, g2⟩
    by_cases et : a = t
    · subst et; simp at h1
    · by_cases eu : a = u
      · subst eu; simp at g1
      · by_cases ev : a = v
        · subst ev; simp at g2
        · rw [idx_ne' et, idx_ne' eu] at h1 g1
          rw [idx_ne' et, idx_ne' ev] at h2 g2
          exact pick_noV bs L hn.2 u ((List.mem_cons.mp hu).resolve_left fun e => eu e.symm) t ((List.mem_cons.mp ht).resolve_left fun e => et e.symm) v ((List.mem_cons.mp hv).resolve_left fun e => ev e.symm) (by omega) (by omega) ⟨by omega, by omega⟩
  | true :: bs, L, hn, u, hu, t, ht, v, hv, h1, h2 => by
    rcases snoc_of L with rfl | ⟨L, z, rfl⟩
    · cases hu
    · rw [pick_true]
      have hz : z ∉ L := fun h => by
        have := List.nodup_append.mp hn
        exact this.2.2 z h z List.mem_cons_self rfl
      have hn1 : L.Nodup := (List.nodup_append.mp hn).1
      have cs : ∀ x ∈ L ++ [z], x ≠ z → x ∈ L := fun x hx nx => by
        rcases List.mem_append.mp hx with h | h
        · exact h
        · exact absurd (by simpa using h) nx
      have lt : ∀ x ∈ L ++ [z], (L ++ [z]).idxOf x ≤ L.length := fun x hx => by
        have := List.idxOf_lt_length_iff.mpr hx
        simp at this
        omega
      intro ⟨g1, g2⟩
      by_cases et : z = t
      · subst et
        rw [idx_last hz] at h2
        have := lt v hv
        omega
      · by_cases eu : z = u
        · subst eu
          rw [idx_last hz] at h1
          have := lt t ht
          omega
        · by_cases ev : z = v
          · subst ev; simp at g2
          · have mu := cs u hu fun e => eu e.symm
            have mt := cs t ht fun e => et e.symm
            have mv := cs v hv fun e => ev e.symm
            rw [idx_app mu, idx_app mt] at h1
            rw [idx_app mt, idx_app mv] at h2
            rw [idx_ne' et, idx_ne' eu] at g1
            rw [idx_ne' et, idx_ne' ev] at g2
            exact pick_noV bs L hn1 u mu t mt v mv h1 h2 ⟨by omega, by omega⟩
theorem rev_ix {L : List Int} (hL : L.Nodup) {x : Int} (hx : x ∈ L) : L.reverse.idxOf x = L.length - 1 - L.idxOf x := by
  have hi := List.idxOf_lt_length_iff.mpr hx
  have e : L.getD (L.idxOf x) 0 = x := by
    simp only [List.getD_eq_getElem?_getD, List.getElem?_eq_getElem hi]
    exact List.getElem_idxOf hi
  have hr : L.reverse.Nodup := (List.reverse_perm L).nodup_iff.mpr hL
  have e2 : L.getD (L.idxOf x) 0 = L.reverse.getD (L.length - 1 - L.idxOf x) 0 := by
    simp only [List.getD_eq_getElem?_getD]
    rw [List.getElem?_reverse (by omega)]
    congr 2
    omega
  have := nodup_idx hr (i := L.length - 1 - L.idxOf x) (by simp; omega)
  rw [← e2, e] at this
  exact this
theorem pick_falls {L : List Int} (hL : L.Nodup) (bs : List Bool) : noV L (pick L bs).reverse := by
  intro u hu t ht v hv h1 h2 ⟨g1, g2⟩
  have p := pick_perm bs L
  have hq : (pick L bs).Nodup := p.nodup_iff.mpr hL
  have m : ∀ x ∈ L, x ∈ pick L bs := fun x hx => p.mem_iff.mpr hx
  rw [rev_ix hq (m u hu), rev_ix hq (m t ht)] at g1
  rw [rev_ix hq (m v hv), rev_ix hq (m t ht)] at g2
  have l1 := List.idxOf_lt_length_iff.mpr (m u hu)
  have l2 := List.idxOf_lt_length_iff.mpr (m t ht)
  have l3 := List.idxOf_lt_length_iff.mpr (m v hv)
  exact pick_noV bs L hL u hu t ht v hv h1 h2 ⟨by omega, by omega⟩
/-! bits and numbers -/
def valA : Nat → List Bool → Nat
  | c, [] => c
  | c, b :: bs => valA (2 * c + b.toNat) bs
def bitsN : Nat → Nat → List Bool
  | 0, _ => []
  | k + 1, n => decide (2 ^ k ≤ n) :: bitsN k (n % 2 ^ k)
end DL

noncomputable section
namespace DL
open PySem L2
def b_number_on_1 : DSt → Flow := fseq (fSet 3 (fOp (lift2 addO) (fOp (lift2 mulO) (fC (.int 2)) (fVar 3)) (fCall intO (pCons (fOp (lift2 eqO) (fVar 4) (fOp (lift2 ixO) (fVar 2) (fUn (lift1 negO) (fC (.int 1))))) fNil)))) (fDrop (fRem 2 (fVar 4)))
abbrev o_number_on_1 : List PyData → DSt → Flow := loopF (bName 4) b_number_on_1
def p_number_on : DSt → Flow := fseq (fDrop (fUser F_must_be_on (fCons (fVar 0) (fCons (fVar 1) fNil)))) (fseq (fIfS (fNot (fB (fUser F_does_fall (fCons (fVar 0) (fCons (fVar 1) fNil))))) (fRaise "NoFit") fnext) (fseq (fSet 2 (fCall listO (pCons (fVar 0) fNil))) (fseq (fSet 3 (fC (.int 0))) (fseq (fFor (fLstI (fUn (lift1 revToO) (fVar 1))) (bName 4) b_number_on_1) (fRet (fVar 3))))))
def F_number_on : List R → Pw → FRes := runF 5 2 p_number_on
def b_ranking_on_1 : DSt → Flow := fSet 2 (fOp (lift2 mulO) (fC (.int 2)) (fVar 2))
abbrev o_ranking_on_1 : List PyData → DSt → Flow := loopF (bName 3) b_ranking_on_1
def c_ranking_on_2 : M Bool := fB (fOp (lift2 gtO) (fCall lenO (pCons (fVar 4) fNil)) (fC (.int 1)))
def b_ranking_on_3 : DSt → Flow := fseq (fSet 2 (fOp (lift2 fdivO) (fVar 2) (fC (.int 2)))) (fseq (fDrop (fApp 5 (fPopAt 4 (fOp (lift2 ixO) (fLst (fCons (fC (.int 0)) (fCons (fUn (lift1 negO) (fC (.int 1))) fNil))) (fOp (lift2 fdivO) (fVar 1) (fVar 2)))))) (fSet 1 (fOp (lift2 modO) (fVar 1) (fVar 2))))
abbrev o_ranking_on_3 : DSt → Flow := whileF c_ranking_on_2 b_ranking_on_3 10000
def p_ranking_on : DSt → Flow := fseq (fDrop (fUser F_must_be_line (fCons (fVar 0) fNil))) (fseq (fSet 2 (fC (.int 1))) (fseq (fFor (fLstI (fSlice (fVar 0) (fPart (fC (.int 1))) fNoPart)) (bName 3) b_ranking_on_1) (fseq (fIfS (fOr (fB (fOp (lift2 ltO) (fVar 1) (fC (.int 0)))) (fB (fOp (lift2 geO) (fVar 1) (fVar 2)))) (fRaise "NoNumber") fnext) (fseq (fSet 4 (fCall listO (pCons (fVar 0) fNil))) (fseq (fSet 5 (fLst fNil)) (fseq (whileF c_ranking_on_2 b_ranking_on_3 10000) (fRet (fUn (lift1 revO) (fOp (lift2 addO) (fVar 5) (fVar 4))))))))))
def F_ranking_on : List R → Pw → FRes := runF 6 2 p_ranking_on
theorem ix_0 {n : Nat} (h : 0 < n) : ixN n 0 = some 0 := by
  unfold ixN
  rw [if_pos (by omega), if_pos (by omega)]
  rfl
theorem ix_m1 {n : Nat} (h : 0 < n) : ixN n (-1) = some (n - 1) := by
  unfold ixN
  rw [if_neg (by omega), if_pos (by omega)]
  congr 1
  omega
def pw2 (k : Nat) : Nat := 2 ^ k
theorem eraseIdx_last {l : List PyData} {z : PyData} {n : Nat} (h : n = l.length) : (l ++ [z]).eraseIdx n = l := by
  subst h
  rw [List.eraseIdx_append_of_length_le (by simp)]
  simp
end DL

noncomputable section
namespace DL
open PySem L2
def p_law_whole : DSt → Flow := fRet (fAndV (fIsi "int" (fVar 0)) (fV (fNot (fB (fIsi "bool" (fVar 0))))))
def F_law_whole : List R → Pw → FRes := runF 1 1 p_law_whole
def b_law_draws_1 : DSt → Flow := fIfS (fB (fVar 4)) (fseq (fDrop (fApp 6 (fOp (lift2 modO) (fVar 3) (fOp (lift2 powO) (fC (.int 10)) (fC (.int 9)))))) (fSet 3 (fOp (lift2 fdivO) (fVar 3) (fOp (lift2 powO) (fC (.int 10)) (fC (.int 9)))))) (fseq (fSet 8 (fOp (lift2 modO) (fOp (lift2 addO) (fVar 5) (fOp (lift2 mulO) (fC (.int 48271)) (fOp (lift2 addO) (fVar 7) (fC (.int 1))))) (fC (.int 2147483629)))) (fseq (fSet 8 (fOp (lift2 modO) (fOp (lift2 addO) (fOp (lift2 mulO) (fVar 8) (fVar 8)) (fVar 7)) (fC (.int 2147483629)))) (fDrop (fApp 6 (fOp (lift2 modO) (fOp (lift2 modO) (fOp (lift2 mulO) (fVar 8) (fVar 8)) (fC (.int 2147483587))) (fOp (lift2 powO) (fC (.int 10)) (fC (.int 9))))))))
abbrev o_law_draws_1 : List PyData → DSt → Flow := loopF (bName 7) b_law_draws_1
def p_law_draws : DSt → Flow := fseq (fSet 3 (fC (.int 0))) (fseq (fIfS (fB (fOp (lift2 gtO) (fScLen (fVar 0)) (fC (.int 0)))) (fSet 3 (fScIx (fVar 0) (fOp (lift2 modO) (fVar 1) (fCall minO (pCons (fC (.int 63)) (pCons (fScLen (fVar 0)) fNil)))))) fnext) (fseq (fSet 4 (fAndV (fOp (lift2 ltO) (fVar 1) (fScLen (fVar 0))) (fOp (lift2 geO) (fVar 3) (fOp (lift2 powO) (fC (.int 10)) (fC (.int 18)))))) (fseq (fIfS (fB (fVar 4)) (fSet 3 (fOp (lift2 andO) (fVar 3) (fOp (lift2 subO) (fOp (lift2 powO) (fOp (lift2 powO) (fOp (lift2 powO) (fC (.int 2)) (fC (.int 60))) (fC (.int 60))) (fC (.int 6))) (fC (.int 1))))) fnext) (fseq (fSet 5 (fOp (lift2 addO) (fOp (lift2 modO) (fVar 3) (fC (.int 2147483629))) (fOp (lift2 mulO) (fC (.int 69621)) (fVar 1)))) (fseq (fSet 6 (fLst fNil)) (fseq (fFor (fRng1 (pCons (fVar 2) fNil)) (bName 7) b_law_draws_1) (fRet (fVar 6))))))))
def F_law_draws : List R → Pw → FRes := runF 9 3 p_law_draws
def b_law_names_v4_1 : DSt → Flow := fseq (fSet 2 (fOp (lift2 addO) (fOp (lift2 addO) (fVar 2) (fC (.int 1))) (fOp (lift2 ixO) (fLst (fCons (fC (.int 0)) (fCons (fC (.int 0)) (fCons (fOp (lift2 modO) (fOp (lift2 fdivO) (fVar 3) (fC (.int 4))) (fC (.int 3))) (fCons (fVar 3) fNil))))) (fOp (lift2 modO) (fVar 3) (fC (.int 4)))))) (fDrop (fApp 1 (fVar 2)))
abbrev o_law_names_v4_1 : List PyData → DSt → Flow := loopF (bName 3) b_law_names_v4_1
def e_law_names_v4_2 : M R := fOp (lift2 addO) (fVar 4) (fOp (lift2 mulO) (fOp (lift2 powO) (fC (.int 10)) (fC (.int 29))) (fCall intO (pCons (fOp (lift2 eqO) (fOp (lift2 modO) (fOp (lift2 fdivO) (fOp (lift2 ixO) (fVar 0) (fC (.int 0))) (fC (.int 16))) (fC (.int 8))) (fC (.int 5))) fNil)))
abbrev l_law_names_v4_2 : M R := fLc (fLstI (fVar 1)) (bName 4) fYes (e_law_names_v4_2) [4]
def p_law_names_v4 : DSt → Flow := fseq (fSet 1 (fLst fNil)) (fseq (fSet 2 (fUn (lift1 negO) (fC (.int 1)))) (fseq (fFor (fLstI (fVar 0)) (bName 3) b_law_names_v4_1) (fRet (fLc (fLstI (fVar 1)) (bName 4) fYes (e_law_names_v4_2) [4]))))
def F_law_names_v4 : List R → Pw → FRes := runF 5 1 p_law_names_v4
def b_law_shuffled_1 : DSt → Flow := fDrop (fIns 2 (fCons (fOp (lift2 modO) (fVar 4) (fOp (lift2 addO) (fCall lenO (pCons (fVar 2) fNil)) (fC (.int 1)))) (fCons (fVar 3) fNil)))
abbrev o_law_shuffled_1 : List PyData → DSt → Flow := loopF (bTup 2 (bCons (bName 3) (bCons (bName 4) bNil))) b_law_shuffled_1
def p_law_shuffled : DSt → Flow := fseq (fSet 2 (fLst fNil)) (fseq (fFor (fZip (fCons (fVar 0) (fCons (fVar 1) fNil))) (bTup 2 (bCons (bName 3) (bCons (bName 4) bNil))) b_law_shuffled_1) (fRet (fVar 2)))
def F_law_shuffled : List R → Pw → FRes := runF 5 2 p_law_shuffled
def b_law_fallen_1 : DSt → Flow := fDrop (fApp 3 (fPopAt 2 (fOp (lift2 ixO) (fLst (fCons (fC (.int 0)) (fCons (fUn (lift1 negO) (fC (.int 1))) fNil))) (fOp (lift2 modO) (fVar 4) (fC (.int 2))))))
abbrev o_law_fallen_1 : List PyData → DSt → Flow := loopF (bName 4) b_law_fallen_1
def p_law_fallen : DSt → Flow := fseq (fSet 2 (fCall listO (pCons (fVar 0) fNil))) (fseq (fSet 3 (fLst fNil)) (fseq (fFor (fLstI (fSlice (fVar 1) fNoPart (fPart (fCall lenO (pCons (fVar 0) fNil))))) (bName 4) b_law_fallen_1) (fRet (fUn (lift1 revO) (fVar 3)))))
def F_law_fallen : List R → Pw → FRes := runF 5 2 p_law_fallen
def p_law_line_v2 : DSt → Flow := fseq (fSet 3 (fUser F_law_draws (fCons (fVar 0) (fCons (fVar 1) (fCons (fOp (lift2 mulO) (fC (.int 2)) (fVar 2)) fNil))))) (fRet (fUser F_law_shuffled (fCons (fUser F_law_names_v4 (fCons (fSlice (fVar 3) fNoPart (fPart (fVar 2))) fNil)) (fCons (fSlice (fVar 3) (fPart (fVar 2)) fNoPart) fNil))))
def F_law_line_v2 : List R → Pw → FRes := runF 4 3 p_law_line_v2
def b_law_folk_v3_1 : DSt → Flow := fseq (fSet 7 (fUser F_law_draws (fCons (fVar 0) (fCons (fOp (lift2 addO) (fVar 1) (fVar 6)) (fCons (fOp (lift2 addO) (fCall lenO (pCons (fVar 2) fNil)) (fC (.int 1))) fNil))))) (fIfS (fOr (fB (fOp (lift2 eqO) (fVar 6) (fVar 4))) (fAnd (fB (fOp (lift2 ltO) (fVar 4) (fC (.int 0)))) (fB (fOp (lift2 gtO) (fOp (lift2 modO) (fOp (lift2 ixO) (fVar 7) (fUn (lift1 negO) (fC (.int 1)))) (fC (.int 3))) (fC (.int 0)))))) (fDrop (fApp 5 (fUser F_law_shuffled (fCons (fVar 2) (fCons (fVar 7) fNil))))) (fDrop (fApp 5 (fUser F_law_fallen (fCons (fVar 2) (fCons (fVar 7) fNil))))))
abbrev o_law_folk_v3_1 : List PyData → DSt → Flow := loopF (bName 6) b_law_folk_v3_1
def p_law_folk_v3 : DSt → Flow := fseq (fSet 5 (fLst fNil)) (fseq (fFor (fRng1 (pCons (fVar 3) fNil)) (bName 6) b_law_folk_v3_1) (fRet (fVar 5)))
def F_law_folk_v3 : List R → Pw → FRes := runF 8 5 p_law_folk_v3
def e_law_weights_1 : M R := fOp (lift2 ixO) (fLst (fCons (fC (.int 1)) (fCons (fOp (lift2 addO) (fC (.int 1)) (fOp (lift2 modO) (fOp (lift2 fdivO) (fVar 4) (fC (.int 4))) (fC (.int 9)))) (fCons (fOp (lift2 addO) (fC (.int 1)) (fOp (lift2 modO) (fOp (lift2 fdivO) (fVar 4) (fC (.int 4))) (fC (.int 2)))) (fCons (fOp (lift2 subO) (fOp (lift2 subO) (fOp (lift2 powO) (fC (.int 10)) (fC (.int 30))) (fC (.int 1))) (fVar 4)) fNil))))) (fOp (lift2 modO) (fVar 4) (fC (.int 4)))
abbrev l_law_weights_1 : M R := fLc (fLstI (fVar 3)) (bName 4) fYes (e_law_weights_1) [4]
def p_law_weights : DSt → Flow := fseq (fSet 3 (fUser F_law_draws (fCons (fVar 0) (fCons (fVar 1) (fCons (fVar 2) fNil))))) (fRet (fLc (fLstI (fVar 3)) (bName 4) fYes (e_law_weights_1) [4]))
def F_law_weights : List R → Pw → FRes := runF 5 3 p_law_weights
def b_law_names_v3_1 : DSt → Flow := fseq (fSet 2 (fOp (lift2 addO) (fOp (lift2 addO) (fVar 2) (fC (.int 1))) (fOp (lift2 ixO) (fLst (fCons (fC (.int 0)) (fCons (fC (.int 0)) (fCons (fOp (lift2 modO) (fOp (lift2 fdivO) (fVar 3) (fC (.int 4))) (fC (.int 3))) (fCons (fVar 3) fNil))))) (fOp (lift2 modO) (fVar 3) (fC (.int 4)))))) (fDrop (fApp 1 (fVar 2)))
abbrev o_law_names_v3_1 : List PyData → DSt → Flow := loopF (bName 3) b_law_names_v3_1
def p_law_names_v3 : DSt → Flow := fseq (fSet 1 (fLst fNil)) (fseq (fSet 2 (fUn (lift1 negO) (fC (.int 1)))) (fseq (fFor (fLstI (fVar 0)) (bName 3) b_law_names_v3_1) (fRet (fVar 1))))
def F_law_names_v3 : List R → Pw → FRes := runF 4 1 p_law_names_v3
def p_law_line : DSt → Flow := fseq (fSet 3 (fUser F_law_draws (fCons (fVar 0) (fCons (fVar 1) (fCons (fOp (lift2 mulO) (fC (.int 2)) (fVar 2)) fNil))))) (fRet (fUser F_law_shuffled (fCons (fUser F_law_names_v3 (fCons (fSlice (fVar 3) fNoPart (fPart (fVar 2))) fNil)) (fCons (fSlice (fVar 3) (fPart (fVar 2)) fNoPart) fNil))))
def F_law_line : List R → Pw → FRes := runF 4 3 p_law_line
theorem pow60 : ∃ A : Int, powO (.int 1152921504606846976) (.int 60) = some (.val (.int A)) ∧ ∃ B : Int, powO (.int A) (.int 6) = some (.val (.int B)) := by
  have p1 : lgP (1152921504606846976 : Int) := by unfold lgP; decide +kernel
  have p2 : lgP ((1152921504606846976 : Int) ^ (60 : Int).toNat) := by unfold lgP; decide +kernel
  have q1 : leP (60 : Int) := by unfold leP; decide
  have q2 : leP (6 : Int) := by unfold leP; decide
  refine ⟨(1152921504606846976 : Int) ^ (60 : Int).toNat, ?_, ?_⟩
  · rw [x_pow, if_pos ⟨by decide, q1, p1⟩]
  · obtain ⟨A, hA⟩ : ∃ A : Int, (1152921504606846976 : Int) ^ (60 : Int).toNat = A := ⟨_, rfl⟩
    rw [hA] at p2 ⊢
    exact ⟨_, by rw [x_pow, if_pos ⟨by decide, q2, p2⟩]⟩
def Dig (ds : List Int) : Prop := ∀ d ∈ ds, 0 ≤ d ∧ d < 1000000000
theorem Dig.snoc {ds : List Int} {x : Int} (h : Dig ds) (h0 : 0 ≤ x) (h1 : x < 1000000000) : Dig (ds ++ [x]) := by
  intro d hd
  rcases List.mem_append.mp hd with hd | hd
  · exact h d hd
  · simp at hd; subst hd; exact ⟨h0, h1⟩
theorem draws_ok {ns : List Int} {j m : Nat} {w : Pw} (hl : ns.length ≤ 63) (hj : j ≤ 1000) (hm : m ≤ 1000) : ∃ ds : List Int, F_law_draws [.ob (.scr ns), .val (.int ((j : Nat) : Int)), .val (.int ((m : Nat) : Int))] w = .ok (.new (ds.map .int)) w ∧ ds.length = m ∧ Dig ds := by
  obtain ⟨A, hA, B, hB⟩ := pow60
  obtain ⟨c0, hc0⟩ : ∃ c0 : Int, (if 0 < ns.length then atI ns ((j : Int) % (ns.length : Int)) else some 0) = some c0 := by
    by_cases h : 0 < ns.length
    · obtain ⟨x, ex, _⟩ := atI_some (xs := ns) (i := (j : Int) % (ns.length : Int)) (Int.emod_nonneg _ (by omega)) (Int.emod_lt_of_pos _ (by omega))
      exact ⟨x, by rw [if_pos h, ex]⟩
    · exact ⟨0, by rw [if_neg h]⟩
  have loop : ∀ (c n : Int) (g : Bool) (v7 v8 : Sl), 0 ≤ n → n < 2147483629 + 69621 * 1001 → ∃ (ds : List Int) (s' : DSt), loopF (bName 7) b_law_draws_1 (rangeD 0 m) ⟨[.ob (.scr ns), .val (.int ((j : Nat) : Int)), .val (.int ((m : Nat) : Int)), .val (.int (c)), .val (.bool g), .val (.int (n)), .own [], v7, v8], w⟩ = .next s' ∧ ds.length = m ∧ Dig ds ∧ ∃ c v7 v8, s' = ⟨[.ob (.scr ns), .val (.int ((j : Nat) : Int)), .val (.int ((m : Nat) : Int)), .val (.int (c)), .val (.bool g), .val (.int (n)), .own (ds.map .int), v7, v8], w⟩ := by
    intro c n g v7 v8 n0 n1
    obtain ⟨s', e, ds, c', v7', v8', h1, h2, rfl⟩ := loopN (b := bName 7) (p := b_law_draws_1) (f := fun k : Nat => PyData.int (0 + (k : Int))) (l := List.range m) (s := ⟨[.ob (.scr ns), .val (.int ((j : Nat) : Int)), .val (.int ((m : Nat) : Int)), .val (.int (c)), .val (.bool g), .val (.int (n)), .own [], v7, v8], w⟩)
      (fun i s => ∃ (ds : List Int) (c : Int) (v7 v8 : Sl), ds.length = i ∧ Dig ds ∧ s = ⟨[.ob (.scr ns), .val (.int ((j : Nat) : Int)), .val (.int ((m : Nat) : Int)), .val (.int (c)), .val (.bool g), .val (.int (n)), .own (ds.map .int), v7, v8], w⟩) ⟨[], c, v7, v8, rfl, fun d hd => (by simp at hd), rfl⟩ (by
        rintro i k s hi hk ⟨ds, c, v7, v8, h1, h2, rfl⟩
        obtain ⟨rfl, hkm⟩ := range_at hi
        have lt : ltS ds.length := size_lt (by omega)
        unfold b_law_draws_1
        cases g with
        | true =>
          have z0 : 0 ≤ c % 1000000000 := Int.emod_nonneg _ (by decide)
          have z1 : c % 1000000000 < 1000000000 := Int.emod_lt_of_pos _ (by decide)
          have em : ds.map PyData.int ++ [.int (c % 1000000000)] = (ds ++ [c % 1000000000]).map .int := by simp
          simp -implicitDefEqProofs [lt, em, -List.map_append, -map_int_inj]
          exact ⟨_, by simpa using h1, h2.snoc z0 z1, rfl⟩
        | false =>
          have e1 : mulO (.int 48271) (.int ((k : Int) + 1)) = _ := mul_ok (by omega) (by omega) (by omega) (by omega)
          obtain ⟨x, hx⟩ : ∃ x, x = (n + 48271 * ((k : Int) + 1)) % 2147483629 := ⟨_, rfl⟩
          have x0 : 0 ≤ x ∧ x < 2147483629 := by omega
          have e2 : mulO (.int x) (.int x) = _ := mul_ok (by omega) (by omega) (by omega) (by omega)
          obtain ⟨y, hy⟩ : ∃ y, y = (x * x + (k : Int)) % 2147483629 := ⟨_, rfl⟩
          have y0 : 0 ≤ y ∧ y < 2147483629 := by omega
          have e3 : mulO (.int y) (.int y) = _ := mul_ok (by omega) (by omega) (by omega) (by omega)
          obtain ⟨z, hz⟩ : ∃ z, z = y * y % 2147483587 % 1000000000 := ⟨_, rfl⟩
          have z0 : 0 ≤ z ∧ z < 1000000000 := by omega
          have em : ds.map PyData.int ++ [.int z] = (ds ++ [z]).map .int := by simp
          simp -implicitDefEqProofs [lt, e1, ← hx, e2, ← hy, e3, ← hz, em, -List.map_append, -map_int_inj]
          exact ⟨_, by simpa using h1, h2.snoc z0.1 z0.2, rfl⟩)
    exact ⟨ds, _, e, by simpa using h1, h2, c', v7', v8', rfl⟩
  have hm1 : inB (m : Int) := inB_of (by omega) (by omega)
  have e6 : mulO (.int 69621) (.int (j : Int)) = some (.val (.int (69621 * (j : Int)))) := mul_ok (by omega) (by omega) (by omega) (by omega)
  have num : ∀ c : Int, 0 ≤ c % 2147483629 + 69621 * (j : Int) ∧ c % 2147483629 + 69621 * (j : Int) < 2147483629 + 69621 * 1001 := fun c => by omega
  have hmin : ∀ a : Nat, a ≤ 63 → (if (a : Int) < 63 then (a : Int) else 63) = a := fun a h => by split <;> omega
  unfold F_law_draws p_law_draws
  simp only [x_runF]
  by_cases h : 0 < ns.length
  · rw [if_pos h] at hc0
    have h' : (0 : Int) < ns.length := by omega
    have e5 := mod_ok (a := (j : Int)) h'
    by_cases g1 : (j : Int) < ns.length
    · by_cases g2 : (1000000000000000000 : Int) ≤ c0
      · obtain ⟨D, hD⟩ : ∃ D : Int, Builtin.bitAnd c0 (B - 1) = D := ⟨_, rfl⟩
        obtain ⟨ds, s', e, l1, l2, c', v7, v8, rfl⟩ := loop D (D % 2147483629 + 69621 * (j : Int)) true .no .no (num D).1 (num D).2
        refine ⟨ds, ?_, l1, l2⟩
        simp -implicitDefEqProofs [h, h', hmin, hl, e5, hc0, g1, g2, hA, hB, hD, e6, hm1, e]
      · obtain ⟨ds, s', e, l1, l2, c', v7, v8, rfl⟩ := loop c0 (c0 % 2147483629 + 69621 * (j : Int)) false .no .no (num c0).1 (num c0).2
        refine ⟨ds, ?_, l1, l2⟩
        simp -implicitDefEqProofs [h, h', hmin, hl, e5, hc0, g1, g2, hA, hB, e6, hm1, e]
    · obtain ⟨ds, s', e, l1, l2, c', v7, v8, rfl⟩ := loop c0 (c0 % 2147483629 + 69621 * (j : Int)) false .no .no (num c0).1 (num c0).2
      refine ⟨ds, ?_, l1, l2⟩
      simp -implicitDefEqProofs [h, h', hmin, hl, e5, hc0, g1, e6, hm1, e]
  · have h0 : ns = [] := List.eq_nil_of_length_eq_zero (by omega)
    subst h0
    have g1 : ¬ (j : Int) < 0 := by omega
    obtain ⟨ds, s', e, l1, l2, c', v7, v8, rfl⟩ := loop 0 (0 % 2147483629 + 69621 * (j : Int)) false .no .no (num 0).1 (num 0).2
    refine ⟨ds, ?_, l1, l2⟩
    simp -implicitDefEqProofs at e
    simp -implicitDefEqProofs [g1, e6, hm1, e]

end DL

noncomputable section
namespace DL
open PySem L2

def Names (ns : List Int) : Prop := ns.Nodup ∧ ∀ x ∈ ns, 0 ≤ x ∧ x < 100000000000000000000000000000000000
theorem Names.perm {ns ms : List Int} (h : Names ns) (p : ms.Perm ns) : Names ms := ⟨p.nodup_iff.mpr h.1, fun x hx => h.2 x (p.mem_iff.mp hx)⟩
theorem Names.small {ns : List Int} (h : Names ns) : smallA (ns.map .int) = true := smallA_ints fun x hx => by
  have := h.2 x hx
  have e : (100000000000000000000000000000000000 : Nat) ≤ 10 ^ 90 := by decide +kernel
  have : x.natAbs < 100000000000000000000000000000000000 := by omega
  exact Nat.lt_of_lt_of_le this e
def RankN (ns : List Int) : Prop := Names ns ∧ 0 < ns.length ∧ ns.length ≤ 10

end DL

noncomputable section
namespace DL
open PySem L2

theorem at3 {α : Type} {a b c d : α} : atI [a, b, c, d] 3 = some d := by
  show atI _ ((3 : Nat) : Int) = _
  rw [atI_nat]; rfl
theorem names4_ok {ds : List Int} {w : Pw} (hd : Dig ds) (h0 : 0 < ds.length) (hl : ds.length ≤ 100) : ∃ N : List Int, F_law_names_v4 [.val (.list ((ds).map .int))] w = .ok (.new (N.map .int)) w ∧ N.length = ds.length ∧ Names N := by
  obtain ⟨s', e, N, la, v3, h1, h2, h3, h4, h5, rfl⟩ := loopN (b := bName 3) (p := b_law_names_v4_1) (f := .int) (l := ds) (s := ⟨[.val (.list ((ds).map .int)), .own [], .val (.int (-1)), .no, .no], w⟩)
    (fun i s => ∃ (N : List Int) (la : Int) (v3 : Sl), N.length = i ∧ N.Nodup ∧ (∀ x ∈ N, 0 ≤ x ∧ x ≤ la) ∧ -1 ≤ la ∧ la < 2000000000 * (i : Int) ∧ s = ⟨[.val (.list ((ds).map .int)), .own (N.map .int), .val (.int (la)), v3, .no], w⟩) ⟨[], -1, .no, rfl, by simp, by simp, by omega, by omega, rfl⟩ (by
      rintro i d s hi hm ⟨N, la, v3, h1, h2, h3, h4, h5, rfl⟩
      obtain ⟨d0, d1⟩ := hd d hm
      have hi2 := (List.getElem?_eq_some_iff.mp hi).1
      obtain ⟨x, ex, x0, x1⟩ : ∃ x : Int, atI [PyData.int 0, .int 0, .int (d / 4 % 3), .int d] (d % 4) = some (.int x) ∧ 0 ≤ x ∧ x < 1000000000 := by
        have : d % 4 = 0 ∨ d % 4 = 1 ∨ d % 4 = 2 ∨ d % 4 = 3 := by omega
        rcases this with q | q | q | q <;> rw [q]
        · exact ⟨0, by simp, by omega, by omega⟩
        · exact ⟨0, by simp, by omega, by omega⟩
        · exact ⟨d / 4 % 3, by simp, by omega, by omega⟩
        · exact ⟨d, at3, by omega, by omega⟩
      have s4 : leS 4 := size_le (by omega)
      have lt : ltS N.length := size_lt (by omega)
      have em : N.map PyData.int ++ [.int (la + 1 + x)] = (N ++ [la + 1 + x]).map .int := by simp
      unfold b_law_names_v4_1
      simp -implicitDefEqProofs [ex, s4, lt, em, -List.map_append, -map_int_inj]
      refine ⟨N ++ [la + 1 + x], by simpa using h1, ?_, la + 1 + x, ?_, by omega, by omega, rfl, rfl⟩
      · refine List.nodup_append.mpr ⟨h2, by simp, ?_⟩
        intro a ha b hb
        simp at hb
        have := h3 a ha
        omega
      · intro y hy
        rcases List.mem_append.mp hy with hy | hy
        · have := h3 y hy; omega
        · simp at hy; omega)
  obtain ⟨d0, hd0⟩ : ∃ d0, ds[0]? = some d0 := ⟨ds[0], List.getElem?_eq_getElem h0⟩
  obtain ⟨c, hc, hm⟩ : ∃ c : Int, (c = 0 ∨ c = 100000000000000000000000000000) ∧ mulO (.int 100000000000000000000000000000) (.int (if d0 / 16 % 8 = 5 then 1 else 0)) = some (.val (.int c)) := by
    by_cases q : d0 / 16 % 8 = 5
    · rw [if_pos q]
      exact ⟨_, .inr rfl, mul_ok (by omega) (by omega) (by omega) (by omega)⟩
    · rw [if_neg q]
      exact ⟨_, .inl rfl, mul_ok (by omega) (by omega) (by omega) (by omega)⟩
  have hd0' : (ds.map PyData.int)[0]? = some (.int d0) := by rw [List.getElem?_map, hd0]; rfl
  refine ⟨N.map (· + c), ?_, by simpa using h1, ?_, ?_⟩
  · have el : l_law_names_v4_2 ⟨[.val (.list ((ds).map .int)), .own (N.map .int), .val (.int (la)), v3, .no], w⟩ = .ok (.new (N.map fun x => .int (x + c))) ⟨[.val (.list ((ds).map .int)), .val (.list (N.map .int)), .val (.int (la)), v3, .no], w⟩ := by
      refine lc_all (fun x : Int => ⟨[.val (.list ((ds).map .int)), .val (.list (N.map .int)), .val (.int (la)), v3, .val (.int (x))], w⟩) _ (f := .int) (l := N) (by simp -implicitDefEqProofs) (by omega) rfl (fun a _ => by rfl) (fun a _ => by rfl) (fun x hx => ?_)
      unfold e_law_names_v4_2
      simp -implicitDefEqProofs [hd0, hm]
    unfold F_law_names_v4 p_law_names_v4
    simp only [x_runF]
    simp -implicitDefEqProofs [e, el]
    try rfl
  · exact List.Pairwise.map _ (fun a b (z : a ≠ b) => by omega) h2
  · intro x hx
    obtain ⟨y, hy, rfl⟩ := List.mem_map.mp hx
    have := h3 y hy
    rcases hc with rfl | rfl <;> omega
theorem zip_ints {a b : List Int} : zipD (a.map .int) (b.map .int) = (a.zip b).map prD := by
  unfold zipD
  rw [List.zip_map, List.map_map]
  rfl
theorem shuffled_ok {N ds : List Int} {w : Pw} (hd : Dig ds) (hl : N.length ≤ ds.length) (h10 : N.length ≤ 1000) : ∃ L : List Int, F_law_shuffled [.val (.list ((N).map .int)), .val (.list ((ds).map .int))] w = .ok (.new (L.map .int)) w ∧ L.Perm N := by
  obtain ⟨s', e, L, v3, v4, hp, rfl⟩ := loopN (b := bTup 2 (bCons (bName 3) (bCons (bName 4) bNil))) (p := b_law_shuffled_1) (f := prD) (l := N.zip ds) (s := ⟨[.val (.list ((N).map .int)), .val (.list ((ds).map .int)), .own [], .no, .no], w⟩)
    (fun i s => ∃ (L : List Int) (v3 v4 : Sl), L.Perm (N.take i) ∧ s = ⟨[.val (.list ((N).map .int)), .val (.list ((ds).map .int)), .own (L.map .int), v3, v4], w⟩) ⟨[], .no, .no, by simp, rfl⟩ (by
      rintro i p s hi hm ⟨L, v3, v4, hp, rfl⟩
      obtain ⟨a, d⟩ := p
      rw [List.getElem?_zip_eq_some] at hi
      obtain ⟨hiN, hid⟩ := hi
      have hi2 := (List.getElem?_eq_some_iff.mp hiN).1
      have ll := hp.length_eq
      rw [List.length_take] at ll
      have hlen : (0 : Int) < (L.length : Int) + 1 := by omega
      have md := mod_ok (a := d) hlen
      have k0 := Int.emod_nonneg d (by omega : (L.length : Int) + 1 ≠ 0)
      have k1 := Int.emod_lt_of_pos d hlen
      obtain ⟨k, hk⟩ := Int.eq_ofNat_of_zero_le k0
      have iw : inW (k : Int) := ⟨by omega, by omega⟩
      have lt : ltS L.length := size_lt (by omega)
      have em : (L.map PyData.int).take k ++ (PyData.int a :: (L.map PyData.int).drop k) = (L.take k ++ a :: L.drop k).map .int := by simp
      unfold b_law_shuffled_1
      simp -implicitDefEqProofs [prD, md, hk, iw, lt, em, -List.map_append, -List.map_cons, -List.map_take, -List.map_drop, -map_int_inj]
      refine ⟨_, ?_, rfl⟩
      rw [take_succ hiN]
      have h1 : (L.take k ++ a :: L.drop k).Perm (a :: L) := by
        have := List.perm_middle (a := a) (l₁ := L.take k) (l₂ := L.drop k)
        rwa [List.take_append_drop] at this
      exact h1.trans ((List.Perm.cons a hp).trans (List.perm_append_singleton a (N.take i)).symm))
  refine ⟨L, ?_, ?_⟩
  · unfold F_law_shuffled p_law_shuffled
    simp only [x_runF]
    simp -implicitDefEqProofs [zip_ints, e]
  · have : (N.zip ds).length = N.length := by rw [List.length_zip]; omega
    rw [this, List.take_length] at hp
    exact hp
theorem fallen_ok {L ds : List Int} {w : Pw} (hd : Dig ds) (h0 : 0 < L.length) (hl : L.length ≤ ds.length) (h10 : L.length ≤ 1000) : ∃ bs : List Bool, F_law_fallen [.val (.list ((L).map .int)), .val (.list ((ds).map .int))] w = .ok (.new (((pick L bs).reverse).map .int)) w ∧ bs.length + 1 = L.length := by
  obtain ⟨D, hD⟩ : ∃ D, ds.take L.length = D := ⟨_, rfl⟩
  have lD : D.length = L.length := by rw [← hD, List.length_take]; omega
  have mD : ∀ d ∈ D, 0 ≤ d ∧ d < 1000000000 := fun d hm => hd d (by rw [← hD] at hm; exact List.mem_of_mem_take hm)
  have cD : cutD (ds.map PyData.int) none (some (L.length : Int)) = D.map .int := by rw [cutD_map, cut_to, hD]
  obtain ⟨s', e, ls, fs, v4, k1, k2, hp, rfl⟩ := loopN (b := bName 4) (p := b_law_fallen_1) (f := .int) (l := D) (s := ⟨[.val (.list ((L).map .int)), .val (.list ((ds).map .int)), .own (L.map .int), .own [], .no], w⟩)
    (fun i s => ∃ (ls fs : List Int) (v4 : Sl), ls.length + i = L.length ∧ fs.length = i ∧ ((ls ≠ [] ∧ ∃ bs : List Bool, bs.length + ls.length = L.length ∧ ∀ cs, fs ++ pick ls cs = pick L (bs ++ cs)) ∨ (ls = [] ∧ ∃ bs : List Bool, bs.length + 1 = L.length ∧ fs = pick L bs)) ∧ s = ⟨[.val (.list ((L).map .int)), .val (.list ((ds).map .int)), .own (ls.map .int), .own (fs.map .int), v4], w⟩) ⟨L, [], .no, rfl, rfl, .inl ⟨List.length_pos_iff.mp h0, [], by simp, fun cs => rfl⟩, rfl⟩ (by
      rintro i d s hi hm ⟨ls, fs, v4, k1, k2, hp, rfl⟩
      have hi2 := (List.getElem?_eq_some_iff.mp hi).1
      have ln : 0 < ls.length := by omega
      have n0 : ls ≠ [] := List.length_pos_iff.mp ln
      obtain ⟨bs, hb, hq⟩ : ∃ bs : List Bool, bs.length + ls.length = L.length ∧ ∀ cs, fs ++ pick ls cs = pick L (bs ++ cs) := by
        rcases hp with ⟨_, h⟩ | ⟨h, _⟩
        · exact h
        · exact absurd h n0
      have lt : ltS fs.length := size_lt (by omega)
      have s2 : leS 2 := size_le (by omega)
      have fin : ∀ (x : Int) (K : List Int) (b : Bool), K.length + 1 = ls.length → (∀ cs, pick ls (b :: cs) = x :: pick K cs) → (ls = [x] ∨ K ≠ []) → K.length + (i + 1) = L.length ∧ (fs ++ [x]).length = i + 1 ∧ ((K ≠ [] ∧ ∃ bs : List Bool, bs.length + K.length = L.length ∧ ∀ cs, (fs ++ [x]) ++ pick K cs = pick L (bs ++ cs)) ∨ (K = [] ∧ ∃ bs : List Bool, bs.length + 1 = L.length ∧ fs ++ [x] = pick L bs)) := by
        intro x K b hK hpk hor
        refine ⟨by omega, by simp [k2], ?_⟩
        by_cases hK0 : K = []
        · right
          refine ⟨hK0, bs, ?_, ?_⟩
          · subst hK0; simp at hK; omega
          · have hx : ls = [x] := hor.resolve_right fun z => z hK0
            have := hq []
            rw [hx] at this
            simpa [pick_nil] using this
        · left
          refine ⟨hK0, bs ++ [b], by simp; omega, fun cs => ?_⟩
          have := hq (b :: cs)
          rw [hpk] at this
          simpa using this
      obtain ⟨b, hb2⟩ : ∃ b, d % 2 = b := ⟨_, rfl⟩
      have : b = 0 ∨ b = 1 := by omega
      rcases this with rfl | rfl
      · match ls, n0, ln, k1, hb, hq, fin with
        | x :: K, _, ln, k1, hb, hq, fin =>
          have ix : ixN (K.length + 1) 0 = some 0 := ix_0 (by omega)
          have em : fs.map PyData.int ++ [.int x] = (fs ++ [x]).map .int := by simp
          obtain ⟨g1, g2, g3⟩ := fin x K false rfl (fun cs => pick_false) (by cases K with | nil => exact .inl rfl | cons _ _ => exact .inr (by simp))
          unfold b_law_fallen_1
          simp -implicitDefEqProofs [hb2, ix, s2, lt, em, -List.map_append, -map_int_inj]
          exact ⟨K, g1, fs ++ [x], g2, g3, rfl, rfl⟩
      · obtain ⟨K, x, rfl⟩ := (snoc_of ls).resolve_left n0
        have ix : ixN (K.length + 1) (-1) = some K.length := by rw [ix_m1 (by omega)]; simp
        have hg : (K.map PyData.int ++ [PyData.int x])[K.length]? = some (.int x) := by simp
        have he : (K.map PyData.int ++ [PyData.int x]).eraseIdx K.length = K.map .int := eraseIdx_last (by simp)
        have em : fs.map PyData.int ++ [.int x] = (fs ++ [x]).map .int := by simp
        obtain ⟨g1, g2, g3⟩ := fin x K true (by simp) (fun cs => pick_true) (by cases K with | nil => exact .inl rfl | cons _ _ => exact .inr (by simp))
        have hw : inW (-1 : Int) := ⟨by omega, by omega⟩
        unfold b_law_fallen_1
        simp -implicitDefEqProofs [hb2, ix, hg, he, s2, lt, hw, -map_int_inj]
        exact ⟨K, g1, fs ++ [x], g2, g3, rfl, by simp⟩)
  have k1 : ls.length + D.length = L.length := k1
  have z : ls = [] := List.eq_nil_of_length_eq_zero (by omega)
  rcases hp with ⟨h, _⟩ | ⟨_, bs, hb, hf⟩
  · exact absurd z h
  · refine ⟨bs, ?_, hb⟩
    unfold F_law_fallen p_law_fallen
    simp only [x_runF]
    rw [← hf]
    simp -implicitDefEqProofs [cD, e]

end DL

noncomputable section
namespace DL
open PySem L2

end DL

noncomputable section
namespace DL
open PySem L2
def t_between_1 : M Bool := fB (fUser F_is_ahead (fCons (fVar 2) (fCons (fOp (lift2 ixO) (fVar 3) (fC (.int 0))) (fCons (fOp (lift2 ixO) (fVar 3) (fC (.int 1))) fNil))))
def e_between_2 : M R := fUser F_is_ahead (fCons (fVar 1) (fCons (fOp (lift2 ixO) (fVar 3) (fC (.int 0))) (fCons (fOp (lift2 ixO) (fVar 3) (fC (.int 1))) fNil)))
abbrev l_between_2 : M R := fLc (fLstI (fUser F_pairs_of (fCons (fVar 0) fNil))) (bName 3) (t_between_1) (e_between_2) [3]
def p_between : DSt → Flow := fseq (fDrop (fUser F_must_be_alike_named (fCons (fLst (fCons (fVar 0) (fCons (fVar 1) (fCons (fVar 2) fNil)))) fNil))) (fRet (fCall allO (pCons (fLc (fLstI (fUser F_pairs_of (fCons (fVar 0) fNil))) (bName 3) (t_between_1) (e_between_2) [3]) fNil)))
def F_between : List R → Pw → FRes := runF 4 3 p_between
def b_law_between_1 : DSt → Flow := fseq (fSet 5 (fOp (lift2 ltO) (fIndex (fVar 0) (fVar 3)) (fIndex (fVar 0) (fVar 4)))) (fIfS (fAnd (fB (fOp (lift2 eqO) (fVar 5) (fOp (lift2 ltO) (fIndex (fVar 2) (fVar 3)) (fIndex (fVar 2) (fVar 4))))) (fB (fOp (lift2 neO) (fVar 5) (fOp (lift2 ltO) (fIndex (fVar 1) (fVar 3)) (fIndex (fVar 1) (fVar 4)))))) (fRet (fC (.bool false))) fnext)
abbrev o_law_between_1 : List PyData → DSt → Flow := loopF (bName 4) b_law_between_1
def b_law_between_2 : DSt → Flow := fFor (fLstI (fVar 0)) (bName 4) b_law_between_1
abbrev o_law_between_2 : List PyData → DSt → Flow := loopF (bName 3) b_law_between_2
def p_law_between : DSt → Flow := fseq (fFor (fLstI (fVar 0)) (bName 3) b_law_between_2) (fRet (fC (.bool true)))
def F_law_between : List R → Pw → FRes := runF 6 3 p_law_between
def t_law_toward_1 : M Bool := fB (fOp (lift2 gtO) (fIndex (fVar 2) (fOp (lift2 ixO) (fVar 3) (fVar 7))) (fIndex (fVar 2) (fOp (lift2 ixO) (fVar 3) (fOp (lift2 addO) (fVar 7) (fC (.int 1))))))
def e_law_toward_2 : M R := fVar 7
abbrev l_law_toward_2 : M R := fLc (fRng1 (pCons (fOp (lift2 subO) (fCall lenO (pCons (fVar 3) fNil)) (fC (.int 1))) fNil)) (bName 7) (t_law_toward_1) (e_law_toward_2) [7]
def b_law_toward_3 : DSt → Flow := fseq (fSet 5 (fLc (fRng1 (pCons (fOp (lift2 subO) (fCall lenO (pCons (fVar 3) fNil)) (fC (.int 1))) fNil)) (bName 7) (t_law_toward_1) (e_law_toward_2) [7])) (fIfS (fB (fOp (lift2 neO) (fVar 5) (fLst fNil))) (fseq (fSet 6 (fOp (lift2 ixO) (fVar 5) (fUser F_law_draw (fCons (fVar 0) (fCons (fCall lenO (pCons (fVar 5) fNil)) fNil))))) (fSet 3 (fOp (lift2 addO) (fOp (lift2 addO) (fSlice (fVar 3) fNoPart (fPart (fVar 6))) (fLst (fCons (fOp (lift2 ixO) (fVar 3) (fOp (lift2 addO) (fVar 6) (fC (.int 1)))) (fCons (fOp (lift2 ixO) (fVar 3) (fVar 6)) fNil)))) (fSlice (fVar 3) (fPart (fOp (lift2 addO) (fVar 6) (fC (.int 2)))) fNoPart)))) fnext)
abbrev o_law_toward_3 : List PyData → DSt → Flow := loopF (bName 4) b_law_toward_3
def p_law_toward : DSt → Flow := fseq (fSet 3 (fCall listO (pCons (fVar 1) fNil))) (fseq (fFor (fRng1 (pCons (fUser F_law_draw (fCons (fVar 0) (fCons (fC (.int 20)) fNil))) fNil)) (bName 4) b_law_toward_3) (fRet (fVar 3)))
def F_law_toward : List R → Pw → FRes := runF 8 3 p_law_toward
def p_law_three : DSt → Flow := fseq (fSet 1 (fUser F_law_mixed (fCons (fVar 0) (fCons (fUser F_law_names (fCons (fVar 0) (fCons (fUser F_law_many (fCons (fVar 0) fNil)) fNil))) fNil)))) (fseq (fSet 2 (fUser F_law_mixed (fCons (fVar 0) (fCons (fVar 1) fNil)))) (fseq (fSet 3 (fUser F_law_draw (fCons (fVar 0) (fCons (fC (.int 4)) fNil)))) (fseq (fSet 4 (fUser F_law_mixed (fCons (fVar 0) (fCons (fVar 1) fNil)))) (fseq (fIfS (fB (fOp (lift2 gtO) (fVar 3) (fC (.int 0)))) (fSet 4 (fUser F_law_toward (fCons (fVar 0) (fCons (fVar 1) (fCons (fVar 2) fNil))))) fnext) (fseq (fIfS (fB (fOp (lift2 eqO) (fVar 3) (fC (.int 3)))) (fseq (fSet 5 (fUser F_law_draw (fCons (fVar 0) (fCons (fCall lenO (pCons (fVar 1) fNil)) fNil)))) (fSet 4 (fOp (lift2 addO) (fOp (lift2 addO) (fSlice (fVar 4) fNoPart (fPart (fVar 5))) (fUn (lift1 revO) (fSlice (fVar 4) (fPart (fVar 5)) (fPart (fOp (lift2 addO) (fVar 5) (fC (.int 2))))))) (fSlice (fVar 4) (fPart (fOp (lift2 addO) (fVar 5) (fC (.int 2)))) fNoPart)))) fnext) (fRet (fLst (fCons (fVar 1) (fCons (fVar 4) (fCons (fVar 2) fNil))))))))))
def F_law_three : List R → Pw → FRes := runF 6 1 p_law_three
def b_law_k03_1 : DSt → Flow := fseq (fSet 10 (fLst (fCons (fOp (lift2 ixO) (fVar 6) (fVar 7)) (fCons (fOp (lift2 ixO) (fVar 6) (fVar 8)) (fCons (fOp (lift2 ixO) (fVar 6) (fVar 9)) fNil))))) (fseq (fSet 11 (fUser F_between (fCons (fOp (lift2 ixO) (fVar 10) (fC (.int 0))) (fCons (fOp (lift2 ixO) (fVar 10) (fC (.int 1))) (fCons (fOp (lift2 ixO) (fVar 10) (fC (.int 2))) fNil))))) (fseq (fIfS (fOr (fNot (fB (fIsi "bool" (fVar 11)))) (fB (fOp (lift2 neO) (fVar 11) (fUser F_law_between (fCons (fOp (lift2 ixO) (fVar 10) (fC (.int 0))) (fCons (fOp (lift2 ixO) (fVar 10) (fC (.int 1))) (fCons (fOp (lift2 ixO) (fVar 10) (fC (.int 2))) fNil))))))) (fRet (fC (.bool false))) fnext) (fseq (fSet 12 (fOp (lift2 addO) (fUser F_unlike (fCons (fOp (lift2 ixO) (fVar 10) (fC (.int 0))) (fCons (fOp (lift2 ixO) (fVar 10) (fC (.int 1))) fNil))) (fUser F_unlike (fCons (fOp (lift2 ixO) (fVar 10) (fC (.int 1))) (fCons (fOp (lift2 ixO) (fVar 10) (fC (.int 2))) fNil))))) (fseq (fIfS (fOr (fB (fOp (lift2 neO) (fVar 11) (fOp (lift2 eqO) (fVar 12) (fUser F_unlike (fCons (fOp (lift2 ixO) (fVar 10) (fC (.int 0))) (fCons (fOp (lift2 ixO) (fVar 10) (fC (.int 2))) fNil)))))) (fB (fOp (lift2 ltO) (fVar 12) (fUser F_unlike (fCons (fOp (lift2 ixO) (fVar 10) (fC (.int 0))) (fCons (fOp (lift2 ixO) (fVar 10) (fC (.int 2))) fNil)))))) (fRet (fC (.bool false))) fnext) (fIfS (fB (fOp (lift2 neO) (fVar 6) (fLst (fCons (fVar 3) (fCons (fVar 4) (fCons (fVar 5) fNil)))))) (fRet (fC (.bool false))) fnext)))))
abbrev o_law_k03_1 : List PyData → DSt → Flow := loopF (bTup 3 (bCons (bName 7) (bCons (bName 8) (bCons (bName 9) bNil)))) b_law_k03_1
def b_law_k03_2 : DSt → Flow := fseq (fAsgB (fUser F_law_three (fCons (fVar 1) fNil)) (bSeq 3 (bCons (bName 3) (bCons (bName 4) (bCons (bName 5) bNil))))) (fseq (fSet 6 (fLst (fCons (fCall listO (pCons (fVar 3) fNil)) (fCons (fCall listO (pCons (fVar 4) fNil)) (fCons (fCall listO (pCons (fVar 5) fNil)) fNil))))) (fFor (fLstI (fLst (fCons (fTup (fCons (fC (.int 0)) (fCons (fC (.int 1)) (fCons (fC (.int 2)) fNil)))) (fCons (fTup (fCons (fC (.int 2)) (fCons (fC (.int 1)) (fCons (fC (.int 0)) fNil)))) (fCons (fTup (fCons (fC (.int 1)) (fCons (fC (.int 0)) (fCons (fC (.int 2)) fNil)))) (fCons (fTup (fCons (fC (.int 0)) (fCons (fC (.int 0)) (fCons (fC (.int 2)) fNil)))) (fCons (fTup (fCons (fC (.int 0)) (fCons (fC (.int 2)) (fCons (fC (.int 2)) fNil)))) (fCons (fTup (fCons (fC (.int 0)) (fCons (fC (.int 1)) (fCons (fC (.int 0)) fNil)))) fNil)))))))) (bTup 3 (bCons (bName 7) (bCons (bName 8) (bCons (bName 9) bNil)))) b_law_k03_1))
abbrev o_law_k03_2 : List PyData → DSt → Flow := loopF (bName 2) b_law_k03_2
def p_law_k03 : DSt → Flow := fseq (fFor (fRng1 (pCons (fC (.int 4)) fNil)) (bName 2) b_law_k03_2) (fRet (fC (.bool true)))
def F_law_k03 : List R → Pw → FRes := runF 13 1 p_law_k03
def btw (a m b : List Int) : Bool := ((pairsI a).filter fun p => ah b p.1 p.2).all fun p => ah m p.1 p.2
def lokB (a m b : List Int) (x y : Int) : Bool := !((ah a x y == ah b x y) && (ah a x y != ah m x y))
def lbt (a m b : List Int) : Bool := a.all fun x => a.all (lokB a m b x)
def nth (l : List Int) (k : Nat) : Int := l.getD k 0
end DL

noncomputable section
namespace DL
open PySem L2

@[simp] theorem x_isT_dict {kvs : List (PyData × PyData)} {m : String} : isT m (.dict kvs) = (m == "dict") := by simp [isT, isN, tyN]
def isI : PyData → Bool | .int _ => true | _ => false
def nameB : PyData → Bool | .int n => decide (0 ≤ n) | _ => false
theorem is_number_any {d : PyData} {w : Pw} : F_is_number [.val d] w = .ok (.val (.bool (isI d))) w := by
  unfold F_is_number p_is_number
  simp only [x_runF]
  cases d <;> simp -implicitDefEqProofs [isI]
theorem nub_of {ns : List Int} : ∀ i, i ≤ ns.length → (PyProof.Rows.firstMet (fun i => ns.getD i 0) i).length = i → PyProof.Rows.firstMet (fun i => ns.getD i 0) i = ns.take i ∧ (ns.take i).Nodup
  | 0, _, _ => by simp [PyProof.Rows.firstMet_zero]
  | i + 1, hi, h => by
    have hle := PyProof.Rows.firstMet_length_le (fun i => ns.getD i 0) i
    rw [PyProof.Rows.firstMet_succ] at h ⊢
    have ex : ns.getD i 0 = ns[i] := by simp [List.getD_eq_getElem?_getD, List.getElem?_eq_getElem (by omega : i < ns.length)]
    rw [ex] at h ⊢
    unfold PyProof.Rows.step_dedup at h ⊢
    by_cases q : ((PyProof.Rows.firstMet (fun i => ns.getD i 0) i).any (· == ns[i])) = true
    · rw [if_pos q] at h
      omega
    · rw [if_neg q] at h ⊢
      simp only [List.length_append, List.length_cons, List.length_nil] at h
      obtain ⟨e1, e2⟩ := nub_of (ns := ns) i (by omega) (by omega)
      rw [e1] at q ⊢
      have et : ns.take (i + 1) = ns.take i ++ [ns[i]] := by rw [List.take_add_one, List.getElem?_eq_getElem (by omega : i < ns.length)]; rfl
      refine ⟨et.symm, ?_⟩
      rw [et, List.nodup_append]
      refine ⟨e2, by simp, fun a ha b hb => ?_⟩
      simp at hb
      subst hb
      rintro rfl
      exact q (List.any_eq_true.mpr ⟨_, ha, by simp⟩)
theorem nub_iff {ns : List Int} : (nubI ns).length = ns.length ↔ ns.Nodup := by
  refine ⟨fun h => ?_, nub_len⟩
  have := (nub_of (ns := ns) ns.length (Nat.le_refl _) h).2
  rwa [List.take_length] at this
theorem nub_dec {ns : List Int} : decide (((nubI ns).length : Int) = (ns.length : Int)) = decide ns.Nodup := by
  rw [decide_eq_decide, ← nub_iff]
  omega
/-! ### what is a list of unlike names -/
theorem nameB_ints : ∀ {ds : List PyData}, ds.all nameB = true → ∃ ns : List Int, ds = ns.map .int ∧ ∀ x ∈ ns, 0 ≤ x
  | [], _ => ⟨[], rfl, by simp⟩
  | d :: ds, h => by
    simp at h
    obtain ⟨ns, rfl, h2⟩ := nameB_ints (ds := ds) (by simpa using h.2)
    cases d with
    | int n => exact ⟨n :: ns, rfl, by
        have h1 : 0 ≤ n := by simpa [nameB] using h.1
        simp [h1]
        exact h2⟩
    | _ => simp [nameB] at h
def unlikeB : PyData → Bool
  | .list ds => match intsD ds with
    | some ns => decide (ns.Nodup ∧ ∀ x ∈ ns, 0 ≤ x)
    | none => false
  | _ => false
theorem intsD_some : ∀ {ds : List PyData} {ns : List Int}, intsD ds = some ns → ds = ns.map .int
  | [], _, h => by cases h; rfl
  | .int n :: ds, ns, h => by
    unfold intsD at h
    cases q : intsD ds with
    | none => rw [q] at h; cases h
    | some ms => rw [q] at h; cases h; rw [intsD_some q]; rfl
  | .none :: _, _, h | .bool _ :: _, _, h | .str _ :: _, _, h | .list _ :: _, _, h | .tuple _ :: _, _, h | .dict _ :: _, _, h => by unfold intsD at h; cases h
theorem names_iff {ds : List PyData} : ds.all nameB = true ↔ ∃ ns : List Int, intsD ds = some ns ∧ ∀ x ∈ ns, 0 ≤ x := by
  constructor
  · intro h
    obtain ⟨ns, rfl, h2⟩ := nameB_ints h
    exact ⟨ns, intsD_map ns, h2⟩
  · rintro ⟨ns, h, h2⟩
    rw [intsD_some h]
    simpa [nameB] using h2
def lenOk (d : PyData) : Prop := match d with | .list ds => ds.length ≤ 4000 | _ => True
theorem unlike_any {d : PyData} {w : Pw} (hl : lenOk d) : F_are_unlike_names [.val d] w = .ok (.val (.bool (unlikeB d))) w := by
  cases d with
  | list ds =>
    have hl : ds.length ≤ 4000 := hl
    have e : fLc (fLstI (fVar 0)) (bName 1) fYes e_are_unlike_names_1 [1] ⟨[.val (.list ds), .no], w⟩ = .ok (.new (ds.map fun x => .bool (nameB x))) ⟨[.val (.list ds), .no], w⟩ := by
      refine lc_all (fun a : PyData => ⟨[.val (.list ds), .val a], w⟩) _ (f := id) (l := ds) (by simp -implicitDefEqProofs) (by omega) rfl (fun a _ => by rfl) (fun a _ => by rfl) (fun a _ => ?_)
      unfold e_are_unlike_names_1
      cases a <;> simp -implicitDefEqProofs [is_number_any, isI, nameB]
    by_cases h : ds.all nameB = true
    · obtain ⟨ns, e1, e2⟩ := names_iff.mp h
      have h' : (ds.map nameB).all id = true := by simpa using h
      have el : ds.length = ns.length := by rw [intsD_some e1]; simp
      have eu : unlikeB (.list ds) = decide ns.Nodup := by
        show (match intsD ds with | some ns => decide (ns.Nodup ∧ ∀ x ∈ ns, 0 ≤ x) | none => false) = _
        rw [e1]
        simp
        exact fun _ => e2
      have hl2 : ns.length ≤ 4000 := by omega
      have en := nub_dec (ns := ns)
      unfold F_are_unlike_names p_are_unlike_names
      simp only [x_runF]
      simp -implicitDefEqProofs [e, boolsD_map', h', e1, hl2, el, en, eu]
    · have h' : (ds.map nameB).all id = false := by simpa using h
      have eu : unlikeB (.list ds) = false := by
        rw [Bool.eq_false_iff]
        intro z
        unfold unlikeB at z
        dsimp only at z
        split at z
        · rename_i ns e1
          exact h (names_iff.mpr ⟨ns, e1, (of_decide_eq_true z).2⟩)
        · cases z
      unfold F_are_unlike_names p_are_unlike_names
      simp only [x_runF]
      simp -implicitDefEqProofs [e, boolsD_map', h', eu]
  | _ =>
    unfold F_are_unlike_names p_are_unlike_names
    simp only [x_runF]
    simp -implicitDefEqProofs [unlikeB]

instance (ns : List Int) : Decidable (Rank ns) := Classical.propDecidable _
def rankB : PyData → Bool
  | .list ds => match intsD ds with
    | some ns => decide (Rank ns)
    | none => false
  | _ => false
end DL

noncomputable section
namespace DL
open PySem L2

/-! lists of lists in order -/
def llD (x : List Int) : PyData := .list (x.map .int)
def leLL (a b : List Int) : Bool := PySem.W.sortLe (PyProof.Rows.listOrd PyProof.Rows.itemOrd) false PySem.W.keyToks (llD a) (llD b)
def sortLL (ls : List (List Int)) : List (List Int) := ls.mergeSort leLL
end DL

noncomputable section
namespace DL
open PySem L2
def e_cut_down_1 : M R := fOp (lift2 inO) (fVar 2) (fVar 0)
abbrev l_cut_down_1 : M R := fLc (fLstI (fVar 1)) (bName 2) fYes (e_cut_down_1) [2]
def t_cut_down_2 : M Bool := fB (fOp (lift2 inO) (fVar 2) (fVar 1))
def e_cut_down_3 : M R := fVar 2
abbrev l_cut_down_3 : M R := fLc (fLstI (fVar 0)) (bName 2) (t_cut_down_2) (e_cut_down_3) [2]
def p_cut_down : DSt → Flow := fseq (fDrop (fUser F_must_be_ranking (fCons (fVar 0) fNil))) (fseq (fIfS (fOr (fB (fOp (lift2 ltO) (fCall lenO (pCons (fVar 1) fNil)) (fC (.int 1)))) (fNot (fB (fCall allO (pCons (fLc (fLstI (fVar 1)) (bName 2) fYes (e_cut_down_1) [2]) fNil))))) (fRaise "NoNames") fnext) (fRet (fLc (fLstI (fVar 0)) (bName 2) (t_cut_down_2) (e_cut_down_3) [2])))
def F_cut_down : List R → Pw → FRes := runF 3 2 p_cut_down
/-! cutting down -/
def cutL (r some : List Int) : List Int := r.filter fun x => decide (x ∈ some)
end DL

noncomputable section
namespace DL
open PySem L2

/-! what falls is taken from the ends -/
end DL

noncomputable section
namespace DL
open PySem L2
def e_grown_1 : M R := fOp (lift2 addO) (fLst (fCons (fVar 2) fNil)) (fVar 3)
abbrev l_grown_1 : M R := fLc (fLstI (fVar 1)) (bName 3) fYes (e_grown_1) [3]
def e_grown_2 : M R := fOp (lift2 addO) (fVar 3) (fLst (fCons (fVar 2) fNil))
abbrev l_grown_2 : M R := fLc (fLstI (fVar 1)) (bName 3) fYes (e_grown_2) [3]
def b_grown_3 : DSt → Flow := fSet 1 (fOp (lift2 addO) (fLc (fLstI (fVar 1)) (bName 3) fYes (e_grown_1) [3]) (fLc (fLstI (fVar 1)) (bName 3) fYes (e_grown_2) [3]))
abbrev o_grown_3 : List PyData → DSt → Flow := loopF (bName 2) b_grown_3
def p_grown : DSt → Flow := fseq (fSet 1 (fLst (fCons (fSlice (fVar 0) fNoPart (fPart (fC (.int 1)))) fNil))) (fseq (fFor (fLstI (fSlice (fVar 0) (fPart (fC (.int 1))) fNoPart)) (bName 2) b_grown_3) (fRet (fCall sortedO (pCons (fVar 1) fNil))))
def F_grown : List R → Pw → FRes := runF 4 1 p_grown
def e_is_folk_1 : M R := fUser F_is_ranking (fCons (fVar 1) fNil)
abbrev l_is_folk_1 : M R := fLc (fLstI (fVar 0)) (bName 1) fYes (e_is_folk_1) [1]
def e_is_folk_2 : M R := fOp (lift2 eqO) (fCall sortedO (pCons (fVar 1) fNil)) (fCall sortedO (pCons (fOp (lift2 ixO) (fVar 0) (fC (.int 0))) fNil))
abbrev l_is_folk_2 : M R := fLc (fLstI (fVar 0)) (bName 1) fYes (e_is_folk_2) [1]
def p_is_folk : DSt → Flow := fseq (fIfS (fOr (fNot (fB (fIsi "list" (fVar 0)))) (fOr (fB (fOp (lift2 ltO) (fCall lenO (pCons (fVar 0) fNil)) (fC (.int 1)))) (fB (fOp (lift2 gtO) (fCall lenO (pCons (fVar 0) fNil)) (fC (.int 20)))))) (fRet (fC (.bool false))) fnext) (fseq (fIfS (fNot (fB (fCall allO (pCons (fLc (fLstI (fVar 0)) (bName 1) fYes (e_is_folk_1) [1]) fNil)))) (fRet (fC (.bool false))) fnext) (fRet (fCall allO (pCons (fLc (fLstI (fVar 0)) (bName 1) fYes (e_is_folk_2) [1]) fNil))))
def F_is_folk : List R → Pw → FRes := runF 2 1 p_is_folk
def p_must_be_folk : DSt → Flow := fIfS (fNot (fB (fUser F_is_folk (fCons (fVar 0) fNil)))) (fRaise "NoFolk") fnext
def F_must_be_folk : List R → Pw → FRes := runF 1 1 p_must_be_folk
def e_lines_for_1 : M R := fUser F_does_fall (fCons (fVar 1) (fCons (fVar 2) fNil))
abbrev l_lines_for_1 : M R := fLc (fLstI (fVar 0)) (bName 2) fYes (e_lines_for_1) [2]
def t_lines_for_2 : M Bool := fB (fCall allO (pCons (fLc (fLstI (fVar 0)) (bName 2) fYes (e_lines_for_1) [2]) fNil))
def e_lines_for_3 : M R := fVar 1
abbrev l_lines_for_3 : M R := fLc (fLstI (fUser F_grown (fCons (fOp (lift2 ixO) (fVar 0) (fC (.int 0))) fNil))) (bName 1) (t_lines_for_2) (e_lines_for_3) [1]
def p_lines_for : DSt → Flow := fRet (fLc (fLstI (fUser F_grown (fCons (fOp (lift2 ixO) (fVar 0) (fC (.int 0))) fNil))) (bName 1) (t_lines_for_2) (e_lines_for_3) [1])
def F_lines_for : List R → Pw → FRes := runF 3 1 p_lines_for
def p_all_lines : DSt → Flow := fseq (fDrop (fUser F_must_be_folk (fCons (fVar 0) fNil))) (fRet (fUser F_lines_for (fCons (fVar 0) fNil)))
def F_all_lines : List R → Pw → FRes := runF 1 1 p_all_lines
/-! lines made from the best name outwards -/
def grS (F : List (List Int)) (a : Int) : List (List Int) := F.map (fun l => a :: l) ++ F.map fun l => l ++ [a]
def grL (r : List Int) : List (List Int) := (r.drop 1).foldl grS [r.take 1]
def grownL (r : List Int) : List (List Int) := sortLL (grL r)
end DL

noncomputable section
namespace DL
open PySem L2

def Folk (f : List (List Int)) : Prop := 0 < f.length ∧ f.length ≤ 20 ∧ ∀ r ∈ f, Rank r ∧ ∀ q ∈ f, q.Perm r
theorem head_mem {f : List (List Int)} (h : 0 < f.length) : f.headD [] ∈ f := by
  cases f with
  | nil => simp at h
  | cons a f => exact List.mem_cons_self
theorem is_folk_ok {f : List (List Int)} {w : Pw} (h : Folk f) : F_is_folk [.val (.list ((f).map llD))] w = .ok (.val (.bool true)) w := by
  obtain ⟨h0, h1, h2⟩ := h
  obtain ⟨a, f', rfl⟩ := List.exists_cons_of_ne_nil (List.length_pos_iff.mp h0)
  obtain ⟨f, hf⟩ : ∃ f, f = a :: f' := ⟨_, rfl⟩
  rw [← hf] at h0 h1 h2 ⊢
  have ma : a ∈ f := by rw [hf]; exact List.mem_cons_self
  have e0 : (f.map llD)[0]? = some (llD a) := by rw [hf]; rfl
  have e0' : f[0]? = some a := by rw [hf]; rfl
  have e1 : l_is_folk_1 ⟨[.val (.list ((f).map llD)), .no], w⟩ = .ok (.new (f.map fun _ => .bool true)) ⟨[.val (.list ((f).map llD)), .no], w⟩ := by
    refine lc_all (fun x : List Int => ⟨[.val (.list ((f).map llD)), .val (llD x)], w⟩) _ (f := llD) (l := f) (by simp -implicitDefEqProofs) (by omega) rfl (fun a _ => by rfl) (fun a _ => by rfl) (fun x hx => ?_)
    unfold e_is_folk_1
    simp -implicitDefEqProofs [llD, is_ranking_ok (h2 x hx).1]
  have e2 : l_is_folk_2 ⟨[.val (.list ((f).map llD)), .no], w⟩ = .ok (.new (f.map fun _ => .bool true)) ⟨[.val (.list ((f).map llD)), .no], w⟩ := by
    refine lc_all (fun x : List Int => ⟨[.val (.list ((f).map llD)), .val (llD x)], w⟩) _ (f := llD) (l := f) (by simp -implicitDefEqProofs) (by omega) rfl (fun a _ => by rfl) (fun a _ => by rfl) (fun x hx => ?_)
    have hs := sortI_perm_eq ((h2 x hx).2 a ma)
    unfold e_is_folk_2
    simp -implicitDefEqProofs [e0', llD, hs]
  have eb : boolsD (f.map fun _ => PyData.bool true) = some (f.map fun _ => true) := boolsD_map' (f := fun _ => true)
  have ea : (f.map fun _ => true).all id = true := by simp
  have c1 : ¬ ((f.length : Nat) : Int) < 1 := by omega
  have c2 : ¬ (20 : Int) < (f.length : Nat) := by omega
  have c3 : f ≠ [] := by rw [hf]; simp
  unfold F_is_folk p_is_folk
  simp only [x_runF]
  simp -implicitDefEqProofs [e1, e2, eb, ea, c1, c2, c3]
theorem must_folk_ok {f : List (List Int)} {w : Pw} (h : Folk f) : F_must_be_folk [.val (.list ((f).map llD))] w = .ok (.val .none) w := by
  unfold F_must_be_folk p_must_be_folk
  simp only [x_runF]
  simp -implicitDefEqProofs [is_folk_ok h]
def linesF (f : List (List Int)) : List (List Int) := (grownL (f.headD [])).filter fun ℓ => f.all fun r => fallB ℓ r
end DL

noncomputable section
namespace DL
open PySem L2

def bdd : Nat → PyData → Prop
  | _, .none | _, .bool _ | _, .int _ | _, .str _ => True
  | n + 1, .list ds => ds.length ≤ 1000 ∧ ∀ d ∈ ds, bdd n d
  | n + 1, .tuple ds => ds.length ≤ 1000 ∧ ∀ d ∈ ds, bdd n d
  | _, _ => False
@[simp] theorem bdd_none {n : Nat} : bdd n .none := by cases n <;> simp [bdd]
@[simp] theorem bdd_bool {n : Nat} {b : Bool} : bdd n (.bool b) := by cases n <;> simp [bdd]
@[simp] theorem bdd_int {n : Nat} {b : Int} : bdd n (.int b) := by cases n <;> simp [bdd]
@[simp] theorem bdd_str {n : Nat} {b : Str} : bdd n (.str b) := by cases n <;> simp [bdd]
@[simp] theorem bdd_list {n : Nat} {ds : List PyData} : bdd (n + 1) (.list ds) ↔ ds.length ≤ 1000 ∧ ∀ d ∈ ds, bdd n d := by simp [bdd]
@[simp] theorem bdd_tuple {n : Nat} {ds : List PyData} : bdd (n + 1) (.tuple ds) ↔ ds.length ≤ 1000 ∧ ∀ d ∈ ds, bdd n d := by simp [bdd]
theorem plainAll_of {ds : List PyData} (h : ∀ d ∈ ds, d.plain = true) : PyData.plainAll ds = true := by
  induction ds with
  | nil => rfl
  | cons d ds ih => simp [PyData.plainAll, h d List.mem_cons_self, ih fun d hd => h d (List.mem_cons_of_mem _ hd)]
theorem bdd_plain : ∀ {n : Nat} {d : PyData}, bdd n d → d.plain = true
  | _, .none, _ | _, .bool _, _ | _, .int _, _ | _, .str _, _ => rfl
  | n + 1, .list ds, b => by
    rw [bdd_list] at b
    simp only [PyData.plain]
    exact plainAll_of fun d hd => bdd_plain (b.2 d hd)
  | n + 1, .tuple ds, b => by
    rw [bdd_tuple] at b
    simp only [PyData.plain]
    exact plainAll_of fun d hd => bdd_plain (b.2 d hd)
  | 0, .list ds, b => by unfold bdd at b; exact b.elim
  | 0, .tuple ds, b => by unfold bdd at b; exact b.elim
  | 0, .dict _, b => by unfold bdd at b; exact b.elim
  | _ + 1, .dict _, b => by unfold bdd at b; exact b.elim
theorem bdd_dep : ∀ {n : Nat} {d : PyData}, bdd n d → d.depth ≤ n
  | _, .none, _ | _, .bool _, _ | _, .int _, _ | _, .str _, _ => by simp [PyData.depth]
  | n + 1, .list ds, b => by
    rw [bdd_list] at b
    have : PyData.depthAll ds ≤ n := depthAll_le.mpr fun d hd => bdd_dep (b.2 d hd)
    simp [PyData.depth]
    omega
  | n + 1, .tuple ds, b => by
    rw [bdd_tuple] at b
    have : PyData.depthAll ds ≤ n := depthAll_le.mpr fun d hd => bdd_dep (b.2 d hd)
    simp [PyData.depth]
    omega
  | 0, .list ds, b => by unfold bdd at b; exact b.elim
  | 0, .tuple ds, b => by unfold bdd at b; exact b.elim
  | 0, .dict _, b => by unfold bdd at b; exact b.elim
  | _ + 1, .dict _, b => by unfold bdd at b; exact b.elim
theorem bdd_len {n : Nat} {d : PyData} (b : bdd n d) : lenOk d := by
  cases d with
  | list ds =>
    cases n with
    | zero => unfold bdd at b; exact b.elim
    | succ n => rw [bdd_list] at b; exact Nat.le_trans b.1 (by omega)
  | _ => trivial
theorem neO_self {n : Nat} {d : PyData} (b : bdd n d) (hn : n ≤ 60) : neO d d = some (.val (.bool false)) := by
  unfold neO
  have := bdd_dep b
  rw [if_pos (by rw [Nat.min_self]; omega), PySem.SeqAt.eqv_refl_plain d (bdd_plain b)]
  rfl
/-! ### a folk -/
def folkB (d : PyData) : Bool := @decide (∃ f : List (List Int), d = .list (f.map llD) ∧ Folk f) (Classical.propDecidable _)
end DL

noncomputable section
namespace DL
open PySem L2

theorem Dig.take {ds : List Int} (h : Dig ds) (k : Nat) : Dig (ds.take k) := fun d hd => h d (List.mem_of_mem_take hd)
theorem Dig.drop {ds : List Int} (h : Dig ds) (k : Nat) : Dig (ds.drop k) := fun d hd => h d (List.mem_of_mem_drop hd)
theorem line2_ok {ns : List Int} {j m : Nat} {w : Pw} (hl : ns.length ≤ 63) (hj : j ≤ 1000) (h0 : 0 < m) (hm : m ≤ 100) : ∃ L : List Int, F_law_line_v2 [.ob (.scr ns), .val (.int ((j : Nat) : Int)), .val (.int ((m : Nat) : Int))] w = .ok (.new (L.map .int)) w ∧ L.length = m ∧ Names L := by
  obtain ⟨ds, e1, l1, d1⟩ := draws_ok (w := w) (j := j) (m := 2 * m) hl hj (by omega)
  have c1 : cutD (ds.map PyData.int) none (some (m : Int)) = (ds.take m).map .int := by rw [cutD_map, cut_to]
  have c2 : cutD (ds.map PyData.int) (some (m : Int)) none = (ds.drop m).map .int := by rw [cutD_map, cut_from]
  obtain ⟨A, hA⟩ : ∃ A, ds.take m = A := ⟨_, rfl⟩
  obtain ⟨B, hB⟩ : ∃ B, ds.drop m = B := ⟨_, rfl⟩
  have lA : A.length = m := by rw [← hA, List.length_take]; omega
  have lB : B.length = m := by rw [← hB, List.length_drop]; omega
  obtain ⟨N, e2, l2, n2⟩ := names4_ok (w := w) (ds := A) (by rw [← hA]; exact d1.take m) (by omega) (by omega)
  obtain ⟨L, e3, p3⟩ := shuffled_ok (w := w) (N := N) (ds := B) (by rw [← hB]; exact d1.drop m) (by omega) (by omega)
  rw [hA] at c1
  rw [hB] at c2
  have em : mulO (.int 2) (.int (m : Int)) = some (.val (.int (2 * (m : Int)))) := mul_ok (by omega) (by omega) (by omega) (by omega)
  have e1' : F_law_draws [.ob (.scr ns), .val (.int ((j : Nat) : Int)), .val (.int (2 * (m : Int)))] w = .ok (.new (ds.map .int)) w := by
    rw [show (2 * (m : Int)) = ((2 * m : Nat) : Int) by simp]; exact e1
  refine ⟨L, ?_, by rw [p3.length_eq]; omega, n2.perm p3⟩
  unfold F_law_line_v2 p_law_line_v2
  simp only [x_runF]
  simp -implicitDefEqProofs [em, e1', c1, c2, e2, e3]
def Hands (L : List Int) (f : List (List Int)) (fr : Prop) : Prop := ∀ r ∈ f, r.Perm L ∧ (fr → ∃ bs : List Bool, bs.length + 1 = L.length ∧ r = (pick L bs).reverse)
theorem folk3_ok {ns L : List Int} {j h : Nat} {free : Int} {w : Pw} (hl : ns.length ≤ 63) (hj : j ≤ 100) (hh : h ≤ 100) (h0 : 0 < L.length) (h10 : L.length ≤ 100) : ∃ f : List (List Int), F_law_folk_v3 [.ob (.scr ns), .val (.int ((j : Nat) : Int)), .val (.list ((L).map .int)), .val (.int ((h : Nat) : Int)), .val (.int (free))] w = .ok (.new (f.map llD)) w ∧ f.length = h ∧ Hands L f (0 ≤ free ∧ (h : Int) ≤ free) := by
  obtain ⟨s', e, f, v6, v7, h1, h2, rfl⟩ := loopN (b := bName 6) (p := b_law_folk_v3_1) (f := fun k : Nat => PyData.int (k : Int)) (l := List.range h) (s := ⟨[.ob (.scr ns), .val (.int ((j : Nat) : Int)), .val (.list ((L).map .int)), .val (.int ((h : Nat) : Int)), .val (.int (free)), .own [], .no, .no], w⟩)
    (fun i s => ∃ (f : List (List Int)) (v6 v7 : Sl), f.length = i ∧ Hands L f (0 ≤ free ∧ (h : Int) ≤ free) ∧ s = ⟨[.ob (.scr ns), .val (.int ((j : Nat) : Int)), .val (.list ((L).map .int)), .val (.int ((h : Nat) : Int)), .val (.int (free)), .own (f.map llD), v6, v7], w⟩) ⟨[], .no, .no, rfl, fun r hr => (by simp at hr), rfl⟩ (by
      rintro i k s hi hk ⟨f, v6, v7, h1, h2, rfl⟩
      obtain ⟨rfl, hkh⟩ := range_at hi
      obtain ⟨ds, e1, l1, d1⟩ := draws_ok (w := w) (j := j + k) (m := L.length + 1) hl (by omega) (by omega)
      have e1' : F_law_draws [.ob (.scr ns), .val (.int ((j : Int) + (k : Int))), .val (.int ((L.length : Int) + 1))] w = .ok (.new (ds.map .int)) w := e1
      obtain ⟨ds', la, rfl⟩ : ∃ K z, ds = K ++ [z] := (snoc_of ds).resolve_left (by intro z; subst z; simp at l1)
      have la' : atI (ds'.map PyData.int ++ [PyData.int la]) (-1) = some (.int la) := atI_last _ _
      have hm : (ds' ++ [la]).map PyData.int = ds'.map .int ++ [.int la] := by simp
      obtain ⟨S, e2, p2⟩ := shuffled_ok (w := w) (N := L) (ds := ds' ++ [la]) d1 (by omega) (by omega)
      obtain ⟨bs, e3, b3⟩ := fallen_ok (w := w) (L := L) (ds := ds' ++ [la]) d1 h0 (by omega) (by omega)
      rw [hm] at e1' e2 e3
      have lt : ltS f.length := size_lt (by omega)
      obtain ⟨F, hF⟩ : ∃ F, (pick L bs).reverse = F := ⟨_, rfl⟩
      rw [hF] at e3
      have pF : F.Perm L := by rw [← hF]; exact (List.reverse_perm _).trans (pick_perm _ _)
      have gS : ¬ (0 ≤ free ∧ (h : Int) ≤ free) → Hands L (f ++ [S]) (0 ≤ free ∧ (h : Int) ≤ free) := fun nf r hr => by
        rcases List.mem_append.mp hr with hr | hr
        · exact h2 r hr
        · simp at hr; subst hr; exact ⟨p2, fun z => absurd z nf⟩
      have gF : Hands L (f ++ [F]) (0 ≤ free ∧ (h : Int) ≤ free) := fun r hr => by
        rcases List.mem_append.mp hr with hr | hr
        · exact h2 r hr
        · simp at hr; subst hr; exact ⟨pF, fun _ => ⟨bs, b3, hF.symm⟩⟩
      have eS : f.map llD ++ [.list (S.map .int)] = (f ++ [S]).map llD := by simp [llD]
      have eF : f.map llD ++ [.list (F.map .int)] = (f ++ [F]).map llD := by simp [llD]
      unfold b_law_folk_v3_1
      by_cases q1 : (k : Int) = free
      · have q1' : ((k : Int) = free) = True := eq_true q1
        simp -implicitDefEqProofs [e1', la', q1', e2, lt, eS, -List.map_append]
        exact ⟨f ++ [S], by simpa using h1, gS (by omega), rfl⟩
      · by_cases q2 : free < 0
        · by_cases q3 : 0 < la % 3
          · simp -implicitDefEqProofs [e1', la', q1, q2, q3, e2, lt, eS, -List.map_append]
            exact ⟨f ++ [S], by simpa using h1, gS (by omega), rfl⟩
          · simp -implicitDefEqProofs [e1', la', q1, q2, q3, e3, lt, eF, -List.map_append]
            exact ⟨f ++ [F], by simpa using h1, gF, rfl⟩
        · simp -implicitDefEqProofs [e1', la', q1, q2, e3, lt, eF, -List.map_append]
          exact ⟨f ++ [F], by simpa using h1, gF, rfl⟩)
  have hB : inB (h : Int) := inB_of (by omega) (by omega)
  refine ⟨f, ?_, by simpa using h1, h2⟩
  unfold F_law_folk_v3 p_law_folk_v3
  simp only [x_runF]
  simp -implicitDefEqProofs [hB, rangeD, e]
theorem weights_ok {ns : List Int} {j h : Nat} {w : Pw} (hl : ns.length ≤ 63) (hj : j ≤ 100) (hh : h ≤ 100) : ∃ ws : List Int, F_law_weights [.ob (.scr ns), .val (.int ((j : Nat) : Int)), .val (.int ((h : Nat) : Int))] w = .ok (.new (ws.map .int)) w ∧ ws.length = h ∧ ∀ x ∈ ws, 1 ≤ x ∧ x ≤ 1000000000000000000000000000000 := by
  obtain ⟨ds, e1, l1, d1⟩ := draws_ok (w := w) (j := j) (m := h) hl (by omega) (by omega)
  have pick4 : ∀ d : Int, ∃ x : Int, 0 ≤ d → d < 1000000000 → atI [PyData.int 1, .int (1 + d / 4 % 9), .int (1 + d / 4 % 2), .int (1000000000000000000000000000000 - 1 - d)] (d % 4) = some (.int x) ∧ 1 ≤ x ∧ x ≤ 1000000000000000000000000000000 := by
    intro d
    have : d % 4 = 0 ∨ d % 4 = 1 ∨ d % 4 = 2 ∨ d % 4 = 3 := by omega
    rcases this with q | q | q | q <;> rw [q]
    · exact ⟨1, fun _ _ => ⟨by simp, by omega, by omega⟩⟩
    · exact ⟨1 + d / 4 % 9, fun _ _ => ⟨by simp, by omega, by omega⟩⟩
    · exact ⟨1 + d / 4 % 2, fun _ _ => ⟨by simp, by omega, by omega⟩⟩
    · exact ⟨1000000000000000000000000000000 - 1 - d, fun _ _ => ⟨at3, by omega, by omega⟩⟩
  obtain ⟨g, hg⟩ : ∃ g : Int → Int, ∀ d, 0 ≤ d → d < 1000000000 → atI [PyData.int 1, .int (1 + d / 4 % 9), .int (1 + d / 4 % 2), .int (1000000000000000000000000000000 - 1 - d)] (d % 4) = some (.int (g d)) ∧ 1 ≤ g d ∧ g d ≤ 1000000000000000000000000000000 := Classical.skolem.mp pick4
  refine ⟨ds.map g, ?_, by simpa using l1, fun x hx => ?_⟩
  · have s4 : leS 4 := size_le (by omega)
    have el : l_law_weights_1 ⟨[.ob (.scr ns), .val (.int ((j : Nat) : Int)), .val (.int ((h : Nat) : Int)), .own (ds.map .int), .no], w⟩ = .ok (.new (ds.map fun d => .int (g d))) ⟨[.ob (.scr ns), .val (.int ((j : Nat) : Int)), .val (.int ((h : Nat) : Int)), .val (.list (ds.map .int)), .no], w⟩ := by
      refine lc_all (fun x : Int => ⟨[.ob (.scr ns), .val (.int ((j : Nat) : Int)), .val (.int ((h : Nat) : Int)), .val (.list (ds.map .int)), .val (.int (x))], w⟩) _ (f := .int) (l := ds) (by simp -implicitDefEqProofs) (by omega) rfl (fun a _ => by rfl) (fun a _ => by rfl) (fun x hx => ?_)
      have := (hg x (d1 x hx).1 (d1 x hx).2).1
      unfold e_law_weights_1
      simp -implicitDefEqProofs [s4]
      simp -implicitDefEqProofs at this
      simp -implicitDefEqProofs [this]
    unfold F_law_weights p_law_weights
    simp only [x_runF]
    simp -implicitDefEqProofs [e1, el]
    try rfl
  · obtain ⟨d, hd, rfl⟩ := List.mem_map.mp hx
    exact (hg d (d1 d hd).1 (d1 d hd).2).2

end DL

noncomputable section
namespace DL
open PySem L2
def b_lead_1 : DSt → Flow := fIfS (fB (fUser F_is_ahead (fCons (fVar 5) (fCons (fVar 2) (fCons (fVar 3) fNil))))) (fAug 4 (fun a b => a + b) (fVar 6)) (fAug 4 (fun a b => a - b) (fVar 6))
abbrev o_lead_1 : List PyData → DSt → Flow := loopF (bTup 2 (bCons (bName 5) (bCons (bName 6) bNil))) b_lead_1
def p_lead : DSt → Flow := fseq (fSet 4 (fC (.int 0))) (fseq (fFor (fZip (fCons (fVar 0) (fCons (fVar 1) fNil))) (bTup 2 (bCons (bName 5) (bCons (bName 6) bNil))) b_lead_1) (fRet (fVar 4)))
def F_lead : List R → Pw → FRes := runF 7 4 p_lead
def e_must_be_weighed_1 : M R := fAndV (fUser F_is_number (fCons (fVar 2) fNil)) (fOp (lift2 geO) (fVar 2) (fC (.int 1)))
abbrev l_must_be_weighed_1 : M R := fLc (fLstI (fVar 1)) (bName 2) fYes (e_must_be_weighed_1) [2]
def p_must_be_weighed : DSt → Flow := fseq (fDrop (fUser F_must_be_folk (fCons (fVar 0) fNil))) (fseq (fIfS (fOr (fNot (fB (fIsi "list" (fVar 1)))) (fB (fOp (lift2 neO) (fCall lenO (pCons (fVar 1) fNil)) (fCall lenO (pCons (fVar 0) fNil))))) (fRaise "NoWeights") fnext) (fIfS (fNot (fB (fCall allO (pCons (fLc (fLstI (fVar 1)) (bName 2) fYes (e_must_be_weighed_1) [2]) fNil)))) (fRaise "NoWeights") fnext))
def F_must_be_weighed : List R → Pw → FRes := runF 3 2 p_must_be_weighed
def b_law_lead_1 : DSt → Flow := fSet 4 (fOp (lift2 addO) (fVar 4) (fOp (lift2 ixO) (fLst (fCons (fVar 6) (fCons (fOp (lift2 subO) (fC (.int 0)) (fVar 6)) fNil))) (fCall intO (pCons (fOp (lift2 gtO) (fIndex (fVar 5) (fVar 2)) (fIndex (fVar 5) (fVar 3))) fNil))))
abbrev o_law_lead_1 : List PyData → DSt → Flow := loopF (bTup 2 (bCons (bName 5) (bCons (bName 6) bNil))) b_law_lead_1
def p_law_lead : DSt → Flow := fseq (fSet 4 (fC (.int 0))) (fseq (fFor (fZip (fCons (fVar 0) (fCons (fVar 1) fNil))) (bTup 2 (bCons (bName 5) (bCons (bName 6) bNil))) b_law_lead_1) (fRet (fVar 4)))
def F_law_lead : List R → Pw → FRes := runF 7 4 p_law_lead
def p_margin : DSt → Flow := fseq (fDrop (fUser F_must_be_weighed (fCons (fVar 0) (fCons (fVar 1) fNil)))) (fseq (fIfS (fOr (fB (fOp (lift2 notInO) (fVar 2) (fOp (lift2 ixO) (fVar 0) (fC (.int 0))))) (fOr (fB (fOp (lift2 notInO) (fVar 3) (fOp (lift2 ixO) (fVar 0) (fC (.int 0))))) (fB (fOp (lift2 eqO) (fVar 2) (fVar 3))))) (fRaise "NoNames") fnext) (fRet (fUser F_lead (fCons (fVar 0) (fCons (fVar 1) (fCons (fVar 2) (fCons (fVar 3) fNil)))))))
def F_margin : List R → Pw → FRes := runF 4 4 p_margin
def e_law_copied_1 (rec : List R → Pw → FRes) : M R := fUser rec (fCons (fVar 1) fNil)
abbrev l_law_copied_1 (rec : List R → Pw → FRes) : M R := fLc (fLstI (fVar 0)) (bName 1) fYes ((e_law_copied_1 rec)) [1]
def e_law_copied_2 (rec : List R → Pw → FRes) : M R := fUser rec (fCons (fVar 1) fNil)
abbrev l_law_copied_2 (rec : List R → Pw → FRes) : M R := fLc (fLstI (fVar 0)) (bName 1) fYes ((e_law_copied_2 rec)) [1]
def p_law_copied (rec : List R → Pw → FRes) : DSt → Flow := fseq (fIfS (fB (fIsi "tuple" (fVar 0))) (fRet (fCall tupleO (pCons (fLc (fLstI (fVar 0)) (bName 1) fYes ((e_law_copied_1 rec)) [1]) fNil))) fnext) (fseq (fIfS (fB (fIsi "list" (fVar 0))) (fRet (fLc (fLstI (fVar 0)) (bName 1) fYes ((e_law_copied_2 rec)) [1])) fnext) (fRet (fVar 0)))
def F_law_copied : Nat → List R → Pw → FRes
  | 0 => runF 2 1 fnever
  | m + 1 => runF 2 1 (p_law_copied (F_law_copied m))
def fwD (p : List Int × Int) : PyData := .tuple [llD p.1, .int p.2]
theorem zip_fw {f : List (List Int)} {ws : List Int} : zipD (f.map llD) (ws.map .int) = (f.zip ws).map fwD := by
  unfold zipD
  rw [List.zip_map, List.map_map]
  rfl
def ledI (x y : Int) (p : List Int × Int) : Int := if p.1.idxOf x < p.1.idxOf y then p.2 else -p.2
def leadI (f : List (List Int)) (ws : List Int) (x y : Int) : Int := ((f.zip ws).map (ledI x y)).sum
def Wts (f : List (List Int)) (ws : List Int) : Prop := ws.length = f.length ∧ ∀ x ∈ ws, 1 ≤ x
theorem weighed_ok {f : List (List Int)} {ws : List Int} {w : Pw} (hf : Folk f) (hw : Wts f ws) : F_must_be_weighed [.val (.list ((f).map llD)), .val (.list ((ws).map .int))] w = .ok (.val .none) w := by
  have h20 := hf.2.1
  have el : l_must_be_weighed_1 ⟨[.val (.list ((f).map llD)), .val (.list ((ws).map .int)), .no], w⟩ = .ok (.new (ws.map fun x => .bool (decide (1 ≤ x)))) ⟨[.val (.list ((f).map llD)), .val (.list ((ws).map .int)), .no], w⟩ := by
    refine lc_all (fun x : Int => ⟨[.val (.list ((f).map llD)), .val (.list ((ws).map .int)), .val (.int (x))], w⟩) _ (f := .int) (l := ws) (by simp -implicitDefEqProofs) (by have := hw.1; omega) rfl (fun a _ => by rfl) (fun a _ => by rfl) (fun x hx => ?_)
    unfold e_must_be_weighed_1
    simp -implicitDefEqProofs
  have e3 : (ws.map fun x : Int => decide (1 ≤ x)).all id = true := by simpa using hw.2
  unfold F_must_be_weighed p_must_be_weighed
  simp only [x_runF]
  simp -implicitDefEqProofs [must_folk_ok hf, hw.1, el, boolsD_map', e3]
theorem whole_ok {d : PyData} {w : Pw} : F_law_whole [.val d] w = .ok (.val (.bool (isI d))) w := by
  unfold F_law_whole p_law_whole
  simp only [x_runF]
  cases d <;> simp -implicitDefEqProofs [isI]

end DL

noncomputable section
namespace DL
open PySem L2
def t_law_names_of_v2_1 : M Bool := fB (fVar 4)
def e_law_names_of_v2_2 : M R := fVar 3
abbrev l_law_names_of_v2_2 : M R := fLc (fZip (fCons (fVar 2) (fCons (fVar 1) fNil))) (bTup 2 (bCons (bName 3) (bCons (bName 4) bNil))) (t_law_names_of_v2_1) (e_law_names_of_v2_2) [3, 4]
def p_law_names_of_v2 : DSt → Flow := fseq (fSet 1 (fLst (fCons (fIsY ["NoFolk", "NoNames", "NoWeights"] "NoBack" (fVar 0)) (fCons (fIsY ["NoFolk", "NoNames", "NoWeights"] "NoFall" (fVar 0)) (fCons (fIsY ["NoFolk", "NoNames", "NoWeights"] "NoFit" (fVar 0)) fNil))))) (fseq (fSet 1 (fOp (lift2 addO) (fVar 1) (fLst (fCons (fIsY ["NoFolk", "NoNames", "NoWeights"] "NoFixed" (fVar 0)) (fCons (fIsX ["NoFolk", "NoNames", "NoWeights"] "NoFolk" (fVar 0)) (fCons (fIsY ["NoFolk", "NoNames", "NoWeights"] "NoHand" (fVar 0)) fNil)))))) (fseq (fSet 1 (fOp (lift2 addO) (fVar 1) (fLst (fCons (fIsY ["NoFolk", "NoNames", "NoWeights"] "NoLine" (fVar 0)) (fCons (fIsX ["NoFolk", "NoNames", "NoWeights"] "NoNames" (fVar 0)) (fCons (fIsY ["NoFolk", "NoNames", "NoWeights"] "NoNumber" (fVar 0)) fNil)))))) (fseq (fSet 1 (fOp (lift2 addO) (fVar 1) (fLst (fCons (fIsY ["NoFolk", "NoNames", "NoWeights"] "NoPaper" (fVar 0)) (fCons (fIsY ["NoFolk", "NoNames", "NoWeights"] "NoRanking" (fVar 0)) (fCons (fIsY ["NoFolk", "NoNames", "NoWeights"] "NoRow" (fVar 0)) fNil)))))) (fseq (fSet 1 (fOp (lift2 addO) (fVar 1) (fLst (fCons (fIsY ["NoFolk", "NoNames", "NoWeights"] "NoRule" (fVar 0)) (fCons (fIsY ["NoFolk", "NoNames", "NoWeights"] "NoText" (fVar 0)) (fCons (fIsY ["NoFolk", "NoNames", "NoWeights"] "NoTitle" (fVar 0)) fNil)))))) (fseq (fSet 1 (fOp (lift2 addO) (fVar 1) (fLst (fCons (fIsY ["NoFolk", "NoNames", "NoWeights"] "NoTops" (fVar 0)) (fCons (fIsY ["NoFolk", "NoNames", "NoWeights"] "NoTree" (fVar 0)) (fCons (fIsX ["NoFolk", "NoNames", "NoWeights"] "NoWeights" (fVar 0)) fNil)))))) (fseq (fSet 1 (fOp (lift2 addO) (fVar 1) (fLst (fCons (fIsY ["NoFolk", "NoNames", "NoWeights"] "TooGreat" (fVar 0)) fNil)))) (fseq (fSet 2 (fLst (fCons (fC (.str "NoBack")) (fCons (fC (.str "NoFall")) (fCons (fC (.str "NoFit")) (fCons (fC (.str "NoFixed")) (fCons (fC (.str "NoFolk")) (fCons (fC (.str "NoHand")) (fCons (fC (.str "NoLine")) (fCons (fC (.str "NoNames")) fNil)))))))))) (fseq (fSet 2 (fOp (lift2 addO) (fVar 2) (fLst (fCons (fC (.str "NoNumber")) (fCons (fC (.str "NoPaper")) (fCons (fC (.str "NoRanking")) (fCons (fC (.str "NoRow")) (fCons (fC (.str "NoRule")) (fCons (fC (.str "NoText")) (fCons (fC (.str "NoTitle")) (fCons (fC (.str "NoTops")) fNil))))))))))) (fseq (fSet 2 (fOp (lift2 addO) (fVar 2) (fLst (fCons (fC (.str "NoTree")) (fCons (fC (.str "NoWeights")) (fCons (fC (.str "TooGreat")) fNil)))))) (fRet (fLc (fZip (fCons (fVar 2) (fCons (fVar 1) fNil))) (bTup 2 (bCons (bName 3) (bCons (bName 4) bNil))) (t_law_names_of_v2_1) (e_law_names_of_v2_2) [3, 4])))))))))))
def F_law_names_of_v2 : List R → Pw → FRes := runF 5 1 p_law_names_of_v2
def b_law_refused_v16_1 : DSt → Flow := fDrop (fUser F_margin (fCons (fVar 0) (fCons (fVar 1) (fCons (fVar 2) (fCons (fVar 3) fNil)))))
def p_law_refused_v16 : DSt → Flow := fseq (fSet 4 (fC .none)) (fseq (fTry ["NoFolk", "NoNames", "NoWeights"] 5 4 b_law_refused_v16_1) (fRet (fAndV (fIsV ["NoFolk", "NoNames", "NoWeights"] (fVar 4)) (fOp (lift2 eqO) (fUser F_law_names_of_v2 (fCons (fVar 4) fNil)) (fLst (fCons (fC (.str "NoNames")) fNil))))))
def F_law_refused_v16 : List R → Pw → FRes := runF 6 4 p_law_refused_v16
def b_law_k50_1 : DSt → Flow := fIfS (fB (fOp (lift2 neO) (fVar 7) (fVar 8))) (fseq (fSet 9 (fUser F_margin (fCons (fOp (lift2 ixO) (fVar 6) (fC (.int 0))) (fCons (fOp (lift2 ixO) (fVar 6) (fC (.int 1))) (fCons (fVar 7) (fCons (fVar 8) fNil)))))) (fseq (fIfS (fOr (fNot (fB (fUser F_law_whole (fCons (fVar 9) fNil)))) (fB (fOp (lift2 neO) (fVar 9) (fUser F_law_lead (fCons (fVar 4) (fCons (fVar 5) (fCons (fVar 7) (fCons (fVar 8) fNil)))))))) (fRet (fC (.bool false))) fnext) (fIfS (fB (fOp (lift2 neO) (fVar 6) (fLst (fCons (fVar 4) (fCons (fVar 5) fNil))))) (fRet (fC (.bool false))) fnext))) fnext
abbrev o_law_k50_1 : List PyData → DSt → Flow := loopF (bName 8) b_law_k50_1
def b_law_k50_2 : DSt → Flow := fFor (fLstI (fVar 2)) (bName 8) b_law_k50_1
abbrev o_law_k50_2 : List PyData → DSt → Flow := loopF (bName 7) b_law_k50_2
def t_law_k50_3 : M Bool := fB (fOp (lift2 notInO) (fOp (lift2 addO) (fVar 11) (fC (.int 1))) (fVar 2))
def e_law_k50_4 : M R := fOp (lift2 addO) (fVar 11) (fC (.int 1))
abbrev l_law_k50_4 : M R := fLc (fLstI (fVar 2)) (bName 11) (t_law_k50_3) (e_law_k50_4) [11]
def b_law_k50_5 : DSt → Flow := fIfS (fOr (fNot (fB (fUser F_law_refused_v16 (fCons (fOp (lift2 ixO) (fVar 6) (fC (.int 0))) (fCons (fOp (lift2 ixO) (fVar 6) (fC (.int 1))) (fCons (fVar 7) (fCons (fVar 8) fNil))))))) (fNot (fB (fUser F_law_refused_v16 (fCons (fOp (lift2 ixO) (fVar 6) (fC (.int 0))) (fCons (fOp (lift2 ixO) (fVar 6) (fC (.int 1))) (fCons (fVar 8) (fCons (fVar 7) fNil)))))))) (fRet (fC (.bool false))) fnext
abbrev o_law_k50_5 : List PyData → DSt → Flow := loopF (bName 8) b_law_k50_5
def p_law_k50 : DSt → Flow := fseq (fSet 1 (fUser F_law_draws (fCons (fVar 0) (fCons (fC (.int 0)) (fCons (fC (.int 5)) fNil))))) (fseq (fSet 2 (fUser F_law_line (fCons (fVar 0) (fCons (fC (.int 1)) (fCons (fOp (lift2 ixO) (fLst (fCons (fOp (lift2 addO) (fC (.int 1)) (fOp (lift2 modO) (fOp (lift2 ixO) (fVar 1) (fC (.int 0))) (fC (.int 7)))) (fCons (fC (.int 10)) fNil))) (fCall intO (pCons (fOp (lift2 eqO) (fOp (lift2 modO) (fOp (lift2 fdivO) (fOp (lift2 ixO) (fVar 1) (fC (.int 0))) (fC (.int 64))) (fC (.int 8))) (fC (.int 3))) fNil))) fNil))))) (fseq (fSet 3 (fOp (lift2 ixO) (fLst (fCons (fOp (lift2 addO) (fC (.int 1)) (fOp (lift2 modO) (fOp (lift2 ixO) (fVar 1) (fC (.int 1))) (fC (.int 9)))) (fCons (fC (.int 20)) fNil))) (fCall intO (pCons (fOp (lift2 eqO) (fOp (lift2 modO) (fOp (lift2 fdivO) (fOp (lift2 ixO) (fVar 1) (fC (.int 1))) (fC (.int 64))) (fC (.int 8))) (fC (.int 3))) fNil)))) (fseq (fSet 4 (fUser F_law_folk_v3 (fCons (fVar 0) (fCons (fC (.int 3)) (fCons (fVar 2) (fCons (fVar 3) (fCons (fOp (lift2 ixO) (fLst (fCons (fUn (lift1 negO) (fC (.int 1))) (fCons (fVar 3) fNil))) (fOp (lift2 modO) (fOp (lift2 ixO) (fVar 1) (fC (.int 2))) (fC (.int 2)))) fNil))))))) (fseq (fSet 5 (fUser F_law_weights (fCons (fVar 0) (fCons (fC (.int 2)) (fCons (fVar 3) fNil))))) (fseq (fSet 6 (fUser (F_law_copied 6) (fCons (fLst (fCons (fVar 4) (fCons (fVar 5) fNil))) fNil))) (fseq (fFor (fLstI (fVar 2)) (bName 7) b_law_k50_2) (fseq (fSet 7 (fOp (lift2 ixO) (fVar 2) (fOp (lift2 modO) (fOp (lift2 ixO) (fVar 1) (fC (.int 3))) (fCall lenO (pCons (fVar 2) fNil))))) (fseq (fSet 10 (fLc (fLstI (fVar 2)) (bName 11) (t_law_k50_3) (e_law_k50_4) [11])) (fseq (fFor (fLstI (fLst (fCons (fVar 7) (fCons (fOp (lift2 ixO) (fVar 10) (fOp (lift2 modO) (fOp (lift2 ixO) (fVar 1) (fC (.int 4))) (fCall lenO (pCons (fVar 10) fNil)))) (fCons (fOp (lift2 addO) (fOp (lift2 addO) (fCall maxO (pCons (fVar 2) fNil)) (fC (.int 1))) (fOp (lift2 ixO) (fVar 1) (fC (.int 4)))) fNil))))) (bName 8) b_law_k50_5) (fRet (fOp (lift2 eqO) (fVar 6) (fLst (fCons (fVar 4) (fCons (fVar 5) fNil))))))))))))))
def F_law_k50 : List R → Pw → FRes := runF 12 1 p_law_k50
@[simp] theorem atI_lit {α : Type} {xs : List α} {k : Nat} : atI xs (no_index (OfNat.ofNat k)) = xs[k]? := by
  show atI xs ((k : Nat) : Int) = _
  exact atI_nat
def cpR' : PyData → R
  | .list ds => .new ds
  | d => .val d
theorem esc_cp' {d : PyData} {s : DSt} : esc (cpR' d) s = some (.val d, s) := by cases d <;> rfl
theorem copied_ok : ∀ {n m : Nat} {d : PyData} {w : Pw}, bdd n d → n < m → F_law_copied m [.val d] w = .ok (cpR' d) w
  | n, 0, _, _, _, h => by omega
  | n, m + 1, d, w, b, h => by
    have ih : ∀ {k : Nat} {x : PyData}, bdd k x → k < m → ∀ w, F_law_copied m [.val x] w = .ok (cpR' x) w := fun b h w => copied_ok b h
    unfold F_law_copied p_law_copied
    simp only [x_runF]
    cases d with
    | list ds =>
      cases n with
      | zero => unfold bdd at b; exact b.elim
      | succ n =>
        rw [bdd_list] at b
        have e : l_law_copied_2 (F_law_copied m) ⟨[.val (.list ds), .no], w⟩ = .ok (.new (ds.map id)) ⟨[.val (.list ds), .no], w⟩ := by
          refine lc_all (fun x : PyData => ⟨[.val (.list ds), .val x], w⟩) _ (f := id) (l := ds) (by simp -implicitDefEqProofs) (by omega) rfl (fun a _ => by rfl) (fun a _ => by rfl) (fun x hx => ?_)
          unfold e_law_copied_2
          simp -implicitDefEqProofs [ih (b.2 x hx) (by omega), esc_cp']
        rw [List.map_id] at e
        simp -implicitDefEqProofs [e, cpR']
    | tuple ds =>
      cases n with
      | zero => unfold bdd at b; exact b.elim
      | succ n =>
        rw [bdd_tuple] at b
        have e : l_law_copied_1 (F_law_copied m) ⟨[.val (.tuple ds), .no], w⟩ = .ok (.new (ds.map id)) ⟨[.val (.tuple ds), .no], w⟩ := by
          refine lc_all (fun x : PyData => ⟨[.val (.tuple ds), .val x], w⟩) _ (f := id) (l := ds) (by simp -implicitDefEqProofs) (by omega) rfl (fun a _ => by rfl) (fun a _ => by rfl) (fun x hx => ?_)
          unfold e_law_copied_1
          simp -implicitDefEqProofs [ih (b.2 x hx) (by omega), esc_cp']
        rw [List.map_id] at e
        simp -implicitDefEqProofs [e, cpR']
    | dict kvs => cases n <;> (unfold bdd at b; exact b.elim)
    | _ => simp -implicitDefEqProofs [cpR']
def tgB (p : Str × Bool) : PyData := .tuple [.str p.1, .bool p.2]
end DL

noncomputable section
namespace DL
open PySem L2

theorem two_at {P : Prop} [Decidable P] {a b : Nat} {lo hi : Nat} (ha : lo ≤ a ∧ a ≤ hi) (hb : lo ≤ b ∧ b ≤ hi) : ∃ m : Nat, atI [PyData.int (a : Int), .int (b : Int)] (if P then 1 else 0) = some (.int (m : Int)) ∧ lo ≤ m ∧ m ≤ hi := by
  by_cases h : P
  · rw [if_pos h]; exact ⟨b, by simp, hb⟩
  · rw [if_neg h]; exact ⟨a, by simp, ha⟩
theorem folk_of {L : List Int} {f : List (List Int)} {fr : Prop} (hL : Rank L) (h0 : 0 < f.length) (h20 : f.length ≤ 20) (h : Hands L f fr) : Folk f := ⟨h0, h20, fun r hr => ⟨hL.perm (h r hr).1, fun q hq => (h q hq).1.trans (h r hr).1.symm⟩⟩
theorem bdd_ints {n : Nat} {l : List Int} (h : l.length ≤ 1000) : bdd (n + 1) (.list (l.map .int)) := bdd_list.mpr ⟨by simpa using h, fun d hd => by obtain ⟨z, _, rfl⟩ := List.mem_map.mp hd; simp⟩
theorem bdd_folk {n : Nat} {f : List (List Int)} (h : f.length ≤ 1000) (h2 : ∀ r ∈ f, r.length ≤ 1000) : bdd (n + 2) (.list (f.map llD)) := bdd_list.mpr ⟨by simpa using h, fun d hd => by obtain ⟨z, hz, rfl⟩ := List.mem_map.mp hd; exact bdd_ints (h2 z hz)⟩
end DL

noncomputable section
namespace DL
open PySem L2
def e_paid_1 : M R := fIndex (fVar 4) (fVar 6)
abbrev l_paid_1 : M R := fLc (fLstI (fVar 2)) (bName 6) fYes (e_paid_1) [6]
def b_paid_2 : DSt → Flow := fAug 3 (fun a b => a + b) (fOp (lift2 mulO) (fVar 5) (fCall minO (pCons (fLc (fLstI (fVar 2)) (bName 6) fYes (e_paid_1) [6]) fNil)))
abbrev o_paid_2 : List PyData → DSt → Flow := loopF (bTup 2 (bCons (bName 4) (bCons (bName 5) bNil))) b_paid_2
def p_paid : DSt → Flow := fseq (fSet 3 (fC (.int 0))) (fseq (fFor (fZip (fCons (fVar 0) (fCons (fVar 1) fNil))) (bTup 2 (bCons (bName 4) (bCons (bName 5) bNil))) b_paid_2) (fRet (fVar 3)))
def F_paid : List R → Pw → FRes := runF 7 3 p_paid
def e_cost_1 : M R := fOp (lift2 inO) (fVar 3) (fOp (lift2 ixO) (fVar 0) (fC (.int 0)))
abbrev l_cost_1 : M R := fLc (fLstI (fVar 2)) (bName 3) fYes (e_cost_1) [3]
def p_cost : DSt → Flow := fseq (fDrop (fUser F_must_be_weighed (fCons (fVar 0) (fCons (fVar 1) fNil)))) (fseq (fIfS (fOr (fNot (fB (fUser F_are_unlike_names (fCons (fVar 2) fNil)))) (fOr (fB (fOp (lift2 ltO) (fCall lenO (pCons (fVar 2) fNil)) (fC (.int 1)))) (fNot (fB (fCall allO (pCons (fLc (fLstI (fVar 2)) (bName 3) fYes (e_cost_1) [3]) fNil)))))) (fRaise "NoNames") fnext) (fRet (fUser F_paid (fCons (fVar 0) (fCons (fVar 1) (fCons (fVar 2) fNil))))))
def F_cost : List R → Pw → FRes := runF 4 3 p_cost
def e_law_cost_1 : M R := fIndex (fVar 4) (fVar 6)
abbrev l_law_cost_1 : M R := fLc (fLstI (fVar 2)) (bName 6) fYes (e_law_cost_1) [6]
def b_law_cost_2 : DSt → Flow := fSet 3 (fOp (lift2 addO) (fVar 3) (fOp (lift2 mulO) (fVar 5) (fCall minO (pCons (fLc (fLstI (fVar 2)) (bName 6) fYes (e_law_cost_1) [6]) fNil))))
abbrev o_law_cost_2 : List PyData → DSt → Flow := loopF (bTup 2 (bCons (bName 4) (bCons (bName 5) bNil))) b_law_cost_2
def p_law_cost : DSt → Flow := fseq (fSet 3 (fC (.int 0))) (fseq (fFor (fZip (fCons (fVar 0) (fCons (fVar 1) fNil))) (bTup 2 (bCons (bName 4) (bCons (bName 5) bNil))) b_law_cost_2) (fRet (fVar 3)))
def F_law_cost : List R → Pw → FRes := runF 7 3 p_law_cost
def b_law_gain_1 : DSt → Flow := fSet 4 (fOp (lift2 addO) (fVar 4) (fOp (lift2 mulO) (fVar 6) (fCall maxO (pCons (fC (.int 0)) (pCons (fOp (lift2 subO) (fIndex (fVar 5) (fVar 2)) (fIndex (fVar 5) (fVar 3))) fNil)))))
abbrev o_law_gain_1 : List PyData → DSt → Flow := loopF (bTup 2 (bCons (bName 5) (bCons (bName 6) bNil))) b_law_gain_1
def p_law_gain : DSt → Flow := fseq (fSet 4 (fC (.int 0))) (fseq (fFor (fZip (fCons (fVar 0) (fCons (fVar 1) fNil))) (bTup 2 (bCons (bName 5) (bCons (bName 6) bNil))) b_law_gain_1) (fRet (fVar 4)))
def F_law_gain : List R → Pw → FRes := runF 7 4 p_law_gain
def t_law_by_gains_1 : M Bool := fB (fOp (lift2 inO) (fVar 8) (fVar 3))
def e_law_by_gains_2 : M R := fVar 8
abbrev l_law_by_gains_2 : M R := fLc (fLstI (fVar 2)) (bName 8) (t_law_by_gains_1) (e_law_by_gains_2) [8]
def b_law_by_gains_3 : DSt → Flow := fSet 5 (fOp (lift2 subO) (fVar 5) (fUser F_law_gain (fCons (fVar 0) (fCons (fVar 1) (fCons (fVar 6) (fCons (fVar 7) fNil))))))
abbrev o_law_by_gains_3 : List PyData → DSt → Flow := loopF (bTup 2 (bCons (bName 6) (bCons (bName 7) bNil))) b_law_by_gains_3
def p_law_by_gains : DSt → Flow := fseq (fSet 4 (fLc (fLstI (fVar 2)) (bName 8) (t_law_by_gains_1) (e_law_by_gains_2) [8])) (fseq (fSet 5 (fUser F_law_cost (fCons (fVar 0) (fCons (fVar 1) (fCons (fSlice (fVar 4) fNoPart (fPart (fC (.int 1)))) fNil))))) (fseq (fFor (fZip (fCons (fVar 4) (fCons (fSlice (fVar 4) (fPart (fC (.int 1))) fNoPart) fNil))) (bTup 2 (bCons (bName 6) (bCons (bName 7) bNil))) b_law_by_gains_3) (fRet (fVar 5))))
def F_law_by_gains : List R → Pw → FRes := runF 9 4 p_law_by_gains
def plsI (r N : List Int) : List Int := N.map fun x => ((r.idxOf x : Nat) : Int)
def payP (N : List Int) (p : List Int × Int) : Int := p.2 * minI (plsI p.1 N)
def payI (f : List (List Int)) (ws N : List Int) : Int := ((f.zip ws).map (payP N)).sum
theorem plsI_ne {r N : List Int} (h : N ≠ []) : plsI r N ≠ [] := by simpa [plsI] using h
theorem pls_min {r N : List Int} (h : N ≠ []) (h10 : r.length ≤ 1000) (hr : ∀ x ∈ N, x ∈ r) : 0 ≤ minI (plsI r N) ∧ minI (plsI r N) < 1000 := by
  have m := minI_mem (plsI_ne (r := r) h)
  unfold plsI at m ⊢
  obtain ⟨x, hx, e⟩ := List.mem_map.mp m
  have := List.idxOf_lt_length_iff.mpr (hr x hx)
  omega
theorem lc_pls {r N : List Int} {fi : M (List PyData)} {b : Bd} {fe : M R} {vs : List Nat} {s s1 : DSt} (sb : Int → DSt) (hi : fi s = .ok (N.map .int) s1) (hl : N.length ≤ 100000) (hn : noOwn vs s1.d = true)
    (h1 : ∀ a ∈ N, b (.int a) ⟨blank vs s1.d, s1.w⟩ = some (sb a)) (h2 : ∀ a ∈ N, (⟨putBack vs s1.d (sb a).d, (sb a).w⟩ : DSt) = s1) (h3 : ∀ a ∈ N, (fe (sb a)).bind fEsc = .ok (.val (.int ((r.idxOf a : Nat) : Int))) (sb a)) :
    fLc fi b fYes fe vs s = .ok (.new ((plsI r N).map .int)) s1 := by
  have := lc_all (fi := fi) (b := b) (fe := fe) (vs := vs) (s := s) sb (fun a : Int => .int ((r.idxOf a : Nat) : Int)) (f := .int) (l := N) hi hl hn h1 h2 h3
  rw [this]
  unfold plsI
  rw [List.map_map]
  rfl
theorem paid_ok {f : List (List Int)} {ws N : List Int} {w : Pw} (h0 : N ≠ []) (hl : N.length ≤ 1000) (hf : ∀ r ∈ f, r.length ≤ 1000 ∧ ∀ x ∈ N, x ∈ r) (hw : ∀ x ∈ ws, 0 ≤ x ∧ x ≤ 1000000000000000000000000000000) : F_paid [.val (.list ((f).map llD)), .val (.list ((ws).map .int)), .val (.list ((N).map .int))] w = .ok (.val (.int (payI f ws N))) w := by
  obtain ⟨s', e, v4, v5, rfl⟩ := loopN (b := bTup 2 (bCons (bName 4) (bCons (bName 5) bNil))) (p := b_paid_2) (f := fwD) (l := f.zip ws) (s := ⟨[.val (.list ((f).map llD)), .val (.list ((ws).map .int)), .val (.list ((N).map .int)), .val (.int (0)), .no, .no, .no], w⟩)
    (fun i s => ∃ v4 v5, s = ⟨[.val (.list ((f).map llD)), .val (.list ((ws).map .int)), .val (.list ((N).map .int)), .val (.int ((((f.zip ws).take i).map (payP N)).sum)), v4, v5, .no], w⟩) ⟨.no, .no, by simp⟩ (by
      rintro i p s hi hm ⟨v4, v5, rfl⟩
      obtain ⟨hr, hp⟩ := List.of_mem_zip (show (p.1, p.2) ∈ f.zip ws from hm)
      obtain ⟨r1, r2⟩ := hf _ hr
      obtain ⟨p0, p1⟩ := hw _ hp
      obtain ⟨m0, m1⟩ := pls_min h0 r1 r2
      rw [take_succ hi, List.map_append, List.sum_append]
      obtain ⟨T, hT⟩ : ∃ T, (((f.zip ws).take i).map (payP N)).sum = T := ⟨_, rfl⟩
      rw [hT]
      have el : l_paid_1 ⟨[.val (.list ((f).map llD)), .val (.list ((ws).map .int)), .val (.list ((N).map .int)), .val (.int (T)), .val (.list ((p.1).map .int)), .val (.int (p.2)), .no], w⟩ = .ok (.new ((plsI p.1 N).map .int)) ⟨[.val (.list ((f).map llD)), .val (.list ((ws).map .int)), .val (.list ((N).map .int)), .val (.int (T)), .val (.list ((p.1).map .int)), .val (.int (p.2)), .no], w⟩ := by
        refine lc_pls (fun a : Int => ⟨[.val (.list ((f).map llD)), .val (.list ((ws).map .int)), .val (.list ((N).map .int)), .val (.int (T)), .val (.list ((p.1).map .int)), .val (.int (p.2)), .val (.int (a))], w⟩) (by simp -implicitDefEqProofs) (by omega) rfl (fun a _ => by rfl) (fun a _ => by rfl) (fun a ha => ?_)
        unfold e_paid_1
        simp -implicitDefEqProofs [idxO_mem (r2 a ha)]
      have em := mul_ok (a := p.2) (b := minI (plsI p.1 N)) (by omega) (by omega) (by omega) (by omega)
      have es : ([p].map (payP N)).sum = p.2 * minI (plsI p.1 N) := by simp [payP]
      rw [es]
      unfold b_paid_2
      simp -implicitDefEqProofs [fwD, llD, el, min_ints (plsI_ne h0), em])
  rw [List.take_length] at e
  unfold F_paid p_paid payI
  simp only [x_runF]
  simp -implicitDefEqProofs [zip_fw, e]
theorem lcost_ok {f : List (List Int)} {ws N : List Int} {w : Pw} (h0 : N ≠ []) (hl : N.length ≤ 1000) (hf : ∀ r ∈ f, r.length ≤ 1000 ∧ ∀ x ∈ N, x ∈ r) (hw : ∀ x ∈ ws, 0 ≤ x ∧ x ≤ 1000000000000000000000000000000) : F_law_cost [.val (.list ((f).map llD)), .val (.list ((ws).map .int)), .val (.list ((N).map .int))] w = .ok (.val (.int (payI f ws N))) w := by
  obtain ⟨s', e, v4, v5, rfl⟩ := loopN (b := bTup 2 (bCons (bName 4) (bCons (bName 5) bNil))) (p := b_law_cost_2) (f := fwD) (l := f.zip ws) (s := ⟨[.val (.list ((f).map llD)), .val (.list ((ws).map .int)), .val (.list ((N).map .int)), .val (.int (0)), .no, .no, .no], w⟩)
    (fun i s => ∃ v4 v5, s = ⟨[.val (.list ((f).map llD)), .val (.list ((ws).map .int)), .val (.list ((N).map .int)), .val (.int ((((f.zip ws).take i).map (payP N)).sum)), v4, v5, .no], w⟩) ⟨.no, .no, by simp⟩ (by
      rintro i p s hi hm ⟨v4, v5, rfl⟩
      obtain ⟨hr, hp⟩ := List.of_mem_zip (show (p.1, p.2) ∈ f.zip ws from hm)
      obtain ⟨r1, r2⟩ := hf _ hr
      obtain ⟨p0, p1⟩ := hw _ hp
      obtain ⟨m0, m1⟩ := pls_min h0 r1 r2
      rw [take_succ hi, List.map_append, List.sum_append]
      obtain ⟨T, hT⟩ : ∃ T, (((f.zip ws).take i).map (payP N)).sum = T := ⟨_, rfl⟩
      rw [hT]
      have el : l_law_cost_1 ⟨[.val (.list ((f).map llD)), .val (.list ((ws).map .int)), .val (.list ((N).map .int)), .val (.int (T)), .val (.list ((p.1).map .int)), .val (.int (p.2)), .no], w⟩ = .ok (.new ((plsI p.1 N).map .int)) ⟨[.val (.list ((f).map llD)), .val (.list ((ws).map .int)), .val (.list ((N).map .int)), .val (.int (T)), .val (.list ((p.1).map .int)), .val (.int (p.2)), .no], w⟩ := by
        refine lc_pls (fun a : Int => ⟨[.val (.list ((f).map llD)), .val (.list ((ws).map .int)), .val (.list ((N).map .int)), .val (.int (T)), .val (.list ((p.1).map .int)), .val (.int (p.2)), .val (.int (a))], w⟩) (by simp -implicitDefEqProofs) (by omega) rfl (fun a _ => by rfl) (fun a _ => by rfl) (fun a ha => ?_)
        unfold e_law_cost_1
        simp -implicitDefEqProofs [idxO_mem (r2 a ha)]
      have em := mul_ok (a := p.2) (b := minI (plsI p.1 N)) (by omega) (by omega) (by omega) (by omega)
      have es : ([p].map (payP N)).sum = p.2 * minI (plsI p.1 N) := by simp [payP]
      rw [es]
      unfold b_law_cost_2
      simp -implicitDefEqProofs [fwD, llD, el, min_ints (plsI_ne h0), em])
  rw [List.take_length] at e
  unfold F_law_cost p_law_cost payI
  simp only [x_runF]
  simp -implicitDefEqProofs [zip_fw, e]
/-! ### gains -/
def gnP (a b : Int) (p : List Int × Int) : Int := p.2 * (if (p.1.idxOf b : Int) < p.1.idxOf a then (p.1.idxOf a : Int) - p.1.idxOf b else 0)
def gainI (f : List (List Int)) (ws : List Int) (a b : Int) : Int := ((f.zip ws).map (gnP a b)).sum
theorem lgain_ok {f : List (List Int)} {ws : List Int} {a b : Int} {w : Pw} (hf : ∀ r ∈ f, r.length ≤ 1000 ∧ a ∈ r ∧ b ∈ r) (hw : ∀ x ∈ ws, 0 ≤ x ∧ x ≤ 1000000000000000000000000000000) : F_law_gain [.val (.list ((f).map llD)), .val (.list ((ws).map .int)), .val (.int (a)), .val (.int (b))] w = .ok (.val (.int (gainI f ws a b))) w := by
  obtain ⟨s', e, v5, v6, rfl⟩ := loopN (b := bTup 2 (bCons (bName 5) (bCons (bName 6) bNil))) (p := b_law_gain_1) (f := fwD) (l := f.zip ws) (s := ⟨[.val (.list ((f).map llD)), .val (.list ((ws).map .int)), .val (.int (a)), .val (.int (b)), .val (.int (0)), .no, .no], w⟩)
    (fun i s => ∃ v5 v6, s = ⟨[.val (.list ((f).map llD)), .val (.list ((ws).map .int)), .val (.int (a)), .val (.int (b)), .val (.int ((((f.zip ws).take i).map (gnP a b)).sum)), v5, v6], w⟩) ⟨.no, .no, by simp⟩ (by
      rintro i p s hi hm ⟨v5, v6, rfl⟩
      obtain ⟨hr, hp⟩ := List.of_mem_zip (show (p.1, p.2) ∈ f.zip ws from hm)
      obtain ⟨r1, r2, r3⟩ := hf _ hr
      obtain ⟨p0, p1⟩ := hw _ hp
      have l2 := List.idxOf_lt_length_iff.mpr r2
      have l3 := List.idxOf_lt_length_iff.mpr r3
      rw [take_succ hi, List.map_append, List.sum_append]
      obtain ⟨T, hT⟩ : ∃ T, (((f.zip ws).take i).map (gnP a b)).sum = T := ⟨_, rfl⟩
      rw [hT]
      have es : ([p].map (gnP a b)).sum = p.2 * (if (p.1.idxOf b : Int) < p.1.idxOf a then (p.1.idxOf a : Int) - p.1.idxOf b else 0) := by simp [gnP]
      rw [es]
      have e1 := idxO_mem r2
      have e2 := idxO_mem r3
      by_cases q : (p.1.idxOf b : Int) < p.1.idxOf a
      · have q2 : (0 : Int) < (p.1.idxOf a : Int) - p.1.idxOf b := by omega
        have q3 : p.1.idxOf b < p.1.idxOf a := by omega
        have em := mul_ok (a := p.2) (b := (p.1.idxOf a : Int) - p.1.idxOf b) (by omega) (by omega) (by omega) (by omega)
        rw [if_pos q]
        unfold b_law_gain_1
        simp -implicitDefEqProofs [fwD, llD, e1, e2, q2, q3, em]
      · have q2 : ¬ (0 : Int) < (p.1.idxOf a : Int) - p.1.idxOf b := by omega
        have q3 : ¬ p.1.idxOf b < p.1.idxOf a := by omega
        have em := mul_ok (a := p.2) (b := 0) (by omega) (by omega) (by omega) (by omega)
        rw [if_neg q]
        unfold b_law_gain_1
        simp -implicitDefEqProofs [fwD, llD, e1, e2, q2, q3, em])
  rw [List.take_length] at e
  unfold F_law_gain p_law_gain gainI
  simp only [x_runF]
  simp -implicitDefEqProofs [zip_fw, e]
/-! ### a valley's least, by its steps down -/
def gs : List Int → Int
  | x :: y :: r => (if y < x then x - y else 0) + gs (y :: r)
  | _ => 0
def noPk (l : List Int) : Prop := ∀ x y z, [x, y, z].Sublist l → ¬ (x < y ∧ z < y)
theorem noPk.tail {x : Int} {l : List Int} (h : noPk (x :: l)) : noPk l := fun a b c s => h a b c (s.cons x)
theorem min_eq {l : List Int} {m : Int} (hm : m ∈ l) (h : ∀ x ∈ l, m ≤ x) : minI l = m := by
  have h1 := minI_le hm
  have h2 := h _ (minI_mem (List.ne_nil_of_mem hm))
  omega
end DL

noncomputable section
namespace DL
open PySem L2
def e_law_copy_1 (rec : List R → Pw → FRes) : M R := fUser rec (fCons (fVar 1) fNil)
abbrev l_law_copy_1 (rec : List R → Pw → FRes) : M R := fLc (fLstI (fVar 0)) (bName 1) fYes ((e_law_copy_1 rec)) [1]
def e_law_copy_2 (rec : List R → Pw → FRes) : M R := fUser rec (fCons (fVar 1) fNil)
abbrev l_law_copy_2 (rec : List R → Pw → FRes) : M R := fLc (fLstI (fVar 0)) (bName 1) fYes ((e_law_copy_2 rec)) [1]
def p_law_copy (rec : List R → Pw → FRes) : DSt → Flow := fseq (fIfS (fB (fIsi "list" (fVar 0))) (fRet (fLc (fLstI (fVar 0)) (bName 1) fYes ((e_law_copy_1 rec)) [1])) fnext) (fseq (fIfS (fB (fIsi "tuple" (fVar 0))) (fRet (fCall tupleO (pCons (fLc (fLstI (fVar 0)) (bName 1) fYes ((e_law_copy_2 rec)) [1]) fNil))) fnext) (fRet (fVar 0)))
def F_law_copy : Nat → List R → Pw → FRes
  | 0 => runF 2 1 fnever
  | m + 1 => runF 2 1 (p_law_copy (F_law_copy m))
def cpR : PyData → R
  | .list ds => .new ds
  | d => .val d
end DL

noncomputable section
namespace DL
open PySem L2
def b_law_is_ranking_1 : DSt → Flow := fIfS (fOr (fB (fIsi "bool" (fVar 1))) (fOr (fNot (fB (fIsi "int" (fVar 1)))) (fB (fOp (lift2 ltO) (fVar 1) (fC (.int 0)))))) (fRet (fC (.bool false))) fnext
abbrev o_law_is_ranking_1 : List PyData → DSt → Flow := loopF (bName 1) b_law_is_ranking_1
def p_law_is_ranking : DSt → Flow := fseq (fIfS (fOr (fNot (fB (fIsi "list" (fVar 0)))) (fOr (fB (fOp (lift2 ltO) (fCall lenO (pCons (fVar 0) fNil)) (fC (.int 1)))) (fB (fOp (lift2 gtO) (fCall lenO (pCons (fVar 0) fNil)) (fC (.int 10)))))) (fRet (fC (.bool false))) fnext) (fseq (fFor (fLstI (fVar 0)) (bName 1) b_law_is_ranking_1) (fRet (fOp (lift2 eqO) (fLenSet (fVar 0)) (fCall lenO (pCons (fVar 0) fNil)))))
def F_law_is_ranking : List R → Pw → FRes := runF 2 1 p_law_is_ranking
def b_law_is_folk_1 : DSt → Flow := fIfS (fOr (fNot (fB (fUser F_law_is_ranking (fCons (fVar 1) fNil)))) (fB (fOp (lift2 neO) (fCall sortedO (pCons (fVar 1) fNil)) (fCall sortedO (pCons (fOp (lift2 ixO) (fVar 0) (fC (.int 0))) fNil))))) (fRet (fC (.bool false))) fnext
abbrev o_law_is_folk_1 : List PyData → DSt → Flow := loopF (bName 1) b_law_is_folk_1
def p_law_is_folk : DSt → Flow := fseq (fIfS (fOr (fNot (fB (fIsi "list" (fVar 0)))) (fOr (fB (fOp (lift2 ltO) (fCall lenO (pCons (fVar 0) fNil)) (fC (.int 1)))) (fB (fOp (lift2 gtO) (fCall lenO (pCons (fVar 0) fNil)) (fC (.int 20)))))) (fRet (fC (.bool false))) fnext) (fseq (fFor (fLstI (fVar 0)) (bName 1) b_law_is_folk_1) (fRet (fC (.bool true))))
def F_law_is_folk : List R → Pw → FRes := runF 2 1 p_law_is_folk
def e_law_bent_1 : M R := fOp (lift2 addO) (fOp (lift2 addO) (fSlice (fVar 1) fNoPart (fPart (fVar 2))) (fLst (fCons (fVar 6) fNil))) (fSlice (fVar 1) (fPart (fOp (lift2 addO) (fVar 2) (fC (.int 1)))) fNoPart)
abbrev l_law_bent_1 : M R := fLc (fLstI (fVar 4)) (bName 6) fYes (e_law_bent_1) [6]
def p_law_bent : DSt → Flow := fseq (fSet 2 (fUser F_law_draw (fCons (fVar 0) (fCons (fCall lenO (pCons (fVar 1) fNil)) fNil)))) (fseq (fSet 3 (fOp (lift2 addO) (fOp (lift2 ixO) (fVar 1) (fVar 2)) (fC (.int 1)))) (fseq (fSet 4 (fLst (fCons (fC (.bool true)) (fCons (fC (.bool false)) (fCons (fC .none) (fCons (fC (.str "1")) (fCons (fUn (lift1 negO) (fC (.int 1))) (fCons (fLst (fCons (fOp (lift2 ixO) (fVar 1) (fVar 2)) fNil)) (fCons (fTup (fCons (fOp (lift2 ixO) (fVar 1) (fVar 2)) fNil)) (fCons (fOp (lift2 ixO) (fVar 1) (fOp (lift2 subO) (fVar 2) (fC (.int 1)))) (fCons (fVar 3) (fCons (fOp (lift2 subO) (fUn (lift1 negO) (fC (.int 1))) (fVar 3)) fNil)))))))))))) (fseq (fSet 5 (fLc (fLstI (fVar 4)) (bName 6) fYes (e_law_bent_1) [6])) (fseq (fSet 5 (fOp (lift2 addO) (fVar 5) (fLst (fCons (fOp (lift2 addO) (fSlice (fVar 1) fNoPart (fPart (fVar 2))) (fSlice (fVar 1) (fPart (fOp (lift2 addO) (fVar 2) (fC (.int 1)))) fNoPart)) (fCons (fOp (lift2 addO) (fVar 1) (fLst (fCons (fOp (lift2 addO) (fCall maxO (pCons (fVar 1) fNil)) (fC (.int 1))) fNil))) (fCons (fOp (lift2 addO) (fVar 1) (fLst (fCons (fOp (lift2 ixO) (fVar 1) (fVar 2)) fNil))) (fCons (fLst fNil) (fCons (fC .none) fNil)))))))) (fseq (fSet 5 (fOp (lift2 addO) (fVar 5) (fLst (fCons (fCall tupleO (pCons (fVar 1) fNil)) (fCons (fC (.int 7)) (fCons (fC (.str "ranking")) (fCons (fLst (fCons (fVar 1) fNil)) (fCons (fLRng1 (fC (.int 10))) (fCons (fLRng1 (fC (.int 11))) (fCons (fUn (lift1 revO) (fVar 1)) fNil)))))))))) (fRet (fOp (lift2 ixO) (fVar 5) (fUser F_law_draw (fCons (fVar 0) (fCons (fCall lenO (pCons (fVar 5) fNil)) fNil))))))))))
def F_law_bent : List R → Pw → FRes := runF 7 2 p_law_bent
def p_law_bent_folk : DSt → Flow := fseq (fSet 2 (fUser F_law_draw (fCons (fVar 0) (fCons (fCall lenO (pCons (fVar 1) fNil)) fNil)))) (fseq (fSet 3 (fLst (fCons (fOp (lift2 addO) (fOp (lift2 addO) (fSlice (fVar 1) fNoPart (fPart (fVar 2))) (fLst (fCons (fUser F_law_bent (fCons (fVar 0) (fCons (fOp (lift2 ixO) (fVar 1) (fVar 2)) fNil))) fNil))) (fSlice (fVar 1) (fPart (fOp (lift2 addO) (fVar 2) (fC (.int 1)))) fNoPart)) (fCons (fOp (lift2 addO) (fVar 1) (fLst (fCons (fUser F_law_bent (fCons (fVar 0) (fCons (fOp (lift2 ixO) (fVar 1) (fC (.int 0))) fNil))) fNil))) fNil)))) (fseq (fSet 4 (fOp (lift2 addO) (fLst (fCons (fOp (lift2 addO) (fCall maxO (pCons (fOp (lift2 ixO) (fVar 1) (fC (.int 0))) fNil)) (fC (.int 1))) fNil)) (fSlice (fOp (lift2 ixO) (fVar 1) (fVar 2)) (fPart (fC (.int 1))) fNoPart))) (fseq (fSet 3 (fOp (lift2 addO) (fVar 3) (fLst (fCons (fOp (lift2 addO) (fOp (lift2 addO) (fSlice (fVar 1) fNoPart (fPart (fVar 2))) (fLst (fCons (fVar 4) fNil))) (fSlice (fVar 1) (fPart (fVar 2)) fNoPart)) (fCons (fLst fNil) (fCons (fOp (lift2 mulO) (fVar 1) (fC (.int 21))) (fCons (fSlice (fOp (lift2 mulO) (fVar 1) (fC (.int 20))) fNoPart (fPart (fC (.int 20)))) (fCons (fSlice (fOp (lift2 mulO) (fVar 1) (fC (.int 21))) fNoPart (fPart (fC (.int 21)))) (fCons (fCall tupleO (pCons (fVar 1) fNil)) fNil))))))))) (fseq (fSet 3 (fOp (lift2 addO) (fVar 3) (fLst (fCons (fC .none) (fCons (fOp (lift2 ixO) (fVar 1) (fC (.int 0))) (fCons (fLst (fCons (fVar 1) fNil)) (fCons (fC (.int 7)) (fCons (fOp (lift2 addO) (fVar 1) (fLst (fCons (fSlice (fOp (lift2 ixO) (fVar 1) (fVar 2)) fNoPart (fPart (fUn (lift1 negO) (fC (.int 1))))) fNil))) (fCons (fVar 1) fNil))))))))) (fRet (fOp (lift2 ixO) (fVar 3) (fUser F_law_draw (fCons (fVar 0) (fCons (fCall lenO (pCons (fVar 3) fNil)) fNil)))))))))
def F_law_bent_folk : List R → Pw → FRes := runF 5 2 p_law_bent_folk
def b_law_asked_v7_1 : DSt → Flow := fseq (fSet 4 (fUser F_is_ranking (fCons (fVar 2) fNil))) (fseq (fIfS (fOr (fNot (fB (fIsi "bool" (fVar 4)))) (fOr (fB (fOp (lift2 neO) (fVar 4) (fUser F_law_is_ranking (fCons (fVar 0) fNil)))) (fB (fOp (lift2 neO) (fVar 2) (fVar 0))))) (fRet (fC (.bool false))) fnext) (fseq (fSet 4 (fUser F_is_folk (fCons (fVar 2) fNil))) (fseq (fIfS (fOr (fNot (fB (fIsi "bool" (fVar 4)))) (fOr (fB (fOp (lift2 neO) (fVar 4) (fUser F_law_is_folk (fCons (fVar 0) fNil)))) (fB (fOp (lift2 neO) (fVar 2) (fVar 0))))) (fRet (fC (.bool false))) fnext) (fseq (fDrop (fUser F_is_folk (fCons (fVar 1) fNil))) (fDrop (fUser F_is_ranking (fCons (fVar 1) fNil)))))))
abbrev o_law_asked_v7_1 : List PyData → DSt → Flow := loopF (bName 3) b_law_asked_v7_1
def p_law_asked_v7 : DSt → Flow := fseq (fSet 2 (fUser (F_law_copy 6) (fCons (fVar 0) fNil))) (fseq (fFor (fRng1 (pCons (fC (.int 2)) fNil)) (bName 3) b_law_asked_v7_1) (fRet (fC (.bool true))))
def F_law_asked_v7 : List R → Pw → FRes := runF 5 2 p_law_asked_v7
def e_law_k01_1 : M R := fUser F_law_mixed (fCons (fVar 1) (fCons (fVar 4) fNil))
abbrev l_law_k01_1 : M R := fLc (fRng1 (pCons (fOp (lift2 ixO) (fLst (fCons (fOp (lift2 addO) (fC (.int 1)) (fUser F_law_draw (fCons (fVar 1) (fCons (fC (.int 5)) fNil)))) (fCons (fC (.int 20)) fNil))) (fOp (lift2 fdivO) (fUser F_law_draw (fCons (fVar 1) (fCons (fC (.int 4)) fNil))) (fC (.int 3)))) fNil)) (bName 7) fYes (e_law_k01_1) [7]
def b_law_k01_2 : DSt → Flow := fseq (fIfS (fNot (fB (fUser F_law_asked_v7 (fCons (fVar 6) (fCons (fVar 2) fNil))))) (fRet (fC (.bool false))) fnext) (fSet 2 (fVar 6))
abbrev o_law_k01_2 : List PyData → DSt → Flow := loopF (bName 6) b_law_k01_2
def b_law_k01_3 : DSt → Flow := fseq (fSet 4 (fUser F_law_names (fCons (fVar 1) (fCons (fUser F_law_many (fCons (fVar 1) fNil)) fNil)))) (fseq (fSet 5 (fLc (fRng1 (pCons (fOp (lift2 ixO) (fLst (fCons (fOp (lift2 addO) (fC (.int 1)) (fUser F_law_draw (fCons (fVar 1) (fCons (fC (.int 5)) fNil)))) (fCons (fC (.int 20)) fNil))) (fOp (lift2 fdivO) (fUser F_law_draw (fCons (fVar 1) (fCons (fC (.int 4)) fNil))) (fC (.int 3)))) fNil)) (bName 7) fYes (e_law_k01_1) [7])) (fFor (fLstI (fLst (fCons (fOp (lift2 ixO) (fVar 5) (fC (.int 0))) (fCons (fVar 5) (fCons (fUser F_law_bent (fCons (fVar 1) (fCons (fOp (lift2 ixO) (fVar 5) (fC (.int 0))) fNil))) (fCons (fUser F_law_bent_folk (fCons (fVar 1) (fCons (fVar 5) fNil))) fNil)))))) (bName 6) b_law_k01_2))
abbrev o_law_k01_3 : List PyData → DSt → Flow := loopF (bName 3) b_law_k01_3
def p_law_k01 : DSt → Flow := fseq (fSet 2 (fLst fNil)) (fseq (fFor (fRng1 (pCons (fC (.int 5)) fNil)) (bName 3) b_law_k01_3) (fRet (fC (.bool true))))
def F_law_k01 : List R → Pw → FRes := runF 8 1 p_law_k01
def okB (na : List Int) (x : PyData) : Bool := @decide (∃ nx : List Int, x = llD nx ∧ Rank nx ∧ nx.Perm na) (Classical.propDecidable _)
/-! ### asked -/
theorem cut_mem {l : List PyData} {a b : Option Int} : (cutD l a b).length ≤ l.length ∧ ∀ d ∈ cutD l a b, d ∈ l := by
  unfold cutD
  refine ⟨?_, fun d h => List.mem_of_mem_drop (List.mem_of_mem_take h)⟩
  rw [List.length_take, List.length_drop]
  omega
end DL

noncomputable section
namespace DL
open PySem L2
def b_law_refused_v18_1 : DSt → Flow := fDrop (fUser F_cost (fCons (fVar 0) (fCons (fVar 1) (fCons (fVar 2) fNil))))
def p_law_refused_v18 : DSt → Flow := fseq (fSet 3 (fC .none)) (fseq (fTry ["NoFolk", "NoNames", "NoWeights"] 4 3 b_law_refused_v18_1) (fRet (fAndV (fIsV ["NoFolk", "NoNames", "NoWeights"] (fVar 3)) (fOp (lift2 eqO) (fUser F_law_names_of_v2 (fCons (fVar 3) fNil)) (fLst (fCons (fC (.str "NoNames")) fNil))))))
def F_law_refused_v18 : List R → Pw → FRes := runF 5 3 p_law_refused_v18
def gsA (f : List (List Int)) (ws A : List Int) : Int := ((A.zip A.tail).map fun q => gainI f ws q.1 q.2).sum
/-! ### cost -/
end DL

noncomputable section
namespace DL
open PySem L2
def b_must_fall_1 : DSt → Flow := fIfS (fNot (fB (fUser F_does_fall (fCons (fVar 1) (fCons (fVar 3) fNil))))) fnever fnext
abbrev o_must_fall_1 : List PyData → DSt → Flow := loopF (bTup 2 (bCons (bName 2) (bCons (bName 3) bNil))) b_must_fall_1
def p_must_fall : DSt → Flow := fseq (fDrop (fUser F_must_be_line (fCons (fVar 1) fNil))) (fseq (fIfS (fB (fOp (lift2 neO) (fCall sortedO (pCons (fVar 1) fNil)) (fCall sortedO (pCons (fOp (lift2 ixO) (fVar 0) (fC (.int 0))) fNil)))) (fRaise "NoFit") fnext) (fFor (fEnum (fCons (fVar 0) fNil)) (bTup 2 (bCons (bName 2) (bCons (bName 3) bNil))) b_must_fall_1))
def F_must_fall : List R → Pw → FRes := runF 4 2 p_must_fall
def t_first_half_1 : M Bool := fB (fOp (lift2 eqO) (fOp (lift2 ixO) (fVar 5) (fC (.int 0))) (fVar 4))
def e_first_half_2 : M R := fVar 6
abbrev l_first_half_2 : M R := fLc (fZip (fCons (fVar 0) (fCons (fVar 1) fNil))) (bTup 2 (bCons (bName 5) (bCons (bName 6) bNil))) (t_first_half_1) (e_first_half_2) [5, 6]
def b_first_half_3 : DSt → Flow := fseq (fAug 3 (fun a b => a + b) (fCall sumO (pCons (fLc (fZip (fCons (fVar 0) (fCons (fVar 1) fNil))) (bTup 2 (bCons (bName 5) (bCons (bName 6) bNil))) (t_first_half_1) (e_first_half_2) [5, 6]) fNil))) (fIfS (fB (fOp (lift2 geO) (fOp (lift2 mulO) (fC (.int 2)) (fVar 3)) (fCall sumO (pCons (fVar 1) fNil)))) (fRet (fVar 4)) fnext)
abbrev o_first_half_3 : List PyData → DSt → Flow := loopF (bName 4) b_first_half_3
def p_first_half : DSt → Flow := fseq (fSet 3 (fC (.int 0))) (fFor (fLstI (fVar 2)) (bName 4) b_first_half_3)
def F_first_half : List R → Pw → FRes := runF 7 3 p_first_half
def p_middle : DSt → Flow := fseq (fDrop (fUser F_must_be_weighed (fCons (fVar 0) (fCons (fVar 1) fNil)))) (fseq (fDrop (fUser F_must_fall (fCons (fVar 0) (fCons (fVar 2) fNil)))) (fRet (fTup (fCons (fUser F_first_half (fCons (fVar 0) (fCons (fVar 1) (fCons (fVar 2) fNil)))) (fCons (fUser F_first_half (fCons (fVar 0) (fCons (fVar 1) (fCons (fUn (lift1 revO) (fVar 2)) fNil)))) fNil)))))
def F_middle : List R → Pw → FRes := runF 3 3 p_middle
def t_beaters_1 : M Bool := fAnd (fB (fOp (lift2 neO) (fVar 4) (fVar 3))) (fB (fOp (lift2 gtO) (fUser F_lead (fCons (fVar 0) (fCons (fVar 1) (fCons (fVar 4) (fCons (fVar 3) fNil))))) (fC (.int 0))))
def e_beaters_2 : M R := fVar 4
abbrev l_beaters_2 : M R := fLc (fLstI (fVar 2)) (bName 4) (t_beaters_1) (e_beaters_2) [4]
def p_beaters : DSt → Flow := fRet (fLc (fLstI (fVar 2)) (bName 4) (t_beaters_1) (e_beaters_2) [4])
def F_beaters : List R → Pw → FRes := runF 5 4 p_beaters
def t_unbeaten_1 : M Bool := fB (fOp (lift2 eqO) (fUser F_beaters (fCons (fVar 0) (fCons (fVar 1) (fCons (fOp (lift2 ixO) (fVar 0) (fC (.int 0))) (fCons (fVar 2) fNil))))) (fLst fNil))
def e_unbeaten_2 : M R := fVar 2
abbrev l_unbeaten_2 : M R := fLc (fLstI (fCall sortedO (pCons (fOp (lift2 ixO) (fVar 0) (fC (.int 0))) fNil))) (bName 2) (t_unbeaten_1) (e_unbeaten_2) [2]
def p_unbeaten : DSt → Flow := fseq (fDrop (fUser F_must_be_weighed (fCons (fVar 0) (fCons (fVar 1) fNil)))) (fRet (fLc (fLstI (fCall sortedO (pCons (fOp (lift2 ixO) (fVar 0) (fC (.int 0))) fNil))) (bName 2) (t_unbeaten_1) (e_unbeaten_2) [2]))
def F_unbeaten : List R → Pw → FRes := runF 3 2 p_unbeaten
def t_law_due_1 : M Bool := fB (fOp (lift2 eqO) (fOp (lift2 ixO) (fVar 7) (fC (.int 0))) (fVar 6))
def e_law_due_2 : M R := fVar 8
abbrev l_law_due_2 : M R := fLc (fZip (fCons (fVar 0) (fCons (fVar 1) fNil))) (bTup 2 (bCons (bName 7) (bCons (bName 8) bNil))) (t_law_due_1) (e_law_due_2) [7, 8]
def b_law_due_3 : DSt → Flow := fseq (fSet 5 (fOp (lift2 addO) (fVar 5) (fCall sumO (pCons (fLc (fZip (fCons (fVar 0) (fCons (fVar 1) fNil))) (bTup 2 (bCons (bName 7) (bCons (bName 8) bNil))) (t_law_due_1) (e_law_due_2) [7, 8]) fNil)))) (fIfS (fB (fOp (lift2 geO) (fOp (lift2 mulO) (fC (.int 2)) (fVar 5)) (fCall sumO (pCons (fVar 1) fNil)))) (fseq (fDrop (fApp 3 (fVar 6))) fbrk) fnext)
abbrev o_law_due_3 : List PyData → DSt → Flow := loopF (bName 6) b_law_due_3
def b_law_due_4 : DSt → Flow := fseq (fSet 5 (fC (.int 0))) (fFor (fLstI (fVar 4)) (bName 6) b_law_due_3)
abbrev o_law_due_4 : List PyData → DSt → Flow := loopF (bName 4) b_law_due_4
def p_law_due : DSt → Flow := fseq (fSet 3 (fLst fNil)) (fseq (fFor (fLstI (fLst (fCons (fVar 2) (fCons (fUn (lift1 revO) (fVar 2)) fNil)))) (bName 4) b_law_due_4) (fRet (fTup (fCons (fOp (lift2 ixO) (fVar 3) (fC (.int 0))) (fCons (fOp (lift2 ixO) (fVar 3) (fC (.int 1))) fNil)))))
def F_law_due : List R → Pw → FRes := runF 9 3 p_law_due
def p_law_from : DSt → Flow := fseq (fSet 2 (fIndex (fVar 0) (fVar 1))) (fRet (fOp (lift2 addO) (fSlice (fVar 0) (fPart (fVar 2)) fNoPart) (fUn (lift1 revO) (fSlice (fVar 0) fNoPart (fPart (fVar 2))))))
def F_law_from : List R → Pw → FRes := runF 3 2 p_law_from
def p_law_k53 : DSt → Flow := fseq (fSet 1 (fUser F_law_draws (fCons (fVar 0) (fCons (fC (.int 0)) (fCons (fC (.int 4)) fNil))))) (fseq (fSet 2 (fUser F_law_line_v2 (fCons (fVar 0) (fCons (fC (.int 1)) (fCons (fOp (lift2 ixO) (fLst (fCons (fOp (lift2 addO) (fC (.int 1)) (fOp (lift2 modO) (fOp (lift2 ixO) (fVar 1) (fC (.int 0))) (fC (.int 8)))) (fCons (fC (.int 10)) fNil))) (fCall intO (pCons (fOp (lift2 eqO) (fOp (lift2 modO) (fOp (lift2 fdivO) (fOp (lift2 ixO) (fVar 1) (fC (.int 0))) (fC (.int 64))) (fC (.int 8))) (fC (.int 3))) fNil))) fNil))))) (fseq (fSet 3 (fOp (lift2 ixO) (fLst (fCons (fOp (lift2 addO) (fC (.int 1)) (fOp (lift2 modO) (fOp (lift2 ixO) (fVar 1) (fC (.int 1))) (fC (.int 9)))) (fCons (fC (.int 20)) fNil))) (fCall intO (pCons (fOp (lift2 eqO) (fOp (lift2 modO) (fOp (lift2 fdivO) (fOp (lift2 ixO) (fVar 1) (fC (.int 1))) (fC (.int 64))) (fC (.int 8))) (fC (.int 3))) fNil)))) (fseq (fSet 4 (fUser F_law_folk_v3 (fCons (fVar 0) (fCons (fC (.int 3)) (fCons (fVar 2) (fCons (fVar 3) (fCons (fVar 3) fNil))))))) (fseq (fSet 5 (fUser F_law_weights (fCons (fVar 0) (fCons (fC (.int 2)) (fCons (fVar 3) fNil))))) (fseq (fSet 6 (fUser (F_law_copied 6) (fCons (fLst (fCons (fVar 4) (fCons (fVar 5) (fCons (fVar 2) fNil)))) fNil))) (fseq (fSet 7 (fUser F_middle (fCons (fOp (lift2 ixO) (fVar 6) (fC (.int 0))) (fCons (fOp (lift2 ixO) (fVar 6) (fC (.int 1))) (fCons (fOp (lift2 ixO) (fVar 6) (fC (.int 2))) fNil))))) (fseq (fIfS (fOr (fNot (fB (fIsi "tuple" (fVar 7)))) (fOr (fB (fOp (lift2 neO) (fVar 7) (fUser F_law_due (fCons (fVar 4) (fCons (fVar 5) (fCons (fVar 2) fNil)))))) (fB (fOp (lift2 neO) (fVar 6) (fLst (fCons (fVar 4) (fCons (fVar 5) (fCons (fVar 2) fNil)))))))) (fRet (fC (.bool false))) fnext) (fseq (fAsgB (fVar 7) (bSeq 2 (bCons (bName 8) (bCons (bName 9) bNil)))) (fseq (fIfS (fOr (fNot (fB (fUser F_law_whole (fCons (fVar 8) fNil)))) (fOr (fNot (fB (fUser F_law_whole (fCons (fVar 9) fNil)))) (fB (fOp (lift2 neO) (fUser F_middle (fCons (fVar 4) (fCons (fVar 5) (fCons (fUn (lift1 revO) (fVar 2)) fNil)))) (fTup (fCons (fVar 9) (fCons (fVar 8) fNil))))))) (fRet (fC (.bool false))) fnext) (fseq (fSet 10 (fCall sortedO (pCons (fLst (fCons (fIndex (fVar 2) (fVar 8)) (fCons (fIndex (fVar 2) (fVar 9)) fNil))) fNil))) (fseq (fIfS (fOr (fB (fOp (lift2 neO) (fVar 10) (fLst (fCons (fIndex (fVar 2) (fVar 8)) (fCons (fIndex (fVar 2) (fVar 9)) fNil))))) (fAnd (fB (fOp (lift2 eqO) (fOp (lift2 modO) (fCall sumO (pCons (fVar 5) fNil)) (fC (.int 2))) (fC (.int 1)))) (fB (fOp (lift2 neO) (fVar 8) (fVar 9))))) (fRet (fC (.bool false))) fnext) (fseq (fIfS (fB (fOp (lift2 neO) (fUser F_unbeaten (fCons (fOp (lift2 ixO) (fVar 6) (fC (.int 0))) (fCons (fOp (lift2 ixO) (fVar 6) (fC (.int 1))) fNil))) (fCall sortedO (pCons (fSlice (fVar 2) (fPart (fOp (lift2 ixO) (fVar 10) (fC (.int 0)))) (fPart (fOp (lift2 addO) (fOp (lift2 ixO) (fVar 10) (fC (.int 1))) (fC (.int 1))))) fNil)))) (fRet (fC (.bool false))) fnext) (fseq (fIfS (fB (fOp (lift2 eqO) (fVar 3) (fC (.int 20)))) (fRet (fOp (lift2 eqO) (fVar 6) (fLst (fCons (fVar 4) (fCons (fVar 5) (fCons (fVar 2) fNil)))))) fnext) (fseq (fSet 11 (fUser F_middle (fCons (fOp (lift2 addO) (fVar 4) (fLst (fCons (fUser F_law_from (fCons (fVar 2) (fCons (fVar 8) fNil))) fNil))) (fCons (fOp (lift2 addO) (fVar 5) (fLst (fCons (fOp (lift2 addO) (fC (.int 1)) (fOp (lift2 modO) (fOp (lift2 ixO) (fVar 1) (fC (.int 2))) (fC (.int 9)))) fNil))) (fCons (fVar 2) fNil))))) (fRet (fAndV (fOp (lift2 leO) (fIndex (fVar 2) (fOp (lift2 ixO) (fVar 11) (fC (.int 0)))) (fOp (lift2 ixO) (fVar 10) (fC (.int 0)))) (fAndV (fOp (lift2 leO) (fOp (lift2 ixO) (fVar 10) (fC (.int 0))) (fIndex (fVar 2) (fOp (lift2 ixO) (fVar 11) (fC (.int 1))))) (fOp (lift2 eqO) (fVar 6) (fLst (fCons (fVar 4) (fCons (fVar 5) (fCons (fVar 2) fNil))))))))))))))))))))))
def F_law_k53 : List R → Pw → FRes := runF 12 1 p_law_k53
def topW (x : Int) (p : List Int × Int) : Int := if p.1.headD 0 = x then p.2 else 0
def belW (R : List Int) (k : Nat) (p : List Int × Int) : Int := if R.idxOf (p.1.headD 0) < k then p.2 else 0
def Tw (R : List Int) (z : List (List Int × Int)) (k : Nat) : Int := (z.map (belW R k)).sum
def HalfAt (R : List Int) (z : List (List Int × Int)) (S : Int) (k : Nat) : Prop := k < R.length ∧ S ≤ 2 * Tw R z (k + 1) ∧ ∀ j ≤ k, 2 * Tw R z j < S
end DL

noncomputable section
namespace DL
open PySem L2

/-! ### the program's own -/
theorem must_fall_ok {f : List (List Int)} {L a : List Int} {w : Pw} (hL : Rank L) (ha : f[0]? = some a) (h : ∀ r ∈ f, r.Perm L ∧ fallB L r = true) : F_must_fall [.val (.list ((f).map llD)), .val (.list ((L).map .int))] w = .ok (.val .none) w := by
  have ha' : (f.map llD)[0]? = some (.list (a.map .int)) := by rw [List.getElem?_map, ha]; rfl
  have hs : sortI L = sortI a := (sortI_perm_eq (h a (List.mem_of_getElem? ha)).1).symm
  have ee : enumD (f.map llD) = f.zipIdx.map fun p : List Int × Nat => PyData.tuple [.int (p.2 : Int), llD p.1] := by
    unfold enumD
    rw [List.zipIdx_map, List.map_map]
    rfl
  obtain ⟨s', e, v2, v3, rfl⟩ := loopN (b := bTup 2 (bCons (bName 2) (bCons (bName 3) bNil))) (p := b_must_fall_1) (f := fun p : List Int × Nat => PyData.tuple [.int (p.2 : Int), llD p.1]) (l := f.zipIdx) (s := ⟨[.val (.list ((f).map llD)), .val (.list ((L).map .int)), .no, .no], w⟩)
    (fun i s => ∃ v2 v3, s = ⟨[.val (.list ((f).map llD)), .val (.list ((L).map .int)), v2, v3], w⟩) ⟨_, _, rfl⟩ (by
      rintro i p s hi hm ⟨v2, v3, rfl⟩
      have hp := h p.1 (List.fst_mem_of_mem_zipIdx hm)
      unfold b_must_fall_1
      simp -implicitDefEqProofs [llD, does_fall_ok hL hp.1, hp.2])
  unfold F_must_fall p_must_fall
  simp only [x_runF]
  simp -implicitDefEqProofs [must_line_ok hL, ha', hs, ee, e]
def btL (f : List (List Int)) (ws some : List Int) (y : Int) : List Int := some.filter fun x => decide (x ≠ y ∧ 0 < leadI f ws x y)
end DL

noncomputable section
namespace DL
open PySem L2
def b_first_turned_1 : DSt → Flow := fIfS (fNot (fB (fUser F_is_ahead (fCons (fVar 1) (fCons (fOp (lift2 ixO) (fVar 0) (fVar 2)) (fCons (fOp (lift2 ixO) (fVar 0) (fOp (lift2 addO) (fVar 2) (fC (.int 1)))) fNil)))))) (fRet (fVar 2)) fnext
abbrev o_first_turned_1 : List PyData → DSt → Flow := loopF (bName 2) b_first_turned_1
def p_first_turned : DSt → Flow := fseq (fFor (fRng1 (pCons (fOp (lift2 subO) (fCall lenO (pCons (fVar 0) fNil)) (fC (.int 1))) fNil)) (bName 2) b_first_turned_1) (fRet (fC .none))
def F_first_turned : List R → Pw → FRes := runF 3 2 p_first_turned
def c_steps_1 : M Bool := fB (fIsN true (fVar 3))
def b_steps_2 : DSt → Flow := fseq (fSet 4 (fOp (lift2 ixO) (fVar 2) (fUn (lift1 negO) (fC (.int 1))))) (fseq (fDrop (fApp 2 (fOp (lift2 addO) (fOp (lift2 addO) (fSlice (fVar 4) fNoPart (fPart (fVar 3))) (fLst (fCons (fOp (lift2 ixO) (fVar 4) (fOp (lift2 addO) (fVar 3) (fC (.int 1)))) (fCons (fOp (lift2 ixO) (fVar 4) (fVar 3)) fNil)))) (fSlice (fVar 4) (fPart (fOp (lift2 addO) (fVar 3) (fC (.int 2)))) fNoPart)))) (fSet 3 (fUser F_first_turned (fCons (fOp (lift2 ixO) (fVar 2) (fUn (lift1 negO) (fC (.int 1)))) (fCons (fVar 1) fNil)))))
abbrev o_steps_2 : DSt → Flow := whileF c_steps_1 b_steps_2 10000
def p_steps : DSt → Flow := fseq (fDrop (fUser F_must_be_alike_named (fCons (fLst (fCons (fVar 0) (fCons (fVar 1) fNil))) fNil))) (fseq (fSet 2 (fLst (fCons (fCall listO (pCons (fVar 0) fNil)) fNil))) (fseq (fSet 3 (fUser F_first_turned (fCons (fVar 0) (fCons (fVar 1) fNil)))) (fseq (whileF c_steps_1 b_steps_2 10000) (fRet (fVar 2)))))
def F_steps : List R → Pw → FRes := runF 5 2 p_steps
def stepP (a b : List Int) : Prop := ∃ A x y B, a = A ++ x :: y :: B ∧ b = A ++ y :: x :: B
/-! ### the first turned place -/
def isTurn (l c : List Int) (k : Nat) : Bool := !decide (c.idxOf (nth l k) < c.idxOf (nth l (k + 1)))
def turnR (l c : List Int) : Option R := (List.range (l.length - 1)).findSome? fun k => if isTurn l c k = true then some (.val (.int (k : Int))) else none
theorem nth_in {l : List Int} {k : Nat} (hk : k < l.length) : atI (l.map PyData.int) (k : Int) = some (.int (nth l k)) ∧ nth l k ∈ l := by
  constructor
  · rw [atI_nat]
    simp [nth, List.getElem?_eq_getElem hk]
  · simp only [nth, List.getD_eq_getElem?_getD, List.getElem?_eq_getElem hk]
    exact List.getElem_mem _
structure Way (one c : List Int) (L : List (List Int)) (z : List Int) : Prop where
  head : L[0]? = some one
  p : ∀ r ∈ L, r.Perm one
  chain : ∀ k a b, L[k]? = some a → L[k + 1]? = some b → stepP a b
  last : L.getLast? = some z
  len : L.length + manyI z c = manyI one c + 1
end DL

noncomputable section
namespace DL
open PySem L2

/-! ### the line and the tops -/
/-! ### weights of hands -/
def SPs (L : List Int) (z : List (List Int × Int)) : Prop := ∀ p ∈ z, p.1.Perm L ∧ noV L p.1 ∧ 0 ≤ p.2
def Sw (z : List (List Int × Int)) : Int := (z.map (·.2)).sum
structure Mid (L : List Int) (z : List (List Int × Int)) (lo hi : Nat) : Prop where
  l0 : lo < L.length
  h0 : hi < L.length
  l1 : Sw z ≤ 2 * Tw L z (lo + 1)
  l2 : ∀ j ≤ lo, 2 * Tw L z j < Sw z
  h1 : 2 * Tw L z hi ≤ Sw z
  h2 : ∀ j, hi < j → j ≤ L.length → Sw z < 2 * Tw L z j
theorem Mid.le {L : List Int} {z : List (List Int × Int)} {lo hi : Nat} (h : Mid L z lo hi) : lo ≤ hi := by
  rcases Nat.lt_or_ge hi lo with q | q
  · have a := h.h2 (hi + 1) (by omega) (by have := h.l0; omega)
    have b := h.l2 (hi + 1) (by omega)
    omega
  · exact q
/-! ### one more hand -/
end DL

noncomputable section
namespace DL
open PySem L2

structure Fal (L : List Int) (f : List (List Int)) (ws : List Int) : Prop where
  rL : Rank L
  F : Folk f
  W : Wts f ws
  b : ∀ x ∈ ws, x ≤ 1000000000000000000000000000000
  v : ∀ r ∈ f, r.Perm L ∧ noV L r
theorem Fal.rev {L : List Int} {f : List (List Int)} {ws : List Int} (h : Fal L f ws) : Fal L.reverse f ws :=
  ⟨h.rL.perm (List.reverse_perm L), h.F, h.W, h.b, fun r hr => ⟨(h.v r hr).1.trans (List.reverse_perm L).symm, (noV_rev h.rL.1).mpr (h.v r hr).2⟩⟩
structure Mids (L : List Int) (f : List (List Int)) (ws : List Int) (lo hi : Nat) (x1 x2 : Int) : Prop where
  m : Mid L (f.zip ws) lo hi
  e1 : L[lo]? = some x1
  e2 : L[hi]? = some x2
  mid : ∀ w, F_middle [.val (.list ((f).map llD)), .val (.list ((ws).map .int)), .val (.list ((L).map .int))] w = .ok (.val (.tuple [.int x1, .int x2])) w
  midr : ∀ w, F_middle [.val (.list ((f).map llD)), .val (.list ((ws).map .int)), .val (.list ((L.reverse).map .int))] w = .ok (.val (.tuple [.int x2, .int x1])) w
  due : ∀ w, F_law_due [.val (.list ((f).map llD)), .val (.list ((ws).map .int)), .val (.list ((L).map .int))] w = .ok (.val (.tuple [.int x1, .int x2])) w
end DL

noncomputable section
namespace DL
open PySem L2
def p_must_be_asked : DSt → Flow := fseq (fDrop (fUser F_must_be_weighed (fCons (fVar 0) (fCons (fVar 1) fNil)))) (fseq (fDrop (fUser F_must_fall (fCons (fVar 0) (fCons (fVar 2) fNil)))) (fIfS (fOr (fB (fOp (lift2 ltO) (fVar 3) (fC (.int 1)))) (fB (fOp (lift2 gtO) (fVar 3) (fCall lenO (pCons (fVar 2) fNil))))) (fRaise "NoNumber") fnext))
def F_must_be_asked : List R → Pw → FRes := runF 4 4 p_must_be_asked
def b_gain_1 : DSt → Flow := fAug 4 (fun a b => a + b) (fOp (lift2 mulO) (fVar 6) (fCall maxO (pCons (fC (.int 0)) (pCons (fOp (lift2 subO) (fIndex (fVar 5) (fVar 2)) (fIndex (fVar 5) (fVar 3))) fNil))))
abbrev o_gain_1 : List PyData → DSt → Flow := loopF (bTup 2 (bCons (bName 5) (bCons (bName 6) bNil))) b_gain_1
def p_gain : DSt → Flow := fseq (fSet 4 (fC (.int 0))) (fseq (fFor (fZip (fCons (fVar 0) (fCons (fVar 1) fNil))) (bTup 2 (bCons (bName 5) (bCons (bName 6) bNil))) b_gain_1) (fRet (fVar 4)))
def F_gain : List R → Pw → FRes := runF 7 4 p_gain
def e_bounds_1 : M R := fOp (lift2 subO) (fOp (lift2 ixO) (fVar 3) (fVar 6)) (fUser F_gain (fCons (fVar 0) (fCons (fVar 1) (fCons (fOp (lift2 ixO) (fVar 2) (fVar 6)) (fCons (fOp (lift2 ixO) (fVar 2) (fVar 5)) fNil)))))
abbrev l_bounds_1 : M R := fLc (fRng2 (pCons (fOp (lift2 subO) (fVar 4) (fC (.int 1))) (pCons (fVar 5) fNil))) (bName 6) fYes (e_bounds_1) [6]
def p_bounds : DSt → Flow := fseq (fIfS (fB (fOp (lift2 eqO) (fVar 4) (fC (.int 0)))) (fRet (fLst (fCons (fUser F_paid (fCons (fVar 0) (fCons (fVar 1) (fCons (fLst (fCons (fOp (lift2 ixO) (fVar 2) (fVar 5)) fNil)) fNil)))) fNil))) fnext) (fRet (fLc (fRng2 (pCons (fOp (lift2 subO) (fVar 4) (fC (.int 1))) (pCons (fVar 5) fNil))) (bName 6) fYes (e_bounds_1) [6]))
def F_bounds : List R → Pw → FRes := runF 7 6 p_bounds
def e_filled_1 : M R := fC .none
abbrev l_filled_1 : M R := fLc (fRng1 (pCons (fVar 5) fNil)) (bName 7) fYes (e_filled_1) [7]
def b_filled_2 : DSt → Flow := fDrop (fApp 6 (fCall minO (pCons (fUser F_bounds (fCons (fVar 0) (fCons (fVar 1) (fCons (fVar 2) (fCons (fOp (lift2 ixO) (fOp (lift2 addO) (fVar 4) (fLst (fCons (fLst fNil) fNil))) (fOp (lift2 subO) (fVar 5) (fC (.int 1)))) (fCons (fVar 5) (fCons (fVar 7) fNil))))))) fNil)))
abbrev o_filled_2 : List PyData → DSt → Flow := loopF (bName 7) b_filled_2
def b_filled_3 : DSt → Flow := fseq (fSet 6 (fLc (fRng1 (pCons (fVar 5) fNil)) (bName 7) fYes (e_filled_1) [7])) (fseq (fFor (fRng2 (pCons (fVar 5) (pCons (fCall lenO (pCons (fVar 2) fNil)) fNil))) (bName 7) b_filled_2) (fDrop (fApp 4 (fVar 6))))
abbrev o_filled_3 : List PyData → DSt → Flow := loopF (bName 5) b_filled_3
def p_filled : DSt → Flow := fseq (fSet 4 (fLst fNil)) (fseq (fFor (fRng1 (pCons (fVar 3) fNil)) (bName 5) b_filled_3) (fRet (fVar 4)))
def F_filled : List R → Pw → FRes := runF 8 4 p_filled
def t_last_of_1 : M Bool := fB (fIsN true (fVar 2))
def e_last_of_2 : M R := fVar 2
abbrev l_last_of_2 : M R := fLc (fLstI (fVar 0)) (bName 2) (t_last_of_1) (e_last_of_2) [2]
def p_last_of : DSt → Flow := fseq (fSet 1 (fLc (fLstI (fVar 0)) (bName 2) (t_last_of_1) (e_last_of_2) [2])) (fRet (fIndex (fVar 0) (fCall minO (pCons (fVar 1) fNil))))
def F_last_of : List R → Pw → FRes := runF 3 1 p_last_of
def b_few_1 : DSt → Flow := fseq (fSet 9 (fUser F_bounds (fCons (fVar 0) (fCons (fVar 1) (fCons (fVar 2) (fCons (fOp (lift2 ixO) (fVar 4) (fOp (lift2 subO) (fVar 8) (fC (.int 1)))) (fCons (fVar 8) (fCons (fVar 5) fNil)))))))) (fseq (fSet 5 (fOp (lift2 addO) (fOp (lift2 subO) (fVar 8) (fC (.int 1))) (fIndex (fVar 9) (fOp (lift2 ixO) (fOp (lift2 ixO) (fVar 4) (fVar 8)) (fVar 5))))) (fSet 7 (fOp (lift2 addO) (fLst (fCons (fOp (lift2 ixO) (fVar 2) (fVar 5)) fNil)) (fVar 7))))
abbrev o_few_1 : List PyData → DSt → Flow := loopF (bName 8) b_few_1
def p_few : DSt → Flow := fseq (fDrop (fUser F_must_be_asked (fCons (fVar 0) (fCons (fVar 1) (fCons (fVar 2) (fCons (fVar 3) fNil)))))) (fseq (fSet 4 (fUser F_filled (fCons (fVar 0) (fCons (fVar 1) (fCons (fVar 2) (fCons (fVar 3) fNil)))))) (fseq (fSet 5 (fUser F_last_of (fCons (fOp (lift2 ixO) (fVar 4) (fUn (lift1 negO) (fC (.int 1)))) fNil))) (fseq (fSet 6 (fOp (lift2 ixO) (fOp (lift2 ixO) (fVar 4) (fUn (lift1 negO) (fC (.int 1)))) (fVar 5))) (fseq (fSet 7 (fLst (fCons (fOp (lift2 ixO) (fVar 2) (fVar 5)) fNil))) (fseq (fFor (fRng3 (pCons (fOp (lift2 subO) (fVar 3) (fC (.int 1))) (pCons (fC (.int 0)) (pCons (fUn (lift1 negO) (fC (.int 1))) fNil)))) (bName 8) b_few_1) (fRet (fTup (fCons (fVar 6) (fCons (fVar 7) (fCons (fVar 4) fNil))))))))))
def F_few : List R → Pw → FRes := runF 10 4 p_few
/-! few names: the table -/
theorem rngN {a n : Nat} : rangeD (a : Int) n = (List.range' a n).map fun k : Nat => PyData.int (k : Int) := by
  unfold rangeD
  rw [List.range'_eq_map_range, List.map_map]
  refine List.map_congr_left fun k _ => ?_
  simp
theorem rngZ {n : Nat} : rangeD 0 n = (List.range n).map fun k : Nat => PyData.int (k : Int) := by
  unfold rangeD
  exact List.map_congr_left fun k _ => by simp
def oD : Option Int → PyData
  | none => .none
  | some x => .int x
def cellI (f : List (List Int)) (ws L : List Int) : Nat → Nat → Int
  | 0, i => payI f ws [nth L i]
  | j + 1, i => minI ((List.range' j (i - j)).map fun k => cellI f ws L j k - gainI f ws (nth L k) (nth L i))
def bndI (f : List (List Int)) (ws L : List Int) : Nat → Nat → List Int
  | 0, i => [payI f ws [nth L i]]
  | j + 1, i => (List.range' j (i - j)).map fun k => cellI f ws L j k - gainI f ws (nth L k) (nth L i)
theorem bnd_ne {f : List (List Int)} {ws L : List Int} {j i : Nat} (h : j ≤ i) : bndI f ws L j i ≠ [] := by
  cases j with
  | zero => simp [bndI]
  | succ j =>
    intro z
    have := congrArg List.length z
    simp [bndI] at this
    omega
theorem cell_bnd {f : List (List Int)} {ws L : List Int} {j i : Nat} : cellI f ws L j i = minI (bndI f ws L j i) := by
  cases j with
  | zero => exact (min_eq (by simp [bndI, cellI]) (by simp [bndI, cellI])).symm
  | succ j => rw [cellI]; rfl
theorem gain_ok {f : List (List Int)} {ws : List Int} {a b : Int} {w : Pw} (hf : ∀ r ∈ f, r.length ≤ 1000 ∧ a ∈ r ∧ b ∈ r) (hw : ∀ x ∈ ws, 0 ≤ x ∧ x ≤ 1000000000000000000000000000000) : F_gain [.val (.list ((f).map llD)), .val (.list ((ws).map .int)), .val (.int (a)), .val (.int (b))] w = .ok (.val (.int (gainI f ws a b))) w := by
  obtain ⟨s', e, v5, v6, rfl⟩ := loopN (b := bTup 2 (bCons (bName 5) (bCons (bName 6) bNil))) (p := b_gain_1) (f := fwD) (l := f.zip ws) (s := ⟨[.val (.list ((f).map llD)), .val (.list ((ws).map .int)), .val (.int (a)), .val (.int (b)), .val (.int (0)), .no, .no], w⟩)
    (fun i s => ∃ v5 v6, s = ⟨[.val (.list ((f).map llD)), .val (.list ((ws).map .int)), .val (.int (a)), .val (.int (b)), .val (.int ((((f.zip ws).take i).map (gnP a b)).sum)), v5, v6], w⟩) ⟨.no, .no, by simp⟩ (by
      rintro i p s hi hm ⟨v5, v6, rfl⟩
      obtain ⟨hr, hp⟩ := List.of_mem_zip (show (p.1, p.2) ∈ f.zip ws from hm)
      obtain ⟨r1, r2, r3⟩ := hf _ hr
      obtain ⟨p0, p1⟩ := hw _ hp
      have l2 := List.idxOf_lt_length_iff.mpr r2
      have l3 := List.idxOf_lt_length_iff.mpr r3
      rw [take_succ hi, List.map_append, List.sum_append]
      obtain ⟨T, hT⟩ : ∃ T, (((f.zip ws).take i).map (gnP a b)).sum = T := ⟨_, rfl⟩
      rw [hT]
      have es : ([p].map (gnP a b)).sum = p.2 * (if (p.1.idxOf b : Int) < p.1.idxOf a then (p.1.idxOf a : Int) - p.1.idxOf b else 0) := by simp [gnP]
      rw [es]
      have e1 := idxO_mem r2
      have e2 := idxO_mem r3
      by_cases q : (p.1.idxOf b : Int) < p.1.idxOf a
      · have q2 : (0 : Int) < (p.1.idxOf a : Int) - p.1.idxOf b := by omega
        have q3 : p.1.idxOf b < p.1.idxOf a := by omega
        have em := mul_ok (a := p.2) (b := (p.1.idxOf a : Int) - p.1.idxOf b) (by omega) (by omega) (by omega) (by omega)
        rw [if_pos q]
        unfold b_gain_1
        simp -implicitDefEqProofs [fwD, llD, e1, e2, q2, q3, em]
      · have q2 : ¬ (0 : Int) < (p.1.idxOf a : Int) - p.1.idxOf b := by omega
        have q3 : ¬ p.1.idxOf b < p.1.idxOf a := by omega
        have em := mul_ok (a := p.2) (b := 0) (by omega) (by omega) (by omega) (by omega)
        rw [if_neg q]
        unfold b_gain_1
        simp -implicitDefEqProofs [fwD, llD, e1, e2, q2, q3, em])
  rw [List.take_length] at e
  unfold F_gain p_gain gainI
  simp only [x_runF]
  simp -implicitDefEqProofs [zip_fw, e]
theorem Fal.l10 {L : List Int} {f : List (List Int)} {ws : List Int} (h : Fal L f ws) : L.length ≤ 10 := h.rL.2.2.2
theorem Fal.wb {L : List Int} {f : List (List Int)} {ws : List Int} (h : Fal L f ws) : ∀ x ∈ ws, 0 ≤ x ∧ x ≤ 1000000000000000000000000000000 := fun x hx => ⟨by have := h.W.2 x hx; omega, h.b x hx⟩
theorem Fal.mm {L : List Int} {f : List (List Int)} {ws : List Int} (h : Fal L f ws) {x : Int} (hx : x ∈ L) : ∀ r ∈ f, r.length ≤ 1000 ∧ x ∈ r := fun r hr => ⟨by have := (h.v r hr).1.length_eq; have := h.l10; omega, (h.v r hr).1.mem_iff.mpr hx⟩
theorem bounds_ok {L : List Int} {f : List (List Int)} {ws : List Int} (h : Fal L f ws) {j i : Nat} (hj : j ≤ i) (hi : i < L.length) {D : PyData} (hD : ∀ m, j = m + 1 → ∃ ds, D = .list ds ∧ ∀ k, m ≤ k → k < i → ds[k]? = some (.int (cellI f ws L m k))) {w : Pw} : F_bounds [.val (.list ((f).map llD)), .val (.list ((ws).map .int)), .val (.list ((L).map .int)), .val D, .val (.int ((j : Nat) : Int)), .val (.int ((i : Nat) : Int))] w = .ok (.new ((bndI f ws L j i).map .int)) w := by
  have l10 := h.l10
  obtain ⟨ei, mi⟩ := nth_in hi
  cases j with
  | zero =>
    have e := paid_ok (w := w) (f := f) (ws := ws) (N := [nth L i]) (by simp) (by simp) (fun r hr => ⟨(h.mm mi r hr).1, by simpa using (h.mm mi r hr).2⟩) h.wb
    have s1 : leS 1 := size_le (by omega)
    have e : F_paid [.val (.list ((f).map llD)), .val (.list ((ws).map .int)), .val (.list [.int (nth L i)])] w = _ := e
    unfold F_bounds p_bounds
    simp only [x_runF]
    simp -implicitDefEqProofs [ei, e, s1, bndI]
  | succ m =>
    obtain ⟨ds, rfl, hd⟩ := hD m rfl
    have el : l_bounds_1 ⟨[.val (.list ((f).map llD)), .val (.list ((ws).map .int)), .val (.list ((L).map .int)), .val (.list ds), .val (.int ((m : Int) + 1)), .val (.int ((i : Nat) : Int)), .no], w⟩ = .ok (.new ((bndI f ws L (m + 1) i).map .int)) ⟨[.val (.list ((f).map llD)), .val (.list ((ws).map .int)), .val (.list ((L).map .int)), .val (.list ds), .val (.int ((m : Int) + 1)), .val (.int ((i : Nat) : Int)), .no], w⟩ := by
      have hb1 : inB (m : Int) := inB_of (by omega) (by omega)
      have hb2 : inB (i : Int) := inB_of (by omega) (by omega)
      have eb : (bndI f ws L (m + 1) i).map PyData.int = (List.range' m (i - m)).map fun k => PyData.int (cellI f ws L m k - gainI f ws (nth L k) (nth L i)) := by simp [bndI]
      rw [eb]
      refine lc_all (fun k : Nat => ⟨[.val (.list ((f).map llD)), .val (.list ((ws).map .int)), .val (.list ((L).map .int)), .val (.list ds), .val (.int ((m : Int) + 1)), .val (.int ((i : Nat) : Int)), .val (.int ((k : Nat) : Int))], w⟩) _ (f := fun k : Nat => PyData.int (k : Int)) (l := List.range' m (i - m)) (by simp -implicitDefEqProofs [hb1, hb2, rngN]) (by simp; omega) rfl (fun a _ => by rfl) (fun a _ => by rfl) (fun k hk => ?_)
      rw [List.mem_range'_1] at hk
      obtain ⟨ek, mk⟩ := nth_in (l := L) (k := k) (by omega)
      have eg := gain_ok (w := w) (f := f) (ws := ws) (a := nth L k) (b := nth L i) (fun r hr => ⟨(h.mm mi r hr).1, (h.mm mk r hr).2, (h.mm mi r hr).2⟩) h.wb
      have ed := hd k (by omega) (by omega)
      unfold e_bounds_1
      simp -implicitDefEqProofs [ek, ei, eg, atI_nat, ed]
    have ne : ¬ ((m : Int) + 1 = 0) := by omega
    unfold F_bounds p_bounds
    simp only [x_runF]
    simp -implicitDefEqProofs [ne, el]
/-! ### rows of the table -/
def rowO (f : List (List Int)) (ws L : List Int) (j n : Nat) : List (Option Int) := List.replicate j none ++ (List.range' j n).map fun i => some (cellI f ws L j i)
def rowD (f : List (List Int)) (ws L : List Int) (j : Nat) : PyData := .list ((rowO f ws L j (L.length - j)).map oD)
def tabD (f : List (List Int)) (ws L : List Int) (m : Nat) : List PyData := (List.range m).map (rowD f ws L)
theorem rowO_at {f : List (List Int)} {ws L : List Int} {j n i : Nat} (h : j ≤ i) (h2 : i < j + n) : (rowO f ws L j n)[i]? = some (some (cellI f ws L j i)) := by
  unfold rowO
  rw [List.getElem?_append_right (by simpa using h)]
  simp only [List.length_replicate, List.getElem?_map]
  rw [List.getElem?_range' (by omega)]
  simp
  congr 1
  omega
theorem tab_at {f : List (List Int)} {ws L : List Int} {m j : Nat} (h : j < m) : (tabD f ws L m)[j]? = some (rowD f ws L j) := by
  simp [tabD, h]
theorem rngI {a n : Nat} : (List.range' a (n + 1)) = List.range' a n ++ [a + n] := by
  rw [List.range'_concat]; simp

end DL

noncomputable section
namespace DL
open PySem L2

theorem filled_ok {L : List Int} {f : List (List Int)} {ws : List Int} (h : Fal L f ws) {m : Nat} (hm : m ≤ L.length) {w : Pw} : F_filled [.val (.list ((f).map llD)), .val (.list ((ws).map .int)), .val (.list ((L).map .int)), .val (.int ((m : Nat) : Int))] w = .ok (.new (tabD f ws L m)) w := by
  have l10 := h.l10
  obtain ⟨n, hn⟩ : ∃ n, L.length = n := ⟨_, rfl⟩
  obtain ⟨s', e, v5, v6, v7, -, rfl⟩ := loopN (b := bName 5) (p := b_filled_3) (f := fun j : Nat => PyData.int (j : Int)) (l := List.range m) (s := ⟨[.val (.list ((f).map llD)), .val (.list ((ws).map .int)), .val (.list ((L).map .int)), .val (.int ((m : Nat) : Int)), .own [], .no, .no, .no], w⟩)
    (fun j s => ∃ v5 v6 v7, (v7 = .no ∨ ∃ x : Int, v7 = .val (.int (x))) ∧ s = ⟨[.val (.list ((f).map llD)), .val (.list ((ws).map .int)), .val (.list ((L).map .int)), .val (.int ((m : Nat) : Int)), .own (tabD f ws L j), v5, v6, v7], w⟩) ⟨.no, .no, .no, .inl rfl, rfl⟩ (by
      rintro j' j s hj hmem ⟨v5, v6, v7, h7, rfl⟩
      obtain ⟨rfl, hjm⟩ := range_at hj
      obtain ⟨T, hT⟩ : ∃ T, tabD f ws L j = T := ⟨_, rfl⟩
      have lT : T.length = j := by rw [← hT]; simp [tabD]
      have hB : inB (j : Int) := inB_of (by omega) (by omega)
      have hBn : inB (n : Int) := inB_of (by omega) (by omega)
      have el : l_filled_1 ⟨[.val (.list ((f).map llD)), .val (.list ((ws).map .int)), .val (.list ((L).map .int)), .val (.int ((m : Nat) : Int)), .own T, .val (.int ((j : Nat) : Int)), v6, v7], w⟩ = .ok (.new ((List.range' 0 j).map fun _ => PyData.none)) ⟨[.val (.list ((f).map llD)), .val (.list ((ws).map .int)), .val (.list ((L).map .int)), .val (.int ((m : Nat) : Int)), .own T, .val (.int ((j : Nat) : Int)), v6, v7], w⟩ := by
        rcases h7 with rfl | ⟨x, rfl⟩
        · refine lc_all (fun k : Nat => ⟨[.val (.list ((f).map llD)), .val (.list ((ws).map .int)), .val (.list ((L).map .int)), .val (.int ((m : Nat) : Int)), .own T, .val (.int ((j : Nat) : Int)), v6, .val (.int ((k : Nat) : Int))], w⟩) _ (f := fun k : Nat => PyData.int (k : Int)) (l := List.range' 0 j) (by have := rngN (a := 0) (n := j); simp -implicitDefEqProofs [hB]; exact this) (by simp; omega) rfl (fun a _ => by rfl) (fun a _ => by rfl) (fun k hk => ?_)
          unfold e_filled_1
          simp -implicitDefEqProofs
        · refine lc_all (fun k : Nat => ⟨[.val (.list ((f).map llD)), .val (.list ((ws).map .int)), .val (.list ((L).map .int)), .val (.int ((m : Nat) : Int)), .own T, .val (.int ((j : Nat) : Int)), v6, .val (.int ((k : Nat) : Int))], w⟩) _ (f := fun k : Nat => PyData.int (k : Int)) (l := List.range' 0 j) (by have := rngN (a := 0) (n := j); simp -implicitDefEqProofs [hB]; exact this) (by simp; omega) rfl (fun a _ => by rfl) (fun a _ => by rfl) (fun k hk => ?_)
          unfold e_filled_1
          simp -implicitDefEqProofs
      have e0 : (List.range' 0 j).map (fun _ => PyData.none) = (rowO f ws L j 0).map oD := by
        simp [rowO, oD]
        rw [List.map_const', List.length_range']
      rw [e0] at el
      obtain ⟨s2, e2, x7, h7', rfl⟩ := loopN (b := bName 7) (p := b_filled_2) (f := fun j : Nat => PyData.int (j : Int)) (l := List.range' j (n - j)) (s := ⟨[.val (.list ((f).map llD)), .val (.list ((ws).map .int)), .val (.list ((L).map .int)), .val (.int ((m : Nat) : Int)), .own T, .val (.int ((j : Nat) : Int)), .own ((rowO f ws L j 0).map oD), v7], w⟩)
        (fun i s => ∃ x7, (x7 = .no ∨ ∃ x : Int, x7 = .val (.int (x))) ∧ s = ⟨[.val (.list ((f).map llD)), .val (.list ((ws).map .int)), .val (.list ((L).map .int)), .val (.int ((m : Nat) : Int)), .own T, .val (.int ((j : Nat) : Int)), .own ((rowO f ws L j i).map oD), x7], w⟩) ⟨v7, h7, rfl⟩ (by
          rintro i' i s hi hmem ⟨x7, -, rfl⟩
          have hi' : i' < n - j := by have := (List.getElem?_eq_some_iff.mp hi).1; simpa using this
          have ei : i = j + i' := by
            rw [List.getElem?_range' hi'] at hi
            have := Option.some.inj hi
            omega
          obtain ⟨D, eD, hD⟩ : ∃ D, atI (T ++ [.list []]) ((j : Int) - 1) = some D ∧ ∀ q, j = q + 1 → ∃ ds, D = .list ds ∧ ∀ k, q ≤ k → k < i → ds[k]? = some (.int (cellI f ws L q k)) := by
            cases j with
            | zero => exact ⟨.list [], by rw [show (((0 : Nat) : Int) - 1) = -1 by omega]; exact atI_last _ _, fun q hq => by omega⟩
            | succ q =>
              refine ⟨rowD f ws L q, ?_, fun q' hq => ?_⟩
              · rw [show (((q + 1 : Nat) : Int) - 1) = (q : Int) by omega, atI_nat, List.getElem?_append_left (by omega), ← hT]
                exact tab_at (by omega)
              · obtain rfl : q' = q := by omega
                refine ⟨_, rfl, fun k k1 k2 => ?_⟩
                rw [List.getElem?_map, rowO_at k1 (by omega)]
                rfl
          have eb := bounds_ok h (j := j) (i := i) (by omega) (by omega) (D := D) hD (w := w)
          have em := min_ints (bnd_ne (f := f) (ws := ws) (L := L) (j := j) (i := i) (by omega))
          rw [← cell_bnd] at em
          have lt : ltS (rowO f ws L j i').length := size_lt (by simp [rowO]; omega)
          have lt2 : leS (T.length + 1) := size_le (by omega)
          have s1 : leS 1 := size_le (by omega)
          have er : (rowO f ws L j (i' + 1)).map oD = (rowO f ws L j i').map oD ++ [.int (cellI f ws L j i)] := by
            unfold rowO
            rw [rngI]
            simp [oD, ei]
          refine ⟨_, ?_, .val (.int ((i : Nat) : Int)), .inr ⟨_, rfl⟩, rfl⟩
          rw [er]
          unfold b_filled_2
          simp -implicitDefEqProofs [eD, eb, em, lt, lt2, s1])
      rw [List.length_range'] at e2
      have lt : ltS T.length := size_lt (by omega)
      have et : tabD f ws L (j + 1) = T ++ [.list ((rowO f ws L j (n - j)).map oD)] := by
        unfold tabD
        rw [List.range_succ, List.map_append, ← hT]
        simp [tabD, rowD, hn]
      refine ⟨_, ?_, .val (.int ((j : Nat) : Int)), .val (.list ((rowO f ws L j (n - j)).map oD)), x7, h7', rfl⟩
      rw [et]
      unfold b_filled_3
      simp -implicitDefEqProofs [hT, el, hB, hBn, hn, rngN, e2, lt])
  rw [List.length_range] at e
  have hB : inB (m : Int) := inB_of (by omega) (by omega)
  unfold F_filled p_filled
  simp only [x_runF]
  simp -implicitDefEqProofs [hB, rngZ, e]
def colI (f : List (List Int)) (ws L : List Int) (j : Nat) : List Int := (List.range' j (L.length - j)).map (cellI f ws L j)
def lastI (f : List (List Int)) (ws L : List Int) (j : Nat) : Nat := j + (colI f ws L j).idxOf (minI (colI f ws L j))
theorem colI_ne {f : List (List Int)} {ws L : List Int} {j : Nat} (h : j < L.length) : colI f ws L j ≠ [] := by
  intro z
  have := congrArg List.length z
  simp [colI] at this
  omega
theorem last_lt {f : List (List Int)} {ws L : List Int} {j : Nat} (h : j < L.length) : j ≤ lastI f ws L j ∧ lastI f ws L j < L.length := by
  have := List.idxOf_lt_length_iff.mpr (minI_mem (colI_ne (f := f) (ws := ws) h))
  have l : (colI f ws L j).length = L.length - j := by simp [colI]
  unfold lastI
  omega
theorem last_cell {f : List (List Int)} {ws L : List Int} {j : Nat} (h : j < L.length) : cellI f ws L j (lastI f ws L j) = minI (colI f ws L j) := by
  have hl := List.idxOf_lt_length_iff.mpr (minI_mem (colI_ne (f := f) (ws := ws) h))
  have e := List.getElem_idxOf hl
  unfold lastI
  obtain ⟨p, hp⟩ : ∃ p, (colI f ws L j).idxOf (minI (colI f ws L j)) = p := ⟨_, rfl⟩
  have e2 : (colI f ws L j)[p]? = some (minI (colI f ws L j)) := by rw [← hp]; exact List.getElem?_eq_some_iff.mpr ⟨hl, e⟩
  rw [hp]
  unfold colI at e2
  rw [List.getElem?_map] at e2
  have lp : p < L.length - j := by rw [← hp]; simpa [colI] using hl
  rw [List.getElem?_range' lp] at e2
  have := Option.some.inj e2
  rw [Nat.one_mul] at this
  rw [this]
  rfl
theorem idx_row {j : Nat} {C : List Int} {m : Int} (hm : m ∈ C) : idxO ((List.replicate j none ++ C.map some).map oD) (.int m) = some (j + C.idxOf m) := by
  unfold idxO
  rw [if_pos (by
    rw [Bool.and_eq_true]
    refine ⟨List.all_eq_true.mpr fun d hd => ?_, rfl⟩
    obtain ⟨o, _, rfl⟩ := List.mem_map.mp hd
    cases o <;> rfl)]
  induction j with
  | zero =>
    have := idxO_mem hm
    unfold idxO at this
    rw [if_pos (by simp [flatD])] at this
    simp only [List.replicate_zero, List.nil_append, List.map_map, Nat.zero_add]
    exact this
  | succ j ih =>
    rw [List.replicate_succ, List.cons_append, List.map_cons, List.findIdx?_cons, ih]
    simp [oD, PyData.eqv]
    omega
theorem last_ok {f : List (List Int)} {ws L : List Int} {j : Nat} (h : j < L.length) (h10 : L.length ≤ 10) {w : Pw} : F_last_of [.val (rowD f ws L j)] w = .ok (.val (.int (lastI f ws L j : Nat))) w := by
  have ne := colI_ne (f := f) (ws := ws) h
  have er : rowO f ws L j (L.length - j) = List.replicate j none ++ (colI f ws L j).map some := by simp [rowO, colI]
  have ef : (rowO f ws L j (L.length - j)).filter Option.isSome = (colI f ws L j).map some := by
    rw [er, List.filter_append]
    simp
  have el : l_last_of_2 ⟨[.val (rowD f ws L j), .no, .no], w⟩ = .ok (.new ((colI f ws L j).map .int)) ⟨[.val (rowD f ws L j), .no, .no], w⟩ := by
    have : (colI f ws L j).map PyData.int = ((rowO f ws L j (L.length - j)).filter Option.isSome).map oD := by rw [ef, List.map_map]; rfl
    rw [this]
    refine lc_gen (fun z : Option Int => ⟨[.val (rowD f ws L j), .no, .val (oD z)], w⟩) _ _ (f := oD) (l := rowO f ws L j (L.length - j)) (by unfold rowD; simp -implicitDefEqProofs) (by simp [rowO]; omega) rfl (fun a _ => by rfl) (fun a _ => by rfl) (fun z hz => ?_) (fun z hz _ => ?_)
    · unfold t_last_of_1
      cases z <;> simp -implicitDefEqProofs [oD]
    · unfold e_last_of_2
      cases z <;> simp -implicitDefEqProofs [oD]
  have ei := idx_row (j := j) (minI_mem ne)
  rw [← er] at ei
  have em := min_ints ne
  unfold F_last_of p_last_of
  simp only [x_runF]
  simp -implicitDefEqProofs [el, em]
  unfold rowD
  simp -implicitDefEqProofs [ei, lastI]

end DL

noncomputable section
namespace DL
open PySem L2

/-! few: the way back through the table -/
def prevI (f : List (List Int)) (ws L : List Int) (j i : Nat) : Nat := j + (bndI f ws L (j + 1) i).idxOf (cellI f ws L (j + 1) i)
def pathN (f : List (List Int)) (ws L : List Int) : Nat → Nat → List Nat
  | 0, i => [i]
  | j + 1, i => pathN f ws L j (prevI f ws L j i) ++ [i]
theorem prev_lt {f : List (List Int)} {ws L : List Int} {j i : Nat} (h : j + 1 ≤ i) : j ≤ prevI f ws L j i ∧ prevI f ws L j i < i := by
  have hm : cellI f ws L (j + 1) i ∈ bndI f ws L (j + 1) i := by rw [cell_bnd]; exact minI_mem (bnd_ne h)
  have := List.idxOf_lt_length_iff.mpr hm
  have l : (bndI f ws L (j + 1) i).length = i - j := by simp [bndI]
  unfold prevI
  omega
theorem path_len {f : List (List Int)} {ws L : List Int} : ∀ {j i : Nat}, (pathN f ws L j i).length = j + 1
  | 0, i => rfl
  | j + 1, i => by rw [pathN, List.length_append, path_len]; rfl
theorem path_lt {f : List (List Int)} {ws L : List Int} : ∀ {j i : Nat}, j ≤ i → ∀ x ∈ pathN f ws L j i, x ≤ i
  | 0, i, _, x, hx => by simp [pathN] at hx; omega
  | j + 1, i, h, x, hx => by
    rw [pathN] at hx
    rcases List.mem_append.mp hx with hx | hx
    · have := prev_lt (f := f) (ws := ws) (L := L) h
      have := path_lt this.1 x hx
      omega
    · simp at hx; omega
theorem must_asked_ok {L : List Int} {f : List (List Int)} {ws : List Int} (h : Fal L f ws) {m : Nat} (h0 : 0 < m) (hm : m ≤ L.length) {w : Pw} : F_must_be_asked [.val (.list ((f).map llD)), .val (.list ((ws).map .int)), .val (.list ((L).map .int)), .val (.int ((m : Nat) : Int))] w = .ok (.val .none) w := by
  obtain ⟨a, ha⟩ : ∃ a, f[0]? = some a := ⟨f[0]'h.F.1, List.getElem?_eq_getElem h.F.1⟩
  have e1 := weighed_ok (w := w) h.F h.W
  have e2 := must_fall_ok (w := w) h.rL ha (fun r hr => ⟨(h.v r hr).1, fallB_iff.mpr (h.v r hr).2⟩)
  have q1 : ¬ (m : Int) < 1 := by omega
  have q2 : ¬ (L.length : Int) < m := by omega
  have q3 : ¬ L.length < m := by omega
  unfold F_must_be_asked p_must_be_asked
  simp only [x_runF]
  simp -implicitDefEqProofs [e1, e2, q1, q2, q3]
def fewN (f : List (List Int)) (ws L : List Int) (m : Nat) : List Int := (pathN f ws L (m - 1) (lastI f ws L (m - 1))).map (nth L)
def fewP (f : List (List Int)) (ws L : List Int) (m : Nat) : Int := minI (colI f ws L (m - 1))
def fewD (f : List (List Int)) (ws L : List Int) (m : Nat) : PyData := .tuple [.int (fewP f ws L m), .list ((fewN f ws L m).map .int), .list (tabD f ws L m)]
theorem few_ok {L : List Int} {f : List (List Int)} {ws : List Int} (h : Fal L f ws) {m : Nat} (h0 : 0 < m) (hm : m ≤ L.length) {w : Pw} : F_few [.val (.list ((f).map llD)), .val (.list ((ws).map .int)), .val (.list ((L).map .int)), .val (.int ((m : Nat) : Int))] w = .ok (.val (fewD f ws L m)) w := by
  have l10 := h.l10
  obtain ⟨q, rfl⟩ : ∃ q, m = q + 1 := ⟨m - 1, by omega⟩
  have e1 := must_asked_ok h h0 hm (w := w)
  have e2 := filled_ok h hm (w := w)
  have e3 := last_ok (f := f) (ws := ws) (L := L) (j := q) (by omega) l10 (w := w)
  obtain ⟨a1, a2⟩ := last_lt (f := f) (ws := ws) (L := L) (j := q) (by omega)
  have ec := last_cell (f := f) (ws := ws) (L := L) (j := q) (by omega)
  obtain ⟨A, hA⟩ : ∃ A, lastI f ws L q = A := ⟨_, rfl⟩
  rw [hA] at e3 a1 a2 ec
  obtain ⟨T, hT⟩ : ∃ T, tabD f ws L (q + 1) = T := ⟨_, rfl⟩
  rw [hT] at e2
  have tl : atI T (-1) = some (rowD f ws L q) := by
    rw [← hT]
    unfold tabD
    rw [List.range_succ, List.map_append]
    exact atI_last _ _
  have ra : ∀ j i, j ≤ i → i < L.length → atI ((rowO f ws L j (L.length - j)).map oD) (i : Int) = some (.int (cellI f ws L j i)) := fun j i h1 h2 => by
    rw [atI_nat, List.getElem?_map, rowO_at h1 (by omega)]
    rfl
  have rx : ∀ j i : Nat, j ≤ i → i < L.length → ixO (rowD f ws L j) (.int (i : Int)) = some (.val (.int (cellI f ws L j i))) := fun j i h1 h2 => by
    unfold rowD
    rw [x_ixL, ra j i h1 h2]
    rfl
  have ta : ∀ j, j ≤ q → atI T (j : Int) = some (rowD f ws L j) := fun j hj => by
    rw [atI_nat, ← hT]; exact tab_at (by omega)
  have tlen : T.length = q + 1 := by rw [← hT]; simp [tabD]
  have s1 : leS 1 := size_le (by omega)
  have eD : downD (q : Int) q = (List.range q).map fun k : Nat => PyData.int ((q : Int) - k) := rfl
  obtain ⟨s', e, i0, N, v8, v9, hp, _, _, rfl⟩ := loopN (b := bName 8) (p := b_few_1) (f := fun k : Nat => PyData.int ((q : Int) - k)) (l := List.range q) (s := ⟨[.val (.list ((f).map llD)), .val (.list ((ws).map .int)), .val (.list ((L).map .int)), .val (.int ((q + 1 : Nat) : Int)), .own T, .val (.int ((A : Nat) : Int)), .val (.int (minI (colI f ws L q))), .own [.int (nth L A)], .no, .no], w⟩)
    (fun k s => ∃ (i : Nat) (N : List Nat) (v8 v9 : Sl), pathN f ws L q A = pathN f ws L (q - k) i ++ N ∧ q - k ≤ i ∧ i < L.length ∧ s = ⟨[.val (.list ((f).map llD)), .val (.list ((ws).map .int)), .val (.list ((L).map .int)), .val (.int ((q + 1 : Nat) : Int)), .own T, .val (.int ((i : Nat) : Int)), .val (.int (minI (colI f ws L q))), .own ((nth L i :: N.map (nth L)).map .int), v8, v9], w⟩) ⟨A, [], .no, .no, by simp, by omega, a2, rfl⟩ (by
      rintro k' k s hk hmem ⟨i, N, v8, v9, hp, h1, h2, rfl⟩
      obtain ⟨rfl, hkq⟩ := range_at hk
      obtain ⟨j, hj⟩ : ∃ j, q - k = j + 1 := ⟨q - k - 1, by omega⟩
      have hq : (q : Int) - (k : Int) = ((j + 1 : Nat) : Int) := by omega
      have hj0 : ((j + 1 : Nat) : Int) - 1 = (j : Int) := by omega
      rw [hj] at hp h1
      obtain ⟨p1, p2⟩ := prev_lt (f := f) (ws := ws) (L := L) h1
      obtain ⟨en, mn⟩ := nth_in (l := L) (k := prevI f ws L j i) (by omega)
      have eb := bounds_ok h (j := j + 1) (i := i) h1 h2 (D := rowD f ws L j) (w := w) (fun m hm => by
        obtain rfl : m = j := by omega
        exact ⟨_, rfl, fun k k1 k2 => by rw [List.getElem?_map, rowO_at k1 (by omega)]; rfl⟩)
      have eb : F_bounds [.val (.list ((f).map llD)), .val (.list ((ws).map .int)), .val (.list ((L).map .int)), .val (rowD f ws L j), .val (.int ((j : Int) + 1)), .val (.int ((i : Nat) : Int))] w = _ := eb
      have tb : atI T ((j : Int) + 1) = some (rowD f ws L (j + 1)) := ta (j + 1) (by omega)
      have hq : (q : Int) - (k : Int) = (j : Int) + 1 := by omega
      have hm : cellI f ws L (j + 1) i ∈ bndI f ws L (j + 1) i := by rw [cell_bnd]; exact minI_mem (bnd_ne h1)
      have ei := idxO_mem hm
      have ep : (j : Int) + ((bndI f ws L (j + 1) i).idxOf (cellI f ws L (j + 1) i) : Nat) = ((prevI f ws L j i : Nat) : Int) := by unfold prevI; omega
      have lN : N.length ≤ 10 := by
        have := congrArg List.length hp
        rw [List.length_append, path_len, path_len] at this
        omega
      have lt : leS (1 + (N.length + 1)) := size_le (by omega)
      refine ⟨_, ?_, prevI f ws L j i, i :: N, .val (.int ((q : Int) - k)), .own ((bndI f ws L (j + 1) i).map .int), ?_, by omega, by omega, rfl⟩
      · unfold b_few_1
        simp -implicitDefEqProofs [hq, ta j (by omega), tb, eb, rx (j + 1) i h1 h2, ei, ep, en, lt, s1]
      · rw [hp, pathN, List.append_assoc, show q - (k + 1) = j by omega]
        rfl)
  rw [List.length_range] at hp
  rw [show q - q = 0 by omega, pathN] at hp
  have eN : fewN f ws L (q + 1) = nth L i0 :: N.map (nth L) := by
    unfold fewN
    rw [show q + 1 - 1 = q by omega, hA, hp]
    rfl
  have lN : N.length ≤ 10 := by
    have := congrArg List.length hp
    rw [path_len] at this
    simp at this
    omega
  obtain ⟨enA, mnA⟩ := nth_in (l := L) (k := A) a2
  have hB1 : inB (q : Int) := inB_of (by omega) (by omega)
  have hB0 : inB 0 := inB_of (by omega) (by omega)
  have s3 : leS 3 := size_le (by omega)
  unfold fewD
  rw [eN, show fewP f ws L (q + 1) = minI (colI f ws L q) from rfl, hT]
  unfold F_few p_few
  simp only [x_runF]
  have e1 : F_must_be_asked [.val (.list ((f).map llD)), .val (.list ((ws).map .int)), .val (.list ((L).map .int)), .val (.int ((q : Int) + 1))] w = _ := e1
  have e2 : F_filled [.val (.list ((f).map llD)), .val (.list ((ws).map .int)), .val (.list ((L).map .int)), .val (.int ((q : Int) + 1))] w = _ := e2
  have rq := rx q A a1 a2
  rw [ec] at rq
  have e := e
  simp -implicitDefEqProofs at e
  simp -implicitDefEqProofs [e1, e2, tl, e3, rq, enA, s1, hB1, eD, e, s3]

end DL

noncomputable section
namespace DL
open PySem L2
def t_law_none_v4_1 : M Bool := fB (fOp (lift2 notInO) (fOp (lift2 addO) (fVar 7) (fC (.int 1))) (fVar 0))
def e_law_none_v4_2 : M R := fOp (lift2 addO) (fVar 7) (fC (.int 1))
abbrev l_law_none_v4_2 : M R := fLc (fLstI (fVar 0)) (bName 7) (t_law_none_v4_1) (e_law_none_v4_2) [7]
def t_law_none_v4_3 : M Bool := fB (fOp (lift2 ltO) (fVar 7) (fC (.int 2)))
def e_law_none_v4_4 : M R := fVar 7
abbrev l_law_none_v4_4 : M R := fLc (fLstI (fVar 0)) (bName 7) (t_law_none_v4_3) (e_law_none_v4_4) [7]
def t_law_none_v4_5 : M Bool := fB (fOp (lift2 neO) (fVar 7) (fOp (lift2 ixO) (fVar 6) (fC (.int 0))))
def e_law_none_v4_6 : M R := fVar 7
abbrev l_law_none_v4_6 : M R := fLc (fLstI (fVar 1)) (bName 7) (t_law_none_v4_5) (e_law_none_v4_6) [7]
def p_law_none_v4 : DSt → Flow := fseq (fSet 3 (fOp (lift2 modO) (fOp (lift2 fdivO) (fVar 2) (fC (.int 16))) (fCall lenO (pCons (fVar 1) fNil)))) (fseq (fSet 4 (fLc (fLstI (fVar 0)) (bName 7) (t_law_none_v4_1) (e_law_none_v4_2) [7])) (fseq (fSet 5 (fLst (fCons (fLst fNil) (fCons (fOp (lift2 addO) (fVar 1) (fSlice (fVar 1) fNoPart (fPart (fC (.int 1))))) (fCons (fCall tupleO (pCons (fVar 1) fNil)) (fCons (fC .none) (fCons (fC (.str "names")) (fCons (fOp (lift2 addO) (fOp (lift2 addO) (fSlice (fVar 1) fNoPart (fPart (fVar 3))) (fLst (fCons (fC .none) fNil))) (fSlice (fVar 1) (fPart (fOp (lift2 addO) (fVar 3) (fC (.int 1)))) fNoPart)) fNil)))))))) (fseq (fDrop (fApp 5 (fOp (lift2 addO) (fSlice (fVar 1) fNoPart (fPart (fVar 3))) (fLst (fCons (fOp (lift2 ixO) (fVar 4) (fOp (lift2 modO) (fOp (lift2 fdivO) (fVar 2) (fC (.int 64))) (fCall lenO (pCons (fVar 4) fNil)))) fNil))))) (fseq (fDrop (fApp 5 (fOp (lift2 addO) (fVar 1) (fLst (fCons (fOp (lift2 addO) (fCall maxO (pCons (fVar 0) fNil)) (fC (.int 1))) fNil))))) (fseq (fDrop (fApp 5 (fOp (lift2 addO) (fOp (lift2 addO) (fSlice (fVar 1) fNoPart (fPart (fVar 3))) (fLst (fCons (fSlice (fVar 1) (fPart (fVar 3)) (fPart (fOp (lift2 addO) (fVar 3) (fC (.int 1))))) fNil))) (fSlice (fVar 1) (fPart (fOp (lift2 addO) (fVar 3) (fC (.int 1)))) fNoPart)))) (fseq (fSet 6 (fLc (fLstI (fVar 0)) (bName 7) (t_law_none_v4_3) (e_law_none_v4_4) [7])) (fseq (fIfS (fB (fOp (lift2 neO) (fVar 6) (fLst fNil))) (fDrop (fApp 5 (fOp (lift2 addO) (fLc (fLstI (fVar 1)) (bName 7) (t_law_none_v4_5) (e_law_none_v4_6) [7]) (fLst (fCons (fCall boolO (pCons (fOp (lift2 ixO) (fVar 6) (fC (.int 0))) fNil)) fNil))))) fnext) (fRet (fOp (lift2 ixO) (fVar 5) (fOp (lift2 modO) (fVar 2) (fCall lenO (pCons (fVar 5) fNil))))))))))))
def F_law_none_v4 : List R → Pw → FRes := runF 8 3 p_law_none_v4
def Bad (L : List Int) (d : PyData) : Prop := lenOk d ∧ (unlikeB d = false ∨ ∃ M : List Int, d = .list (M.map .int) ∧ M.length ≤ 1000 ∧ (M = [] ∨ ∃ x ∈ M, x ∉ L))
end DL

noncomputable section
namespace DL
open PySem L2
def t_law_marks_1 : M Bool := fB (fVar 3)
def e_law_marks_2 : M R := fVar 2
abbrev l_law_marks_2 : M R := fLc (fLstI (fVar 1)) (bTup 2 (bCons (bName 2) (bCons (bName 3) bNil))) (t_law_marks_1) (e_law_marks_2) [2, 3]
def p_law_marks : DSt → Flow := fseq (fSet 1 (fLst (fCons (fTup (fCons (fC (.str "ranking")) (fCons (fIsX ["NoFit", "NoFolk", "NoLine", "NoNames", "NoNumber", "NoRanking"] "NoRanking" (fVar 0)) fNil))) (fCons (fTup (fCons (fC (.str "folk")) (fCons (fIsX ["NoFit", "NoFolk", "NoLine", "NoNames", "NoNumber", "NoRanking"] "NoFolk" (fVar 0)) fNil))) fNil)))) (fseq (fSet 1 (fOp (lift2 addO) (fVar 1) (fLst (fCons (fTup (fCons (fC (.str "names")) (fCons (fIsX ["NoFit", "NoFolk", "NoLine", "NoNames", "NoNumber", "NoRanking"] "NoNames" (fVar 0)) fNil))) (fCons (fTup (fCons (fC (.str "fit")) (fCons (fIsX ["NoFit", "NoFolk", "NoLine", "NoNames", "NoNumber", "NoRanking"] "NoFit" (fVar 0)) fNil))) fNil))))) (fseq (fSet 1 (fOp (lift2 addO) (fVar 1) (fLst (fCons (fTup (fCons (fC (.str "line")) (fCons (fIsX ["NoFit", "NoFolk", "NoLine", "NoNames", "NoNumber", "NoRanking"] "NoLine" (fVar 0)) fNil))) (fCons (fTup (fCons (fC (.str "number")) (fCons (fIsX ["NoFit", "NoFolk", "NoLine", "NoNames", "NoNumber", "NoRanking"] "NoNumber" (fVar 0)) fNil))) fNil))))) (fseq (fDrop (fApp 1 (fTup (fCons (fC (.str "none")) (fCons (fV (fNot (fB (fIsV ["NoFit", "NoFolk", "NoLine", "NoNames", "NoNumber", "NoRanking"] (fVar 0))))) fNil))))) (fRet (fLc (fLstI (fVar 1)) (bTup 2 (bCons (bName 2) (bCons (bName 3) bNil))) (t_law_marks_1) (e_law_marks_2) [2, 3])))))
def F_law_marks : List R → Pw → FRes := runF 4 1 p_law_marks
def tagOf (n : String) : Str := if n = "NoRanking" then "ranking" else if n = "NoFolk" then "folk" else if n = "NoNames" then "names" else if n = "NoFit" then "fit" else if n = "NoLine" then "line" else "number"
def tgD (p : Str × Bool) : PyData := .tuple [.str p.1, .bool p.2]
/-! ### looks that refuse -/
end DL

noncomputable section
namespace DL
open PySem L2
def e_middle_by_1 : M R := fIndex (fVar 0) (fVar 3)
abbrev l_middle_by_1 : M R := fLc (fLstI (fVar 1)) (bName 3) fYes (e_middle_by_1) [3]
def p_middle_by : DSt → Flow := fseq (fSet 2 (fCall sortedO (pCons (fLc (fLstI (fVar 1)) (bName 3) fYes (e_middle_by_1) [3]) fNil))) (fRet (fOp (lift2 ixO) (fVar 0) (fOp (lift2 ixO) (fVar 2) (fOp (lift2 fdivO) (fCall lenO (pCons (fVar 2) fNil)) (fC (.int 2))))))
def F_middle_by : List R → Pw → FRes := runF 4 2 p_middle_by
def e_are_on_1 : M R := fAndV (fUser F_is_number (fCons (fVar 3) fNil)) (fOp (lift2 inO) (fVar 3) (fVar 0))
abbrev l_are_on_1 : M R := fLc (fLstI (fVar 1)) (bName 3) fYes (e_are_on_1) [3]
def p_are_on : DSt → Flow := fseq (fIfS (fOr (fNot (fB (fIsi "list" (fVar 1)))) (fB (fOp (lift2 neO) (fCall lenO (pCons (fVar 1) fNil)) (fVar 2)))) (fRet (fC (.bool false))) fnext) (fRet (fCall allO (pCons (fLc (fLstI (fVar 1)) (bName 3) fYes (e_are_on_1) [3]) fNil)))
def F_are_on : List R → Pw → FRes := runF 4 3 p_are_on
def p_middle_of : DSt → Flow := fseq (fDrop (fUser F_must_be_line (fCons (fVar 0) fNil))) (fseq (fIfS (fOr (fNot (fB (fIsi "list" (fVar 1)))) (fOr (fB (fOp (lift2 ltO) (fCall lenO (pCons (fVar 1) fNil)) (fC (.int 1)))) (fOr (fB (fOp (lift2 gtO) (fCall lenO (pCons (fVar 1) fNil)) (fC (.int 20)))) (fNot (fB (fUser F_are_on (fCons (fVar 0) (fCons (fVar 1) (fCons (fCall lenO (pCons (fVar 1) fNil)) fNil))))))))) (fRaise "NoTops") fnext) (fseq (fIfS (fNot (fB (fUser F_are_on (fCons (fVar 0) (fCons (fVar 2) (fCons (fOp (lift2 addO) (fCall lenO (pCons (fVar 1) fNil)) (fC (.int 1))) fNil)))))) (fRaise "NoFixed") fnext) (fRet (fUser F_middle_by (fCons (fVar 0) (fCons (fOp (lift2 addO) (fVar 1) (fVar 2)) fNil))))))
def F_middle_of : List R → Pw → FRes := runF 3 3 p_middle_of
def e_law_middle_1 : M R := fIndex (fVar 0) (fVar 3)
abbrev l_law_middle_1 : M R := fLc (fLstI (fVar 1)) (bName 3) fYes (e_law_middle_1) [3]
def p_law_middle : DSt → Flow := fseq (fSet 2 (fCall sortedO (pCons (fLc (fLstI (fVar 1)) (bName 3) fYes (e_law_middle_1) [3]) fNil))) (fRet (fOp (lift2 ixO) (fVar 0) (fOp (lift2 ixO) (fVar 2) (fOp (lift2 fdivO) (fCall lenO (pCons (fVar 2) fNil)) (fC (.int 2))))))
def F_law_middle : List R → Pw → FRes := runF 4 2 p_law_middle
def t_law_names_of_v3_1 : M Bool := fB (fVar 4)
def e_law_names_of_v3_2 : M R := fVar 3
abbrev l_law_names_of_v3_2 : M R := fLc (fZip (fCons (fVar 2) (fCons (fVar 1) fNil))) (bTup 2 (bCons (bName 3) (bCons (bName 4) bNil))) (t_law_names_of_v3_1) (e_law_names_of_v3_2) [3, 4]
def p_law_names_of_v3 : DSt → Flow := fseq (fSet 1 (fLst (fCons (fIsY ["NoFixed", "NoLine", "NoTops"] "NoBack" (fVar 0)) (fCons (fIsY ["NoFixed", "NoLine", "NoTops"] "NoFall" (fVar 0)) (fCons (fIsY ["NoFixed", "NoLine", "NoTops"] "NoFit" (fVar 0)) fNil))))) (fseq (fSet 1 (fOp (lift2 addO) (fVar 1) (fLst (fCons (fIsX ["NoFixed", "NoLine", "NoTops"] "NoFixed" (fVar 0)) (fCons (fIsY ["NoFixed", "NoLine", "NoTops"] "NoFolk" (fVar 0)) (fCons (fIsY ["NoFixed", "NoLine", "NoTops"] "NoHand" (fVar 0)) fNil)))))) (fseq (fSet 1 (fOp (lift2 addO) (fVar 1) (fLst (fCons (fIsX ["NoFixed", "NoLine", "NoTops"] "NoLine" (fVar 0)) (fCons (fIsY ["NoFixed", "NoLine", "NoTops"] "NoNames" (fVar 0)) (fCons (fIsY ["NoFixed", "NoLine", "NoTops"] "NoNumber" (fVar 0)) fNil)))))) (fseq (fSet 1 (fOp (lift2 addO) (fVar 1) (fLst (fCons (fIsY ["NoFixed", "NoLine", "NoTops"] "NoPaper" (fVar 0)) (fCons (fIsY ["NoFixed", "NoLine", "NoTops"] "NoRanking" (fVar 0)) (fCons (fIsY ["NoFixed", "NoLine", "NoTops"] "NoRow" (fVar 0)) fNil)))))) (fseq (fSet 1 (fOp (lift2 addO) (fVar 1) (fLst (fCons (fIsY ["NoFixed", "NoLine", "NoTops"] "NoRule" (fVar 0)) (fCons (fIsY ["NoFixed", "NoLine", "NoTops"] "NoText" (fVar 0)) (fCons (fIsY ["NoFixed", "NoLine", "NoTops"] "NoTitle" (fVar 0)) fNil)))))) (fseq (fSet 1 (fOp (lift2 addO) (fVar 1) (fLst (fCons (fIsX ["NoFixed", "NoLine", "NoTops"] "NoTops" (fVar 0)) (fCons (fIsY ["NoFixed", "NoLine", "NoTops"] "NoTree" (fVar 0)) (fCons (fIsY ["NoFixed", "NoLine", "NoTops"] "NoWeights" (fVar 0)) fNil)))))) (fseq (fSet 1 (fOp (lift2 addO) (fVar 1) (fLst (fCons (fIsY ["NoFixed", "NoLine", "NoTops"] "TooGreat" (fVar 0)) fNil)))) (fseq (fSet 2 (fLst (fCons (fC (.str "NoBack")) (fCons (fC (.str "NoFall")) (fCons (fC (.str "NoFit")) (fCons (fC (.str "NoFixed")) (fCons (fC (.str "NoFolk")) (fCons (fC (.str "NoHand")) (fCons (fC (.str "NoLine")) (fCons (fC (.str "NoNames")) fNil)))))))))) (fseq (fSet 2 (fOp (lift2 addO) (fVar 2) (fLst (fCons (fC (.str "NoNumber")) (fCons (fC (.str "NoPaper")) (fCons (fC (.str "NoRanking")) (fCons (fC (.str "NoRow")) (fCons (fC (.str "NoRule")) (fCons (fC (.str "NoText")) (fCons (fC (.str "NoTitle")) (fCons (fC (.str "NoTops")) fNil))))))))))) (fseq (fSet 2 (fOp (lift2 addO) (fVar 2) (fLst (fCons (fC (.str "NoTree")) (fCons (fC (.str "NoWeights")) (fCons (fC (.str "TooGreat")) fNil)))))) (fRet (fLc (fZip (fCons (fVar 2) (fCons (fVar 1) fNil))) (bTup 2 (bCons (bName 3) (bCons (bName 4) bNil))) (t_law_names_of_v3_1) (e_law_names_of_v3_2) [3, 4])))))))))))
def F_law_names_of_v3 : List R → Pw → FRes := runF 5 1 p_law_names_of_v3
def b_law_refused_v17_1 : DSt → Flow := fDrop (fUser F_middle_of (fCons (fVar 0) (fCons (fVar 1) (fCons (fVar 2) fNil))))
def p_law_refused_v17 : DSt → Flow := fseq (fSet 4 (fC .none)) (fseq (fTry ["NoFixed", "NoLine", "NoTops"] 5 4 b_law_refused_v17_1) (fRet (fAndV (fIsV ["NoFixed", "NoLine", "NoTops"] (fVar 4)) (fOp (lift2 eqO) (fUser F_law_names_of_v3 (fCons (fVar 4) fNil)) (fLst (fCons (fVar 3) fNil))))))
def F_law_refused_v17 : List R → Pw → FRes := runF 6 4 p_law_refused_v17
def t_law_none_v3_1 : M Bool := fB (fOp (lift2 notInO) (fOp (lift2 addO) (fVar 8) (fC (.int 1))) (fVar 0))
def e_law_none_v3_2 : M R := fOp (lift2 addO) (fVar 8) (fC (.int 1))
abbrev l_law_none_v3_2 : M R := fLc (fLstI (fVar 0)) (bName 8) (t_law_none_v3_1) (e_law_none_v3_2) [8]
def t_law_none_v3_3 : M Bool := fB (fOp (lift2 ltO) (fVar 8) (fC (.int 2)))
def e_law_none_v3_4 : M R := fVar 8
abbrev l_law_none_v3_4 : M R := fLc (fLstI (fVar 0)) (bName 8) (t_law_none_v3_3) (e_law_none_v3_4) [8]
def p_law_none_v3 : DSt → Flow := fseq (fSet 3 (fOp (lift2 modO) (fOp (lift2 fdivO) (fVar 2) (fC (.int 16))) (fCall lenO (pCons (fVar 1) fNil)))) (fseq (fSet 4 (fLc (fLstI (fVar 0)) (bName 8) (t_law_none_v3_1) (e_law_none_v3_2) [8])) (fseq (fSet 5 (fLst (fCons (fCall tupleO (pCons (fVar 1) fNil)) (fCons (fC .none) (fCons (fC (.str "names")) (fCons (fOp (lift2 addO) (fOp (lift2 addO) (fSlice (fVar 1) fNoPart (fPart (fVar 3))) (fLst (fCons (fC .none) fNil))) (fSlice (fVar 1) (fPart (fOp (lift2 addO) (fVar 3) (fC (.int 1)))) fNoPart)) fNil)))))) (fseq (fSet 6 (fOp (lift2 ixO) (fVar 4) (fOp (lift2 modO) (fOp (lift2 fdivO) (fVar 2) (fC (.int 64))) (fCall lenO (pCons (fVar 4) fNil))))) (fseq (fDrop (fApp 5 (fOp (lift2 addO) (fOp (lift2 addO) (fSlice (fVar 1) fNoPart (fPart (fVar 3))) (fLst (fCons (fVar 6) fNil))) (fSlice (fVar 1) (fPart (fOp (lift2 addO) (fVar 3) (fC (.int 1)))) fNoPart)))) (fseq (fDrop (fApp 5 (fOp (lift2 addO) (fOp (lift2 addO) (fSlice (fVar 1) fNoPart (fPart (fVar 3))) (fLst (fCons (fUn (lift1 negO) (fC (.int 1))) fNil))) (fSlice (fVar 1) (fPart (fOp (lift2 addO) (fVar 3) (fC (.int 1)))) fNoPart)))) (fseq (fDrop (fApp 5 (fOp (lift2 addO) (fOp (lift2 addO) (fSlice (fVar 1) fNoPart (fPart (fVar 3))) (fLst (fCons (fSlice (fVar 1) (fPart (fVar 3)) (fPart (fOp (lift2 addO) (fVar 3) (fC (.int 1))))) fNil))) (fSlice (fVar 1) (fPart (fOp (lift2 addO) (fVar 3) (fC (.int 1)))) fNoPart)))) (fseq (fSet 7 (fLc (fLstI (fVar 0)) (bName 8) (t_law_none_v3_3) (e_law_none_v3_4) [8])) (fseq (fIfS (fB (fOp (lift2 neO) (fVar 7) (fLst fNil))) (fDrop (fApp 5 (fOp (lift2 addO) (fOp (lift2 addO) (fSlice (fVar 1) fNoPart (fPart (fVar 3))) (fLst (fCons (fCall boolO (pCons (fOp (lift2 ixO) (fVar 7) (fC (.int 0))) fNil)) fNil))) (fSlice (fVar 1) (fPart (fOp (lift2 addO) (fVar 3) (fC (.int 1)))) fNoPart)))) fnext) (fRet (fOp (lift2 ixO) (fVar 5) (fOp (lift2 modO) (fVar 2) (fCall lenO (pCons (fVar 5) fNil)))))))))))))
def F_law_none_v3 : List R → Pw → FRes := runF 9 3 p_law_none_v3
/-! ### the middle one -/
def medI (L N : List Int) : Int := (sortI (plsI L N)).getD (N.length / 2) 0
/-! ### what is on a line -/
def onN (L : List Int) : PyData → Bool | .int z => decide (z ∈ L) | _ => false
def onB (L : List Int) (n : Int) : PyData → Bool | .list ds => decide ((ds.length : Int) = n) && ds.all (onN L) | _ => false
def topB (L : List Int) : PyData → Bool | .list ds => decide (1 ≤ ds.length ∧ ds.length ≤ 20) && ds.all (onN L) | _ => false
end DL

noncomputable section
namespace DL
open PySem L2
def b_order_wrong_1 : DSt → Flow := fseq (fSet 5 (fUser F_beaters (fCons (fVar 0) (fCons (fVar 1) (fCons (fSlice (fVar 2) (fPart (fOp (lift2 addO) (fVar 3) (fC (.int 1)))) fNoPart) (fCons (fVar 4) fNil)))))) (fIfS (fB (fOp (lift2 neO) (fVar 5) (fLst fNil))) (fRet (fTup (fCons (fC (.str "ahead")) (fCons (fVar 4) (fCons (fOp (lift2 ixO) (fVar 5) (fC (.int 0))) fNil))))) fnext)
abbrev o_order_wrong_1 : List PyData → DSt → Flow := loopF (bTup 2 (bCons (bName 3) (bCons (bName 4) bNil))) b_order_wrong_1
def p_order_wrong : DSt → Flow := fseq (fIfS (fOr (fNot (fB (fUser F_are_unlike_names (fCons (fVar 2) fNil)))) (fB (fOp (lift2 neO) (fCall sortedO (pCons (fVar 2) fNil)) (fCall sortedO (pCons (fOp (lift2 ixO) (fVar 0) (fC (.int 0))) fNil))))) (fRet (fTup (fCons (fC (.str "order")) fNil))) fnext) (fseq (fFor (fEnum (fCons (fVar 2) fNil)) (bTup 2 (bCons (bName 3) (bCons (bName 4) bNil))) b_order_wrong_1) (fRet (fC .none)))
def F_order_wrong : List R → Pw → FRes := runF 6 3 p_order_wrong
def e_ring_wrong_1 : M R := fOp (lift2 inO) (fVar 4) (fOp (lift2 ixO) (fVar 0) (fC (.int 0)))
abbrev l_ring_wrong_1 : M R := fLc (fLstI (fVar 2)) (bName 4) fYes (e_ring_wrong_1) [4]
def b_ring_wrong_2 : DSt → Flow := fIfS (fB (fOp (lift2 leO) (fUser F_lead (fCons (fVar 0) (fCons (fVar 1) (fCons (fVar 4) (fCons (fOp (lift2 ixO) (fVar 2) (fOp (lift2 modO) (fOp (lift2 addO) (fVar 3) (fC (.int 1))) (fCall lenO (pCons (fVar 2) fNil)))) fNil))))) (fC (.int 0)))) (fRet (fTup (fCons (fC (.str "beats")) (fCons (fVar 3) fNil)))) fnext
abbrev o_ring_wrong_2 : List PyData → DSt → Flow := loopF (bTup 2 (bCons (bName 3) (bCons (bName 4) bNil))) b_ring_wrong_2
def p_ring_wrong : DSt → Flow := fseq (fIfS (fOr (fNot (fB (fUser F_are_unlike_names (fCons (fVar 2) fNil)))) (fOr (fB (fOp (lift2 ltO) (fCall lenO (pCons (fVar 2) fNil)) (fC (.int 3)))) (fNot (fB (fCall allO (pCons (fLc (fLstI (fVar 2)) (bName 4) fYes (e_ring_wrong_1) [4]) fNil)))))) (fRet (fTup (fCons (fC (.str "ring")) fNil))) fnext) (fseq (fFor (fEnum (fCons (fVar 2) fNil)) (bTup 2 (bCons (bName 3) (bCons (bName 4) bNil))) b_ring_wrong_2) (fRet (fC .none)))
def F_ring_wrong : List R → Pw → FRes := runF 5 3 p_ring_wrong
def p_order_judged : DSt → Flow := fseq (fDrop (fUser F_must_be_weighed (fCons (fVar 0) (fCons (fVar 1) fNil)))) (fseq (fIfS (fOr (fNot (fB (fIsi "tuple" (fVar 2)))) (fOr (fB (fOp (lift2 neO) (fCall lenO (pCons (fVar 2) fNil)) (fC (.int 2)))) (fNot (fB (fIsi "str" (fOp (lift2 ixO) (fVar 2) (fC (.int 0)))))))) (fRet (fTup (fCons (fC (.str "paper")) fNil))) fnext) (fseq (fIfS (fB (fOp (lift2 eqO) (fOp (lift2 ixO) (fVar 2) (fC (.int 0))) (fC (.str "order")))) (fRet (fUser F_order_wrong (fCons (fVar 0) (fCons (fVar 1) (fCons (fOp (lift2 ixO) (fVar 2) (fC (.int 1))) fNil))))) fnext) (fseq (fIfS (fB (fOp (lift2 eqO) (fOp (lift2 ixO) (fVar 2) (fC (.int 0))) (fC (.str "ring")))) (fRet (fUser F_ring_wrong (fCons (fVar 0) (fCons (fVar 1) (fCons (fOp (lift2 ixO) (fVar 2) (fC (.int 1))) fNil))))) fnext) (fRet (fTup (fCons (fC (.str "paper")) fNil))))))
def F_order_judged : List R → Pw → FRes := runF 3 3 p_order_judged
def t_law_are_names_1 : M Bool := fNot (fB (fUser F_law_whole (fCons (fVar 2) fNil)))
def e_law_are_names_2 : M R := fVar 2
abbrev l_law_are_names_2 : M R := fLc (fLstI (fVar 1)) (bName 2) (t_law_are_names_1) (e_law_are_names_2) [2]
def t_law_are_names_3 : M Bool := fB (fOp (lift2 notInO) (fVar 2) (fVar 0))
def e_law_are_names_4 : M R := fVar 2
abbrev l_law_are_names_4 : M R := fLc (fLstI (fVar 1)) (bName 2) (t_law_are_names_3) (e_law_are_names_4) [2]
def p_law_are_names : DSt → Flow := fseq (fIfS (fOr (fNot (fB (fIsi "list" (fVar 1)))) (fB (fOp (lift2 neO) (fLc (fLstI (fVar 1)) (bName 2) (t_law_are_names_1) (e_law_are_names_2) [2]) (fLst fNil)))) (fRet (fC (.bool false))) fnext) (fRet (fAndV (fOp (lift2 eqO) (fLenSet (fVar 1)) (fCall lenO (pCons (fVar 1) fNil))) (fOp (lift2 eqO) (fLc (fLstI (fVar 1)) (bName 2) (t_law_are_names_3) (e_law_are_names_4) [2]) (fLst fNil))))
def F_law_are_names : List R → Pw → FRes := runF 3 2 p_law_are_names
def b_law_order_wrong_1 : DSt → Flow := fIfS (fB (fOp (lift2 gtO) (fUser F_law_lead (fCons (fVar 0) (fCons (fVar 1) (fCons (fOp (lift2 ixO) (fVar 4) (fVar 6)) (fCons (fOp (lift2 ixO) (fVar 4) (fVar 5)) fNil))))) (fC (.int 0)))) (fRet (fTup (fCons (fC (.str "ahead")) (fCons (fOp (lift2 ixO) (fVar 4) (fVar 5)) (fCons (fOp (lift2 ixO) (fVar 4) (fVar 6)) fNil))))) fnext
abbrev o_law_order_wrong_1 : List PyData → DSt → Flow := loopF (bName 6) b_law_order_wrong_1
def b_law_order_wrong_2 : DSt → Flow := fFor (fRng2 (pCons (fOp (lift2 addO) (fVar 5) (fC (.int 1))) (pCons (fCall lenO (pCons (fVar 4) fNil)) fNil))) (bName 6) b_law_order_wrong_1
abbrev o_law_order_wrong_2 : List PyData → DSt → Flow := loopF (bName 5) b_law_order_wrong_2
def b_law_order_wrong_3 : DSt → Flow := fIfS (fB (fOp (lift2 leO) (fUser F_law_lead (fCons (fVar 0) (fCons (fVar 1) (fCons (fOp (lift2 ixO) (fVar 4) (fVar 5)) (fCons (fOp (lift2 ixO) (fOp (lift2 addO) (fVar 4) (fSlice (fVar 4) fNoPart (fPart (fC (.int 1))))) (fOp (lift2 addO) (fVar 5) (fC (.int 1)))) fNil))))) (fC (.int 0)))) (fRet (fTup (fCons (fC (.str "beats")) (fCons (fVar 5) fNil)))) fnext
abbrev o_law_order_wrong_3 : List PyData → DSt → Flow := loopF (bName 5) b_law_order_wrong_3
def p_law_order_wrong : DSt → Flow := fseq (fSet 3 (fOp (lift2 ixO) (fVar 0) (fC (.int 0)))) (fseq (fIfS (fOr (fNot (fB (fIsi "tuple" (fVar 2)))) (fOr (fB (fOp (lift2 neO) (fCall lenO (pCons (fVar 2) fNil)) (fC (.int 2)))) (fNot (fB (fIsi "str" (fOp (lift2 ixO) (fVar 2) (fC (.int 0)))))))) (fRet (fTup (fCons (fC (.str "paper")) fNil))) fnext) (fseq (fIfS (fB (fOp (lift2 notInO) (fOp (lift2 ixO) (fVar 2) (fC (.int 0))) (fLst (fCons (fC (.str "order")) (fCons (fC (.str "ring")) fNil))))) (fRet (fTup (fCons (fC (.str "paper")) fNil))) fnext) (fseq (fSet 4 (fOp (lift2 ixO) (fVar 2) (fC (.int 1)))) (fseq (fIfS (fB (fOp (lift2 eqO) (fOp (lift2 ixO) (fVar 2) (fC (.int 0))) (fC (.str "order")))) (fseq (fIfS (fOr (fNot (fB (fUser F_law_are_names (fCons (fVar 3) (fCons (fVar 4) fNil))))) (fB (fOp (lift2 neO) (fCall lenO (pCons (fVar 4) fNil)) (fCall lenO (pCons (fVar 3) fNil))))) (fRet (fTup (fCons (fC (.str "order")) fNil))) fnext) (fseq (fFor (fRng1 (pCons (fCall lenO (pCons (fVar 4) fNil)) fNil)) (bName 5) b_law_order_wrong_2) (fRet (fC .none)))) fnext) (fseq (fIfS (fOr (fNot (fB (fUser F_law_are_names (fCons (fVar 3) (fCons (fVar 4) fNil))))) (fB (fOp (lift2 ltO) (fCall lenO (pCons (fVar 4) fNil)) (fC (.int 3))))) (fRet (fTup (fCons (fC (.str "ring")) fNil))) fnext) (fseq (fFor (fRng1 (pCons (fCall lenO (pCons (fVar 4) fNil)) fNil)) (bName 5) b_law_order_wrong_3) (fRet (fC .none))))))))
def F_law_order_wrong : List R → Pw → FRes := runF 7 3 p_law_order_wrong
theorem ne_nil_data {x : PyData} {xs : List PyData} : neO (.list (x :: xs)) (.list []) = some (.val (.bool true)) := by
  unfold neO
  rw [if_pos (by simp [PyData.depth, PyData.depthAll])]
  rfl
def lanB (a : List Int) : PyData → Bool
  | .list ds => match intsD ds with
    | some ns => decide (ns.Nodup ∧ ∀ x ∈ ns, x ∈ a)
    | none => false
  | _ => false
theorem ints_all : ∀ {ds : List PyData}, (∀ d ∈ ds, isI d = true) → ∃ ns : List Int, ds = ns.map .int
  | [], _ => ⟨[], rfl⟩
  | d :: ds, h => by
    obtain ⟨ns, rfl⟩ := ints_all (ds := ds) fun x hx => h x (List.mem_cons_of_mem _ hx)
    have := h d List.mem_cons_self
    cases d with
    | int z => exact ⟨z :: ns, rfl⟩
    | _ => simp [isI] at this
theorem are_names_any {a : List Int} {d : PyData} {w : Pw} (hl : lenOk d) : F_law_are_names [.val (.list ((a).map .int)), .val d] w = .ok (.val (.bool (lanB a d))) w := by
  unfold F_law_are_names p_law_are_names
  simp only [x_runF]
  cases d with
  | list ds =>
    have hl' : ds.length ≤ 4000 := hl
    have el : l_law_are_names_2 ⟨[.val (.list ((a).map .int)), .val (.list ds), .no], w⟩ = .ok (.new ((ds.filter fun x => !isI x).map id)) ⟨[.val (.list ((a).map .int)), .val (.list ds), .no], w⟩ := by
      refine lc_gen (fun x : PyData => ⟨[.val (.list ((a).map .int)), .val (.list ds), .val x], w⟩) _ _ (f := id) (l := ds) (by simp -implicitDefEqProofs) (by omega) rfl (fun a _ => by rfl) (fun a _ => by rfl) (fun x hx => ?_) (fun x hx _ => ?_)
      · unfold t_law_are_names_1
        simp -implicitDefEqProofs [whole_ok]
      · unfold e_law_are_names_2
        simp -implicitDefEqProofs
    rw [List.map_id] at el
    by_cases q : ∀ x ∈ ds, isI x = true
    · obtain ⟨ns, rfl⟩ := ints_all q
      have ef : ((ns.map PyData.int).filter fun x => !isI x) = [] := List.filter_eq_nil_iff.mpr fun x hx => by simp [q x hx]
      rw [ef] at el
      rw [List.length_map] at hl'
      have el2 : l_law_are_names_4 ⟨[.val (.list ((a).map .int)), .val (.list ((ns).map .int)), .no], w⟩ = .ok (.new ((ns.filter fun x => decide (x ∉ a)).map .int)) ⟨[.val (.list ((a).map .int)), .val (.list ((ns).map .int)), .no], w⟩ := by
        refine lc_gen (fun x : Int => ⟨[.val (.list ((a).map .int)), .val (.list ((ns).map .int)), .val (.int (x))], w⟩) _ _ (f := .int) (l := ns) (by simp -implicitDefEqProofs) (by omega) rfl (fun a _ => by rfl) (fun a _ => by rfl) (fun x hx => ?_) (fun x hx _ => ?_)
        · unfold t_law_are_names_3
          simp -implicitDefEqProofs
        · unfold e_law_are_names_4
          simp -implicitDefEqProofs
      have hn : decide (((nubI ns).length : Int) = (ns.length : Int)) = decide ns.Nodup := nub_dec
      obtain ⟨K, hK⟩ : ∃ K, (ns.filter fun x => decide (x ∉ a)) = K := ⟨_, rfl⟩
      have hKe : K = [] ↔ ∀ x ∈ ns, x ∈ a := by
        rw [← hK, List.filter_eq_nil_iff]
        simp
      rw [hK] at el2
      have fin : lanB a (.list (ns.map .int)) = decide (ns.Nodup ∧ K = []) := by
        unfold lanB
        simp only [intsD_map]
        exact decide_eq_decide.mpr (by rw [hKe])
      rw [fin]
      by_cases h1 : ns.Nodup
      · have h1' : ((nubI ns).length : Int) = (ns.length : Int) := by simpa [h1] using hn
        have h1'' : (nubI ns).length = ns.length := by omega
        cases K <;> simp only [List.map_nil, List.map_cons] at el2 <;> simp -implicitDefEqProofs [hl', el, el2, h1, h1', h1'', ne_nil_data]
      · have h1' : ¬ ((nubI ns).length : Int) = (ns.length : Int) := by simpa [h1] using hn
        have h1'' : ¬ (nubI ns).length = ns.length := by omega
        cases K <;> simp only [List.map_nil, List.map_cons] at el2 <;> simp -implicitDefEqProofs [hl', el, el2, h1, h1', h1'', ne_nil_data]
    · have hnone : intsD ds = none := by
        cases e : intsD ds with
        | none => rfl
        | some ns =>
          exfalso
          refine q fun x hx => ?_
          rw [intsD_some e] at hx
          obtain ⟨z, _, rfl⟩ := List.mem_map.mp hx
          rfl
      obtain ⟨x, xs, ex⟩ : ∃ x xs, (ds.filter fun x => !isI x) = x :: xs := by
        refine List.exists_cons_of_ne_nil fun z => q fun x hx => ?_
        have := List.filter_eq_nil_iff.mp z x hx
        simpa using this
      rw [ex] at el
      simp -implicitDefEqProofs [el, ne_nil_data, lanB, hnone]
  | _ => simp -implicitDefEqProofs [lanB]
/-! ### an order looked at -/
def tupA (x y : Int) : PyData := .tuple [.str (Str.ofString "ahead"), .int x, .int y]
def tupB (k : Nat) : PyData := .tuple [.str (Str.ofString "beats"), .int (k : Int)]
def ordK (f : List (List Int)) (ws M : List Int) (k : Nat) : Option PyData := (List.range (M.length - (k + 1))).findSome? fun u => if 0 < leadI f ws (nth M (k + 1 + u)) (nth M k) then some (tupA (nth M k) (nth M (k + 1 + u))) else none
def ordR (f : List (List Int)) (ws M : List Int) : Option PyData := (List.range M.length).findSome? (ordK f ws M)
def rngK (f : List (List Int)) (ws M : List Int) (k : Nat) : Option PyData := if leadI f ws (nth M k) (nth M ((k + 1) % M.length)) ≤ 0 then some (tupB k) else none
def rngR (f : List (List Int)) (ws M : List Int) : Option PyData := (List.range M.length).findSome? (rngK f ws M)
end DL

noncomputable section
namespace DL
open PySem L2
def e_is_row_1 : M R := fIsN false (fVar 3)
abbrev l_is_row_1 : M R := fLc (fLstI (fSlice (fVar 2) fNoPart (fPart (fVar 0)))) (bName 3) fYes (e_is_row_1) [3]
def e_is_row_2 : M R := fUser F_is_number (fCons (fVar 3) fNil)
abbrev l_is_row_2 : M R := fLc (fLstI (fSlice (fVar 2) (fPart (fVar 0)) fNoPart)) (bName 3) fYes (e_is_row_2) [3]
def p_is_row : DSt → Flow := fseq (fIfS (fOr (fNot (fB (fIsi "list" (fVar 2)))) (fB (fOp (lift2 neO) (fCall lenO (pCons (fVar 2) fNil)) (fVar 1)))) (fRet (fC (.bool false))) fnext) (fRet (fAndV (fCall allO (pCons (fLc (fLstI (fSlice (fVar 2) fNoPart (fPart (fVar 0)))) (bName 3) fYes (e_is_row_1) [3]) fNil)) (fCall allO (pCons (fLc (fLstI (fSlice (fVar 2) (fPart (fVar 0)) fNoPart)) (bName 3) fYes (e_is_row_2) [3]) fNil))))
def F_is_row : List R → Pw → FRes := runF 4 3 p_is_row
def e_is_table_1 : M R := fUser F_is_row (fCons (fVar 3) (fCons (fVar 1) (fCons (fVar 4) fNil)))
abbrev l_is_table_1 : M R := fLc (fEnum (fCons (fVar 2) fNil)) (bTup 2 (bCons (bName 3) (bCons (bName 4) bNil))) fYes (e_is_table_1) [3, 4]
def p_is_table : DSt → Flow := fseq (fIfS (fOr (fNot (fB (fIsi "list" (fVar 2)))) (fB (fOp (lift2 neO) (fCall lenO (pCons (fVar 2) fNil)) (fVar 0)))) (fRet (fC (.bool false))) fnext) (fRet (fCall allO (pCons (fLc (fEnum (fCons (fVar 2) fNil)) (bTup 2 (bCons (bName 3) (bCons (bName 4) bNil))) fYes (e_is_table_1) [3, 4]) fNil)))
def F_is_table : List R → Pw → FRes := runF 5 3 p_is_table
def t_law_is_few_table_1 : M Bool := fB (fIsN true (fVar 5))
def e_law_is_few_table_2 : M R := fVar 5
abbrev l_law_is_few_table_2 : M R := fLc (fLstI (fSlice (fVar 4) fNoPart (fPart (fVar 3)))) (bName 5) (t_law_is_few_table_1) (e_law_is_few_table_2) [5]
def t_law_is_few_table_3 : M Bool := fNot (fB (fUser F_law_whole (fCons (fVar 5) fNil)))
def e_law_is_few_table_4 : M R := fVar 5
abbrev l_law_is_few_table_4 : M R := fLc (fLstI (fSlice (fVar 4) (fPart (fVar 3)) fNoPart)) (bName 5) (t_law_is_few_table_3) (e_law_is_few_table_4) [5]
def b_law_is_few_table_5 : DSt → Flow := fseq (fSet 4 (fOp (lift2 ixO) (fVar 2) (fVar 3))) (fseq (fIfS (fOr (fNot (fB (fIsi "list" (fVar 4)))) (fOr (fB (fOp (lift2 neO) (fCall lenO (pCons (fVar 4) fNil)) (fVar 1))) (fB (fOp (lift2 neO) (fLc (fLstI (fSlice (fVar 4) fNoPart (fPart (fVar 3)))) (bName 5) (t_law_is_few_table_1) (e_law_is_few_table_2) [5]) (fLst fNil))))) (fRet (fC (.bool false))) fnext) (fIfS (fB (fOp (lift2 neO) (fLc (fLstI (fSlice (fVar 4) (fPart (fVar 3)) fNoPart)) (bName 5) (t_law_is_few_table_3) (e_law_is_few_table_4) [5]) (fLst fNil))) (fRet (fC (.bool false))) fnext))
abbrev o_law_is_few_table_5 : List PyData → DSt → Flow := loopF (bName 3) b_law_is_few_table_5
def p_law_is_few_table : DSt → Flow := fseq (fIfS (fOr (fNot (fB (fIsi "list" (fVar 2)))) (fB (fOp (lift2 neO) (fCall lenO (pCons (fVar 2) fNil)) (fVar 0)))) (fRet (fC (.bool false))) fnext) (fseq (fFor (fRng1 (pCons (fVar 0) fNil)) (bName 3) b_law_is_few_table_5) (fRet (fC (.bool true))))
def F_law_is_few_table : List R → Pw → FRes := runF 6 3 p_law_is_few_table
/-! the table of few, as any data -/
def isNn : PyData → Bool | .none => true | _ => false
def rowQ (n j : Nat) : PyData → Bool
  | .list es => decide (es.length = n) && ((es.take j).all isNn && (es.drop j).all isI)
  | _ => false
def tabQ (m n : Nat) : PyData → Bool
  | .list ds => decide (ds.length = m) && ds.zipIdx.all fun p => rowQ n p.2 p.1
  | _ => false
def rD (j : Nat) (x : List Int) : PyData := .list (List.replicate j .none ++ x.map .int)
def tabG (m : Nat) (g : Nat → List Int) : List PyData := (List.range m).map fun j => rD j (g j)
theorem cutTo {es : List PyData} {j : Nat} : cutD es none (some (j : Int)) = es.take j := by
  have := cutD_map (f := id) (xs := es) (lo := none) (hi := some (j : Int))
  simpa [cut_to] using this
theorem cutFrom {es : List PyData} {j : Nat} : cutD es (some (j : Int)) none = es.drop j := by
  have := cutD_map (f := id) (xs := es) (lo := some (j : Int)) (hi := none)
  simpa [cut_from] using this
theorem is_row_any {n j : Nat} {d : PyData} {w : Pw} (hb : lenOk d) : F_is_row [.val (.int ((j : Nat) : Int)), .val (.int ((n : Nat) : Int)), .val d] w = .ok (.val (.bool (rowQ n j d))) w := by
  unfold F_is_row p_is_row
  simp only [x_runF]
  cases d with
  | list es =>
    have hl : es.length ≤ 4000 := hb
    by_cases q : es.length = n
    · have q' : ((es.length : Int) = (n : Int)) := by omega
      have eq : rowQ n j (.list es) = ((es.take j).all isNn && (es.drop j).all isI) := by simp [rowQ, q]
      rw [eq]
      have c1 := cutTo (es := es) (j := j)
      have c2 := cutFrom (es := es) (j := j)
      have l1 : (es.take j).length ≤ 4000 := by rw [List.length_take]; omega
      have l2 : (es.drop j).length ≤ 4000 := by rw [List.length_drop]; omega
      obtain ⟨A, hA⟩ : ∃ A, es.take j = A := ⟨_, rfl⟩
      obtain ⟨B, hB⟩ : ∃ B, es.drop j = B := ⟨_, rfl⟩
      rw [hA] at c1 l1 ⊢
      rw [hB] at c2 l2 ⊢
      have e1 : l_is_row_1 ⟨[.val (.int ((j : Nat) : Int)), .val (.int ((n : Nat) : Int)), .val (.list es), .no], w⟩ = .ok (.new (A.map fun x => .bool (isNn x))) ⟨[.val (.int ((j : Nat) : Int)), .val (.int ((n : Nat) : Int)), .val (.list es), .no], w⟩ := by
        refine lc_all (fun a : PyData => ⟨[.val (.int ((j : Nat) : Int)), .val (.int ((n : Nat) : Int)), .val (.list es), .val a], w⟩) _ (f := id) (l := A) (by simp -implicitDefEqProofs [c1]) (by omega) rfl (fun a _ => by rfl) (fun a _ => by rfl) (fun a _ => ?_)
        unfold e_is_row_1
        cases a <;> simp -implicitDefEqProofs [isNn]
      have e2 : l_is_row_2 ⟨[.val (.int ((j : Nat) : Int)), .val (.int ((n : Nat) : Int)), .val (.list es), .no], w⟩ = .ok (.new (B.map fun x => .bool (isI x))) ⟨[.val (.int ((j : Nat) : Int)), .val (.int ((n : Nat) : Int)), .val (.list es), .no], w⟩ := by
        refine lc_all (fun a : PyData => ⟨[.val (.int ((j : Nat) : Int)), .val (.int ((n : Nat) : Int)), .val (.list es), .val a], w⟩) _ (f := id) (l := B) (by simp -implicitDefEqProofs [c2]) (by omega) rfl (fun a _ => by rfl) (fun a _ => by rfl) (fun a _ => ?_)
        unfold e_is_row_2
        simp -implicitDefEqProofs [is_number_any]
      cases h1 : A.all isNn <;> cases h2 : B.all isI
      all_goals
        have h1' : (A.map isNn).all id = A.all isNn := by simp
        have h2' : (B.map isI).all id = B.all isI := by simp
        rw [h1] at h1'
        rw [h2] at h2'
        simp -implicitDefEqProofs [q, q', e1, e2, boolsD_map', h1', h2']
    · have q' : ¬ ((es.length : Int) = (n : Int)) := by omega
      have eq : rowQ n j (.list es) = false := by simp [rowQ, q]
      rw [eq]
      simp -implicitDefEqProofs [q, q']
  | _ => simp -implicitDefEqProofs [rowQ]
theorem is_table61 {m n : Nat} {d : PyData} {w : Pw} (hb : bdd 3 d) : F_is_table [.val (.int ((m : Nat) : Int)), .val (.int ((n : Nat) : Int)), .val d] w = .ok (.val (.bool (tabQ m n d))) w := by
  unfold F_is_table p_is_table
  simp only [x_runF]
  cases d with
  | list ds =>
    have hb' := bdd_list.mp hb
    by_cases q : ds.length = m
    · have q' : ((ds.length : Int) = (m : Int)) := by omega
      have eq : tabQ m n (.list ds) = ds.zipIdx.all fun p => rowQ n p.2 p.1 := by simp [tabQ, q]
      rw [eq]
      have ee : enumD ds = ds.zipIdx.map fun p : PyData × Nat => PyData.tuple [.int (p.2 : Int), p.1] := by
        unfold enumD
        rfl
      have lz : ds.zipIdx.length ≤ 4000 := by rw [List.length_zipIdx]; omega
      have mz : ∀ p ∈ ds.zipIdx, p.1 ∈ ds := fun p hp => List.fst_mem_of_mem_zipIdx hp
      obtain ⟨Z, hZ⟩ : ∃ Z, ds.zipIdx = Z := ⟨_, rfl⟩
      rw [hZ] at ee lz mz ⊢
      have el : l_is_table_1 ⟨[.val (.int ((m : Nat) : Int)), .val (.int ((n : Nat) : Int)), .val (.list ds), .no, .no], w⟩ = .ok (.new (Z.map fun p => .bool (rowQ n p.2 p.1))) ⟨[.val (.int ((m : Nat) : Int)), .val (.int ((n : Nat) : Int)), .val (.list ds), .no, .no], w⟩ := by
        refine lc_all (fun p : PyData × Nat => ⟨[.val (.int ((m : Nat) : Int)), .val (.int ((n : Nat) : Int)), .val (.list ds), .val (.int (p.2 : Int)), .val p.1], w⟩) _ (f := fun p : PyData × Nat => PyData.tuple [.int (p.2 : Int), p.1]) (l := Z) (by simp -implicitDefEqProofs [ee]) (by omega) rfl (fun a _ => by rfl) (fun a _ => by rfl) (fun a ha => ?_)
        unfold e_is_table_1
        simp -implicitDefEqProofs [is_row_any (bdd_len (hb'.2 _ (mz a ha)))]
      have h' : (Z.map fun p => rowQ n p.2 p.1).all id = Z.all fun p => rowQ n p.2 p.1 := by simp
      obtain ⟨b, hb⟩ : ∃ b, (Z.all fun p => rowQ n p.2 p.1) = b := ⟨_, rfl⟩
      rw [hb] at h' ⊢
      simp -implicitDefEqProofs [q, q', el, boolsD_map', h']
    · have q' : ¬ ((ds.length : Int) = (m : Int)) := by omega
      have eq : tabQ m n (.list ds) = false := by simp [tabQ, q]
      rw [eq]
      simp -implicitDefEqProofs [q, q']
  | _ => simp -implicitDefEqProofs [tabQ]
theorem fnone {α β : Type} {l : List α} {t : α → Option β} (h : ∀ x ∈ l, t x = none) : l.findSome? t = none := by
  induction l with
  | nil => rfl
  | cons a l ih =>
    rw [List.findSome?_cons, h a List.mem_cons_self]
    exact ih fun x hx => h x (List.mem_cons_of_mem _ hx)
theorem fhit {α β : Type} {l : List α} {t : α → Option β} {b : β} (h : ∃ x ∈ l, t x = some b) (u : ∀ x ∈ l, ∀ c, t x = some c → c = b) : l.findSome? t = some b := by
  induction l with
  | nil => obtain ⟨x, hx, _⟩ := h; simp at hx
  | cons a l ih =>
    rw [List.findSome?_cons]
    cases e : t a with
    | some c => rw [u a List.mem_cons_self c e]
    | none =>
      obtain ⟨x, hx, e2⟩ := h
      rcases List.mem_cons.mp hx with rfl | hx
      · rw [e] at e2; cases e2
      · exact ih ⟨x, hx, e2⟩ fun y hy => u y (List.mem_cons_of_mem _ hy)
def falR (b : Bool) : Option R := if b = true then none else some (.val (.bool false))
theorem ltable61 {m n : Nat} {d : PyData} {w : Pw} (hm : m ≤ 1000) (hb : bdd 3 d) : F_law_is_few_table [.val (.int ((m : Nat) : Int)), .val (.int ((n : Nat) : Int)), .val d] w = .ok (.val (.bool (tabQ m n d))) w := by
  have hB : inB (m : Int) := inB_of (by omega) (by omega)
  unfold F_law_is_few_table p_law_is_few_table
  simp only [x_runF]
  cases d with
  | list ds =>
    have hb' := bdd_list.mp hb
    by_cases q : ds.length = m
    rotate_left
    · have q' : ¬ ((ds.length : Int) = (m : Int)) := by omega
      have e : tabQ m n (.list ds) = false := by simp [tabQ, q]
      rw [e]
      simp -implicitDefEqProofs [q, q']
    · have q' : ((ds.length : Int) = (m : Int)) := by omega
      have lf := loopFind (b := bName 3) (p := b_law_is_few_table_5) (f := fun k : Nat => PyData.int (k : Int)) (l := List.range m) (s := ⟨[.val (.int ((m : Nat) : Int)), .val (.int ((n : Nat) : Int)), .val (.list ds), .no, .no, .no], w⟩)
        (fun k => falR (rowQ n k (ds.getD k .none))) (fun s => ∃ v3 v4, s = ⟨[.val (.int ((m : Nat) : Int)), .val (.int ((n : Nat) : Int)), .val (.list ds), v3, v4, .no], w⟩) (fun r s => r = .val (.bool false) ∧ s.w = w) ⟨_, _, rfl⟩ (by
          rintro i hm s ⟨v3, v4, rfl⟩
          have hi : i < ds.length := by simp at hm; omega
          have ea : atI ds (i : Int) = some (ds.getD i .none) := by rw [atI_nat]; simp [List.getD_eq_getElem?_getD, List.getElem?_eq_getElem hi]
          have bd : bdd 2 (ds.getD i .none) := by
            simp only [List.getD_eq_getElem?_getD, List.getElem?_eq_getElem hi]
            exact hb'.2 _ (List.getElem_mem _)
          obtain ⟨d, hd⟩ : ∃ d, ds.getD i .none = d := ⟨_, rfl⟩
          rw [hd] at ea bd ⊢
          unfold b_law_is_few_table_5 falR
          cases d with
          | list es =>
            have hes := (bdd_list.mp bd).1
            by_cases q1 : es.length = n
            · have q2 : (es.length : Int) = (n : Int) := by omega
              have eq : rowQ n i (.list es) = ((es.take i).all isNn && (es.drop i).all isI) := by simp [rowQ, q1]
              rw [eq]
              have c1 := cutTo (es := es) (j := i)
              have c2 := cutFrom (es := es) (j := i)
              have l1 : (es.take i).length ≤ 4000 := by rw [List.length_take]; omega
              have l2 : (es.drop i).length ≤ 4000 := by rw [List.length_drop]; omega
              obtain ⟨A, hA⟩ : ∃ A, es.take i = A := ⟨_, rfl⟩
              obtain ⟨B, hB⟩ : ∃ B, es.drop i = B := ⟨_, rfl⟩
              rw [hA] at c1 l1 ⊢
              rw [hB] at c2 l2 ⊢
              have e1 : l_law_is_few_table_2 ⟨[.val (.int ((m : Nat) : Int)), .val (.int ((n : Nat) : Int)), .val (.list ds), .val (.int ((i : Nat) : Int)), .val (.list es), .no], w⟩ = .ok (.new ((A.filter fun x => !isNn x).map id)) ⟨[.val (.int ((m : Nat) : Int)), .val (.int ((n : Nat) : Int)), .val (.list ds), .val (.int ((i : Nat) : Int)), .val (.list es), .no], w⟩ := by
                refine lc_gen (fun a : PyData => ⟨[.val (.int ((m : Nat) : Int)), .val (.int ((n : Nat) : Int)), .val (.list ds), .val (.int ((i : Nat) : Int)), .val (.list es), .val a], w⟩) _ _ (f := id) (l := A) (by simp -implicitDefEqProofs [c1]) (by omega) rfl (fun a _ => by rfl) (fun a _ => by rfl) (fun a _ => ?_) (fun a _ _ => ?_)
                · unfold t_law_is_few_table_1
                  cases a <;> simp -implicitDefEqProofs [isNn]
                · unfold e_law_is_few_table_2
                  simp -implicitDefEqProofs
              have e2 : l_law_is_few_table_4 ⟨[.val (.int ((m : Nat) : Int)), .val (.int ((n : Nat) : Int)), .val (.list ds), .val (.int ((i : Nat) : Int)), .val (.list es), .no], w⟩ = .ok (.new ((B.filter fun x => !isI x).map id)) ⟨[.val (.int ((m : Nat) : Int)), .val (.int ((n : Nat) : Int)), .val (.list ds), .val (.int ((i : Nat) : Int)), .val (.list es), .no], w⟩ := by
                refine lc_gen (fun a : PyData => ⟨[.val (.int ((m : Nat) : Int)), .val (.int ((n : Nat) : Int)), .val (.list ds), .val (.int ((i : Nat) : Int)), .val (.list es), .val a], w⟩) _ _ (f := id) (l := B) (by simp -implicitDefEqProofs [c2]) (by omega) rfl (fun a _ => by rfl) (fun a _ => by rfl) (fun a _ => ?_) (fun a _ _ => ?_)
                · unfold t_law_is_few_table_3
                  simp -implicitDefEqProofs [whole_ok]
                · unfold e_law_is_few_table_4
                  simp -implicitDefEqProofs
              rw [List.map_id] at e1 e2
              have fil : ∀ {t : PyData → Bool} {X : List PyData}, (X.all t = true ∧ X.filter (fun x => !t x) = []) ∨ (X.all t = false ∧ ∃ y ys, X.filter (fun x => !t x) = y :: ys) := fun {t X} => by
                cases h : X.all t with
                | true => exact .inl ⟨rfl, List.filter_eq_nil_iff.mpr fun x hx => by simp [List.all_eq_true.mp h x hx]⟩
                | false =>
                  refine .inr ⟨rfl, List.exists_cons_of_ne_nil fun z => ?_⟩
                  rw [Bool.eq_false_iff] at h
                  refine h (List.all_eq_true.mpr fun x hx => ?_)
                  have := List.filter_eq_nil_iff.mp z x hx
                  simpa using this
              rcases fil (t := isNn) (X := A) with ⟨h1, f1⟩ | ⟨h1, y1, ys1, f1⟩
              · rcases fil (t := isI) (X := B) with ⟨h2, f2⟩ | ⟨h2, y2, ys2, f2⟩
                · rw [f1] at e1; rw [f2] at e2
                  simp -implicitDefEqProofs [ea, q1, q2, h1, h2, e1, e2]
                · rw [f1] at e1; rw [f2] at e2
                  simp -implicitDefEqProofs [ea, q1, q2, h1, h2, e1, e2, ne_nil_data]
              · rw [f1] at e1
                simp -implicitDefEqProofs [ea, q1, q2, h1, e1, ne_nil_data]
            · have q2 : ¬ ((es.length : Int) = (n : Int)) := by omega
              have eq : rowQ n i (.list es) = false := by simp [rowQ, q1]
              rw [eq]
              simp -implicitDefEqProofs [ea, q1, q2]
          | _ => simp -implicitDefEqProofs [rowQ, ea])
      have gd : ∀ p ∈ ds.zipIdx, ds.getD p.2 .none = p.1 := fun p hp => by
        have := List.mk_mem_zipIdx_iff_getElem?.mp (show (p.1, p.2) ∈ ds.zipIdx from hp)
        rw [List.getD_eq_getElem?_getD, this]; rfl
      have eq : tabQ m n (.list ds) = ds.zipIdx.all fun p => rowQ n p.2 p.1 := by simp [tabQ, q]
      rw [eq]
      by_cases q3 : (ds.zipIdx.all fun p => rowQ n p.2 p.1) = true
      · have e0 : (List.range m).findSome? (fun k => falR (rowQ n k (ds.getD k .none))) = none := fnone fun k hk => by
          have hk : k < ds.length := by simp at hk; omega
          have := List.all_eq_true.mp q3 (ds.getD k .none, k) (List.mk_mem_zipIdx_iff_getElem?.mpr (by simp [List.getD_eq_getElem?_getD, List.getElem?_eq_getElem hk]))
          unfold falR
          rw [if_pos this]
        obtain ⟨s', e1, v3, v4, rfl⟩ := lf.1 e0
        rw [q3]
        simp -implicitDefEqProofs [q, q', hB, rangeD, e1]
      · have e0 : (List.range m).findSome? (fun k => falR (rowQ n k (ds.getD k .none))) = some (.val (.bool false)) := by
          refine fhit ?_ fun x _ c h => ?_
          · refine Classical.byContradiction fun z => q3 ?_
            refine List.all_eq_true.mpr fun p hp => ?_
            have g := gd p hp
            have hi := (List.getElem?_eq_some_iff.mp (List.mk_mem_zipIdx_iff_getElem?.mp (show (p.1, p.2) ∈ ds.zipIdx from hp))).1
            refine Classical.byContradiction fun y => z ⟨p.2, by simp; omega, ?_⟩
            unfold falR
            rw [g, if_neg y]
          · unfold falR at h
            split at h
            · cases h
            · cases h; rfl
        obtain ⟨s', e1, _, hw⟩ := lf.2 _ e0
        have q3 : (ds.zipIdx.all fun p => rowQ n p.2 p.1) = false := by simpa using q3
        rw [q3]
        simp -implicitDefEqProofs [q, q', hB, rangeD, e1, hw]
  | _ => simp -implicitDefEqProofs [tabQ]
theorem rowQ_some {n j : Nat} {d : PyData} (h : rowQ n j d = true) (hj : j ≤ n) : ∃ x : List Int, d = rD j x ∧ x.length = n - j := by
  cases d with
  | list es =>
    unfold rowQ at h
    rw [Bool.and_eq_true, Bool.and_eq_true] at h
    obtain ⟨h1, h2, h3⟩ := h
    have h1 := of_decide_eq_true h1
    obtain ⟨x, hx⟩ := ints_all fun d hd => List.all_eq_true.mp h3 d hd
    refine ⟨x, ?_, ?_⟩
    · unfold rD
      congr 1
      rw [← hx]
      have : es.take j = List.replicate j .none := by
        rw [List.eq_replicate_iff]
        refine ⟨by rw [List.length_take]; omega, fun d hd => ?_⟩
        have := List.all_eq_true.mp h2 d hd
        cases d <;> simp [isNn] at this ⊢
      rw [← this, List.take_append_drop]
    · have := congrArg List.length hx
      rw [List.length_map, List.length_drop] at this
      omega
  | _ => simp [rowQ] at h
theorem tabQ_some {m n : Nat} {d : PyData} (h : tabQ m n d = true) (hm : m ≤ n) : ∃ g : Nat → List Int, d = .list (tabG m g) ∧ ∀ j < m, (g j).length = n - j := by
  cases d with
  | list ds =>
    unfold tabQ at h
    rw [Bool.and_eq_true] at h
    obtain ⟨h1, h2⟩ := h
    have h1 := of_decide_eq_true h1
    have ex : ∀ j, j < m → ∃ x : List Int, ds[j]? = some (rD j x) ∧ x.length = n - j := fun j hj => by
      have ej : ds[j]? = some ds[j] := List.getElem?_eq_getElem (by omega)
      have := List.all_eq_true.mp h2 (ds[j], j) (List.mk_mem_zipIdx_iff_getElem?.mpr ej)
      obtain ⟨x, hx, hl⟩ := rowQ_some this (by omega)
      exact ⟨x, by rw [ej]; exact congrArg some hx, hl⟩
    obtain ⟨g, hg⟩ : ∃ g : Nat → List Int, ∀ j < m, ds[j]? = some (rD j (g j)) ∧ (g j).length = n - j := by
      classical
      exact ⟨fun j => if h : j < m then (ex j h).choose else [], fun j h => by simp only [dif_pos h]; exact (ex j h).choose_spec⟩
    refine ⟨g, ?_, fun j hj => (hg j hj).2⟩
    congr 1
    refine List.ext_getElem? fun i => ?_
    unfold tabG
    by_cases q : i < m
    · rw [(hg i q).1, List.getElem?_map, List.getElem?_range q]
      rfl
    · rw [List.getElem?_eq_none (by omega), List.getElem?_eq_none (by simp; omega)]
  | _ => simp [tabQ] at h

end DL

noncomputable section
namespace DL
open PySem L2
def b_table_wrong_1 : DSt → Flow := fIfS (fB (fOp (lift2 gtO) (fOp (lift2 ixO) (fVar 6) (fVar 7)) (fCall minO (pCons (fUser F_bounds (fCons (fVar 0) (fCons (fVar 1) (fCons (fVar 2) (fCons (fOp (lift2 ixO) (fOp (lift2 addO) (fSlice (fVar 4) fNoPart (fPart (fVar 5))) (fLst (fCons (fLst fNil) fNil))) (fOp (lift2 subO) (fVar 5) (fC (.int 1)))) (fCons (fVar 5) (fCons (fVar 7) fNil))))))) fNil)))) (fRet (fTup (fCons (fC (.str "number")) (fCons (fVar 5) (fCons (fVar 7) fNil))))) fnext
abbrev o_table_wrong_1 : List PyData → DSt → Flow := loopF (bName 7) b_table_wrong_1
def b_table_wrong_2 : DSt → Flow := fFor (fRng2 (pCons (fVar 5) (pCons (fCall lenO (pCons (fVar 2) fNil)) fNil))) (bName 7) b_table_wrong_1
abbrev o_table_wrong_2 : List PyData → DSt → Flow := loopF (bTup 2 (bCons (bName 5) (bCons (bName 6) bNil))) b_table_wrong_2
def b_table_wrong_3 : DSt → Flow := fIfS (fAnd (fB (fIsN true (fVar 8))) (fB (fOp (lift2 ltO) (fVar 8) (fVar 3)))) (fRet (fTup (fCons (fC (.str "least")) (fCons (fVar 7) fNil)))) fnext
abbrev o_table_wrong_3 : List PyData → DSt → Flow := loopF (bTup 2 (bCons (bName 7) (bCons (bName 8) bNil))) b_table_wrong_3
def p_table_wrong : DSt → Flow := fseq (fFor (fEnum (fCons (fVar 4) fNil)) (bTup 2 (bCons (bName 5) (bCons (bName 6) bNil))) b_table_wrong_2) (fseq (fFor (fEnum (fCons (fOp (lift2 ixO) (fVar 4) (fUn (lift1 negO) (fC (.int 1)))) fNil)) (bTup 2 (bCons (bName 7) (bCons (bName 8) bNil))) b_table_wrong_3) (fRet (fC .none)))
def F_table_wrong : List R → Pw → FRes := runF 9 5 p_table_wrong
def e_law_bounds_1 : M R := fOp (lift2 subO) (fOp (lift2 ixO) (fVar 1) (fVar 7)) (fUser F_law_gain (fCons (fVar 4) (fCons (fVar 5) (fCons (fOp (lift2 ixO) (fVar 6) (fVar 7)) (fCons (fOp (lift2 ixO) (fVar 6) (fVar 3)) fNil)))))
abbrev l_law_bounds_1 : M R := fLc (fRng2 (pCons (fOp (lift2 subO) (fVar 2) (fC (.int 1))) (pCons (fVar 3) fNil))) (bName 7) fYes (e_law_bounds_1) [7]
def p_law_bounds : DSt → Flow := fseq (fAsgB (fVar 0) (bSeq 3 (bCons (bName 4) (bCons (bName 5) (bCons (bName 6) bNil))))) (fseq (fIfS (fB (fOp (lift2 eqO) (fVar 2) (fC (.int 0)))) (fRet (fLst (fCons (fUser F_law_cost (fCons (fVar 4) (fCons (fVar 5) (fCons (fLst (fCons (fOp (lift2 ixO) (fVar 6) (fVar 3)) fNil)) fNil)))) fNil))) fnext) (fRet (fLc (fRng2 (pCons (fOp (lift2 subO) (fVar 2) (fC (.int 1))) (pCons (fVar 3) fNil))) (bName 7) fYes (e_law_bounds_1) [7])))
def F_law_bounds : List R → Pw → FRes := runF 8 4 p_law_bounds
def t_law_few_wrong_1 : M Bool := fB (fOp (lift2 inO) (fVar 12) (fVar 7))
def e_law_few_wrong_2 : M R := fVar 12
abbrev l_law_few_wrong_2 : M R := fLc (fLstI (fVar 5)) (bName 12) (t_law_few_wrong_1) (e_law_few_wrong_2) [12]
def b_law_few_wrong_3 : DSt → Flow := fIfS (fB (fOp (lift2 gtO) (fOp (lift2 ixO) (fOp (lift2 ixO) (fVar 8) (fVar 9)) (fVar 10)) (fCall minO (pCons (fUser F_law_bounds (fCons (fVar 0) (fCons (fOp (lift2 ixO) (fOp (lift2 addO) (fLst (fCons (fLst fNil) fNil)) (fVar 8)) (fVar 9)) (fCons (fVar 9) (fCons (fVar 10) fNil))))) fNil)))) (fRet (fTup (fCons (fC (.str "number")) (fCons (fVar 9) (fCons (fVar 10) fNil))))) fnext
abbrev o_law_few_wrong_3 : List PyData → DSt → Flow := loopF (bName 10) b_law_few_wrong_3
def b_law_few_wrong_4 : DSt → Flow := fFor (fRng2 (pCons (fVar 9) (pCons (fCall lenO (pCons (fVar 5) fNil)) fNil))) (bName 10) b_law_few_wrong_3
abbrev o_law_few_wrong_4 : List PyData → DSt → Flow := loopF (bName 9) b_law_few_wrong_4
def t_law_few_wrong_5 : M Bool := fB (fOp (lift2 ltO) (fOp (lift2 ixO) (fOp (lift2 ixO) (fVar 8) (fOp (lift2 subO) (fVar 1) (fC (.int 1)))) (fVar 10)) (fVar 6))
def e_law_few_wrong_6 : M R := fVar 10
abbrev l_law_few_wrong_6 : M R := fLc (fRng2 (pCons (fOp (lift2 subO) (fVar 1) (fC (.int 1))) (pCons (fCall lenO (pCons (fVar 5) fNil)) fNil))) (bName 10) (t_law_few_wrong_5) (e_law_few_wrong_6) [10]
def e_law_few_wrong_7 : M R := fTup (fCons (fC (.str "least")) (fCons (fVar 10) fNil))
abbrev l_law_few_wrong_7 : M R := fLc (fLstI (fVar 11)) (bName 10) fYes (e_law_few_wrong_7) [10]
def p_law_few_wrong : DSt → Flow := fseq (fAsgB (fVar 0) (bSeq 3 (bCons (bName 3) (bCons (bName 4) (bCons (bName 5) bNil))))) (fseq (fIfS (fOr (fNot (fB (fIsi "tuple" (fVar 2)))) (fOr (fB (fOp (lift2 neO) (fCall lenO (pCons (fVar 2) fNil)) (fC (.int 3)))) (fNot (fB (fUser F_law_whole (fCons (fOp (lift2 ixO) (fVar 2) (fC (.int 0))) fNil)))))) (fRet (fTup (fCons (fC (.str "few")) fNil))) fnext) (fseq (fAsgB (fVar 2) (bSeq 3 (bCons (bName 6) (bCons (bName 7) (bCons (bName 8) bNil))))) (fseq (fIfS (fOr (fNot (fB (fUser F_law_are_names (fCons (fVar 5) (fCons (fVar 7) fNil))))) (fB (fOp (lift2 neO) (fCall lenO (pCons (fVar 7) fNil)) (fVar 1)))) (fRet (fTup (fCons (fC (.str "names")) fNil))) fnext) (fseq (fIfS (fB (fOp (lift2 neO) (fLc (fLstI (fVar 5)) (bName 12) (t_law_few_wrong_1) (e_law_few_wrong_2) [12]) (fVar 7))) (fRet (fTup (fCons (fC (.str "names")) fNil))) fnext) (fseq (fIfS (fB (fOp (lift2 neO) (fUser F_law_cost (fCons (fVar 3) (fCons (fVar 4) (fCons (fVar 7) fNil)))) (fVar 6))) (fRet (fTup (fCons (fC (.str "price")) fNil))) fnext) (fseq (fIfS (fNot (fB (fUser F_law_is_few_table (fCons (fVar 1) (fCons (fCall lenO (pCons (fVar 5) fNil)) (fCons (fVar 8) fNil)))))) (fRet (fTup (fCons (fC (.str "table")) fNil))) fnext) (fseq (fFor (fRng1 (pCons (fVar 1) fNil)) (bName 9) b_law_few_wrong_4) (fseq (fSet 11 (fLc (fRng2 (pCons (fOp (lift2 subO) (fVar 1) (fC (.int 1))) (pCons (fCall lenO (pCons (fVar 5) fNil)) fNil))) (bName 10) (t_law_few_wrong_5) (e_law_few_wrong_6) [10])) (fRet (fOp (lift2 ixO) (fOp (lift2 addO) (fLc (fLstI (fVar 11)) (bName 10) fYes (e_law_few_wrong_7) [10]) (fLst (fCons (fC .none) fNil))) (fC (.int 0))))))))))))
def F_law_few_wrong : List R → Pw → FRes := runF 13 3 p_law_few_wrong
/-! the table of few: numbers, bounds, what is wrong -/
def nb (g : Nat → List Int) (j i : Nat) : Int := (g j).getD (i - j) 0
def rE (j : Nat) (x : List Int) : List PyData := List.replicate j .none ++ x.map .int
def bndT (f : List (List Int)) (ws L : List Int) (g : Nat → List Int) : Nat → Nat → List Int
  | 0, i => [payI f ws [nth L i]]
  | j + 1, i => (List.range' j (i - j)).map fun k => nb g j k - gainI f ws (nth L k) (nth L i)
theorem bndT_ne {f : List (List Int)} {ws L : List Int} {g : Nat → List Int} {j i : Nat} (h : j ≤ i) : bndT f ws L g j i ≠ [] := by
  cases j with
  | zero => simp [bndT]
  | succ j =>
    intro z
    have := congrArg List.length z
    simp [bndT] at this
    omega
theorem rE_at {g : Nat → List Int} {n j i : Nat} (hl : (g j).length = n - j) (h : j ≤ i) (h2 : i < n) : (rE j (g j))[i]? = some (.int (nb g j i)) := by
  unfold rE nb
  rw [List.getElem?_append_right (by simpa using h)]
  simp only [List.length_replicate, List.getElem?_map]
  rw [List.getD_eq_getElem?_getD, List.getElem?_eq_getElem (by omega : i - j < (g j).length)]
  rfl
theorem tabG_at {g : Nat → List Int} {m j : Nat} (h : j < m) : (tabG m g)[j]? = some (.list (rE j (g j))) := by
  unfold tabG
  rw [List.getElem?_map, List.getElem?_range h]
  rfl
theorem enum_range {n : Nat} {c : Nat → PyData} : enumD ((List.range n).map c) = (List.range n).map fun i : Nat => PyData.tuple [.int (i : Int), c i] := by
  unfold enumD
  refine List.ext_getElem? fun i => ?_
  simp only [List.getElem?_map, List.getElem?_zipIdx]
  by_cases q : i < n
  · rw [List.getElem?_range q]
    simp
  · rw [List.getElem?_eq_none (by simp; omega)]
    rfl
theorem prev61 {g : Nat → List Int} {m n j : Nat} (hj : j < m) (hm : m ≤ n) (hg : ∀ j < m, (g j).length = n - j) :
    ∃ D, atI ((tabG m g).take j ++ [.list []]) ((j : Int) - 1) = some D ∧ atI (.list [] :: tabG m g) (j : Int) = some D ∧ ∀ i < n, ∀ q, j = q + 1 → ∃ ds, D = .list ds ∧ ∀ k, q ≤ k → k < i → ds[k]? = some (.int (nb g q k)) := by
  cases j with
  | zero => exact ⟨.list [], by rw [show (((0 : Nat) : Int) - 1) = -1 by omega]; exact atI_last _ _, by rw [atI_nat]; rfl, fun i _ q hq => by omega⟩
  | succ q =>
    refine ⟨.list (rE q (g q)), ?_, ?_, fun i hi q' hq => ?_⟩
    · rw [show (((q + 1 : Nat) : Int) - 1) = (q : Int) by omega, atI_nat, List.getElem?_append_left (by rw [List.length_take]; simp [tabG]; omega), List.getElem?_take_of_lt (by omega)]
      exact tabG_at (by omega)
    · rw [atI_nat, List.getElem?_cons_succ]
      exact tabG_at (by omega)
    · obtain rfl : q' = q := by omega
      exact ⟨_, rfl, fun k k1 k2 => rE_at (hg q' (by omega)) k1 (by omega)⟩
def numT6 (j i : Nat) : PyData := .tuple [.str (Str.ofString "number"), .int (j : Int), .int (i : Int)]
def leastT (i : Nat) : PyData := .tuple [.str (Str.ofString "least"), .int (i : Int)]
def tw1 (f : List (List Int)) (ws L : List Int) (g : Nat → List Int) (j u : Nat) : Option PyData := if minI (bndT f ws L g j (j + u)) < nb g j (j + u) then some (numT6 j (j + u)) else none
def twF (f : List (List Int)) (ws L : List Int) (m : Nat) (g : Nat → List Int) : Option PyData := (List.range m).findSome? fun j => (List.range (L.length - j)).findSome? (tw1 f ws L g j)
def late (n m : Nat) (g : Nat → List Int) (p : Int) : List Nat := (List.range' (m - 1) (n - (m - 1))).filter fun i => decide (nb g (m - 1) i < p)
theorem findR6 {α β γ : Type} {l : List α} {t : α → Option β} {h : β → γ} : l.findSome? (fun x => (t x).map h) = (l.findSome? t).map h := by
  induction l with
  | nil => rfl
  | cons a l ih =>
    rw [List.findSome?_cons, List.findSome?_cons]
    cases t a with
    | none => exact ih
    | some b => rfl
theorem late_find {n m : Nat} {g : Nat → List Int} {p : Int} (hm : m ≤ n) : (List.range n).findSome? (fun i => if m - 1 ≤ i ∧ nb g (m - 1) i < p then some (leastT i) else none) = ((late n m g p).head?).map leastT := by
  have split : List.range n = List.range' 0 (m - 1) ++ List.range' (m - 1) (n - (m - 1)) := by
    rw [List.range_eq_range']
    have := List.range'_append (s := 0) (m := m - 1) (n := n - (m - 1)) (step := 1)
    rw [show 0 + 1 * (m - 1) = m - 1 by omega, show m - 1 + (n - (m - 1)) = n by omega] at this
    exact this.symm
  have gen : ∀ l : List Nat, (∀ i ∈ l, m - 1 ≤ i) → l.findSome? (fun i => if m - 1 ≤ i ∧ nb g (m - 1) i < p then some (leastT i) else none) = ((l.filter fun i => decide (nb g (m - 1) i < p)).head?).map leastT := by
    intro l hl
    induction l with
    | nil => rfl
    | cons a l ih =>
      have ha := hl a List.mem_cons_self
      rw [List.findSome?_cons]
      by_cases q : nb g (m - 1) a < p
      · rw [if_pos ⟨ha, q⟩, List.filter_cons_of_pos (by simpa using q)]
        rfl
      · rw [if_neg (fun z => q z.2), List.filter_cons_of_neg (by simpa using q)]
        exact ih fun i hi => hl i (List.mem_cons_of_mem _ hi)
  rw [split, List.findSome?_append, fnone (l := List.range' 0 (m - 1)) (fun i hi => by
    rw [List.mem_range'_1] at hi
    exact if_neg fun z => by omega)]
  exact gen _ fun i hi => by rw [List.mem_range'_1] at hi; exact hi.1
theorem bounds61 {L : List Int} {f : List (List Int)} {ws : List Int} (h : Fal L f ws) {j i : Nat} (hj : j ≤ i) (hi : i < L.length) {g : Nat → List Int} {D : PyData} (hD : ∀ m, j = m + 1 → ∃ ds, D = .list ds ∧ ∀ k, m ≤ k → k < i → ds[k]? = some (.int (nb g m k))) {w : Pw} : F_bounds [.val (.list ((f).map llD)), .val (.list ((ws).map .int)), .val (.list ((L).map .int)), .val D, .val (.int ((j : Nat) : Int)), .val (.int ((i : Nat) : Int))] w = .ok (.new ((bndT f ws L g j i).map .int)) w := by
  have l10 := h.l10
  obtain ⟨ei, mi⟩ := nth_in hi
  cases j with
  | zero =>
    have e := paid_ok (w := w) (f := f) (ws := ws) (N := [nth L i]) (by simp) (by simp) (fun r hr => ⟨(h.mm mi r hr).1, by simpa using (h.mm mi r hr).2⟩) h.wb
    have s1 : leS 1 := size_le (by omega)
    have e : F_paid [.val (.list ((f).map llD)), .val (.list ((ws).map .int)), .val (.list [.int (nth L i)])] w = _ := e
    unfold F_bounds p_bounds
    simp only [x_runF]
    simp -implicitDefEqProofs [ei, e, s1, bndT]
  | succ m =>
    obtain ⟨ds, rfl, hd⟩ := hD m rfl
    have el : l_bounds_1 ⟨[.val (.list ((f).map llD)), .val (.list ((ws).map .int)), .val (.list ((L).map .int)), .val (.list ds), .val (.int ((m : Int) + 1)), .val (.int ((i : Nat) : Int)), .no], w⟩ = .ok (.new ((bndT f ws L g (m + 1) i).map .int)) ⟨[.val (.list ((f).map llD)), .val (.list ((ws).map .int)), .val (.list ((L).map .int)), .val (.list ds), .val (.int ((m : Int) + 1)), .val (.int ((i : Nat) : Int)), .no], w⟩ := by
      have hb1 : inB (m : Int) := inB_of (by omega) (by omega)
      have hb2 : inB (i : Int) := inB_of (by omega) (by omega)
      have eb : (bndT f ws L g (m + 1) i).map PyData.int = (List.range' m (i - m)).map fun k => PyData.int (nb g m k - gainI f ws (nth L k) (nth L i)) := by simp [bndT]
      rw [eb]
      refine lc_all (fun k : Nat => ⟨[.val (.list ((f).map llD)), .val (.list ((ws).map .int)), .val (.list ((L).map .int)), .val (.list ds), .val (.int ((m : Int) + 1)), .val (.int ((i : Nat) : Int)), .val (.int ((k : Nat) : Int))], w⟩) _ (f := fun k : Nat => PyData.int (k : Int)) (l := List.range' m (i - m)) (by simp -implicitDefEqProofs [hb1, hb2, rngN]) (by simp; omega) rfl (fun a _ => by rfl) (fun a _ => by rfl) (fun k hk => ?_)
      rw [List.mem_range'_1] at hk
      obtain ⟨ek, mk⟩ := nth_in (l := L) (k := k) (by omega)
      have eg := gain_ok (w := w) (f := f) (ws := ws) (a := nth L k) (b := nth L i) (fun r hr => ⟨(h.mm mi r hr).1, (h.mm mk r hr).2, (h.mm mi r hr).2⟩) h.wb
      have ed := hd k (by omega) (by omega)
      unfold e_bounds_1
      obtain ⟨z, hz⟩ : ∃ z, nb g m k = z := ⟨_, rfl⟩
      rw [hz] at ed ⊢
      simp -implicitDefEqProofs [ek, ei, eg, atI_nat, ed]
    have ne : ¬ ((m : Int) + 1 = 0) := by omega
    unfold F_bounds p_bounds
    simp only [x_runF]
    simp -implicitDefEqProofs [ne, el]
theorem lbounds61 {L : List Int} {f : List (List Int)} {ws : List Int} (h : Fal L f ws) {j i : Nat} (hj : j ≤ i) (hi : i < L.length) {g : Nat → List Int} {D : PyData} (hD : ∀ m, j = m + 1 → ∃ ds, D = .list ds ∧ ∀ k, m ≤ k → k < i → ds[k]? = some (.int (nb g m k))) {w : Pw} : F_law_bounds [.val (.list [.list (f.map llD), .list (ws.map .int), .list (L.map .int)]), .val D, .val (.int ((j : Nat) : Int)), .val (.int ((i : Nat) : Int))] w = .ok (.new ((bndT f ws L g j i).map .int)) w := by
  have l10 := h.l10
  obtain ⟨ei, mi⟩ := nth_in hi
  cases j with
  | zero =>
    have e := lcost_ok (w := w) (f := f) (ws := ws) (N := [nth L i]) (by simp) (by simp) (fun r hr => ⟨(h.mm mi r hr).1, by simpa using (h.mm mi r hr).2⟩) h.wb
    have s1 : leS 1 := size_le (by omega)
    have e : F_law_cost [.val (.list ((f).map llD)), .val (.list ((ws).map .int)), .val (.list [.int (nth L i)])] w = _ := e
    unfold F_law_bounds p_law_bounds
    simp only [x_runF]
    simp -implicitDefEqProofs [ei, e, s1, bndT]
  | succ m =>
    obtain ⟨ds, rfl, hd⟩ := hD m rfl
    have el : l_law_bounds_1 ⟨[.val (.list [.list (f.map llD), .list (ws.map .int), .list (L.map .int)]), .val (.list ds), .val (.int ((m : Int) + 1)), .val (.int ((i : Nat) : Int)), .val (.list ((f).map llD)), .val (.list ((ws).map .int)), .val (.list ((L).map .int)), .no], w⟩ = .ok (.new ((bndT f ws L g (m + 1) i).map .int)) ⟨[.val (.list [.list (f.map llD), .list (ws.map .int), .list (L.map .int)]), .val (.list ds), .val (.int ((m : Int) + 1)), .val (.int ((i : Nat) : Int)), .val (.list ((f).map llD)), .val (.list ((ws).map .int)), .val (.list ((L).map .int)), .no], w⟩ := by
      have hb1 : inB (m : Int) := inB_of (by omega) (by omega)
      have hb2 : inB (i : Int) := inB_of (by omega) (by omega)
      have eb : (bndT f ws L g (m + 1) i).map PyData.int = (List.range' m (i - m)).map fun k => PyData.int (nb g m k - gainI f ws (nth L k) (nth L i)) := by simp [bndT]
      rw [eb]
      refine lc_all (fun k : Nat => ⟨[.val (.list [.list (f.map llD), .list (ws.map .int), .list (L.map .int)]), .val (.list ds), .val (.int ((m : Int) + 1)), .val (.int ((i : Nat) : Int)), .val (.list ((f).map llD)), .val (.list ((ws).map .int)), .val (.list ((L).map .int)), .val (.int ((k : Nat) : Int))], w⟩) _ (f := fun k : Nat => PyData.int (k : Int)) (l := List.range' m (i - m)) (by simp -implicitDefEqProofs [hb1, hb2, rngN]) (by simp; omega) rfl (fun a _ => by rfl) (fun a _ => by rfl) (fun k hk => ?_)
      rw [List.mem_range'_1] at hk
      obtain ⟨ek, mk⟩ := nth_in (l := L) (k := k) (by omega)
      have eg := lgain_ok (w := w) (f := f) (ws := ws) (a := nth L k) (b := nth L i) (fun r hr => ⟨(h.mm mi r hr).1, (h.mm mk r hr).2, (h.mm mi r hr).2⟩) h.wb
      have ed := hd k (by omega) (by omega)
      unfold e_law_bounds_1
      obtain ⟨z, hz⟩ : ∃ z, nb g m k = z := ⟨_, rfl⟩
      rw [hz] at ed ⊢
      simp -implicitDefEqProofs [ek, ei, eg, atI_nat, ed]
    have ne : ¬ ((m : Int) + 1 = 0) := by omega
    unfold F_law_bounds p_law_bounds
    simp only [x_runF]
    simp -implicitDefEqProofs [ne, el]

theorem table_wrong61 {L : List Int} {f : List (List Int)} {ws : List Int} (h : Fal L f ws) {m : Nat} (m0 : 0 < m) (hm : m ≤ L.length) {g : Nat → List Int} (hg : ∀ j < m, (g j).length = L.length - j) {p : Int} {w : Pw} :
    F_table_wrong [.val (.list ((f).map llD)), .val (.list ((ws).map .int)), .val (.list ((L).map .int)), .val (.int (p)), .val (.list (tabG m g))] w = .ok (.val (((twF f ws L m g).or (((late L.length m g p).head?).map leastT)).getD .none)) w := by
  have l10 := h.l10
  obtain ⟨n, hn⟩ : ∃ n, L.length = n := ⟨_, rfl⟩
  have hBn : inB (n : Int) := inB_of (by omega) (by omega)
  have s2 : leS 2 := size_le (by omega)
  have s3 : leS 3 := size_le (by omega)
  have lt : (tabG m g).length = m := by simp [tabG]
  have ta : ∀ j, j < m → (tabG m g)[j]? = some (.list (rE j (g j))) := fun j hj => tabG_at hj
  have en : enumD (tabG m g) = (List.range m).map fun j : Nat => PyData.tuple [.int (j : Int), .list (rE j (g j))] := enum_range
  have pv : ∀ j, j < m → _ := fun j hj => prev61 hj hm hg
  obtain ⟨T, hT⟩ : ∃ T, tabG m g = T := ⟨_, rfl⟩
  rw [hT] at lt en
  simp only [hT] at pv ta
  rw [hT]
  have lf := loopFind (b := bTup 2 (bCons (bName 5) (bCons (bName 6) bNil))) (p := b_table_wrong_2) (f := fun j : Nat => PyData.tuple [.int (j : Int), .list (rE j (g j))]) (l := List.range m) (s := ⟨[.val (.list ((f).map llD)), .val (.list ((ws).map .int)), .val (.list ((L).map .int)), .val (.int (p)), .val (.list T), .no, .no, .no, .no], w⟩)
    (fun j => ((List.range (n - j)).findSome? (tw1 f ws L g j)).map R.val) (fun s => ∃ v5 v6 v7, s = ⟨[.val (.list ((f).map llD)), .val (.list ((ws).map .int)), .val (.list ((L).map .int)), .val (.int (p)), .val (.list T), v5, v6, v7, .no], w⟩) (fun _ s => s.w = w) ⟨_, _, _, rfl⟩ (by
      rintro j hj s ⟨v5, v6, v7, rfl⟩
      have hj : j < m := by simpa using hj
      obtain ⟨D, d1, -, d3⟩ := pv j hj
      have lk : leS ((T.take j).length + 1) := size_le (by rw [List.length_take]; omega)
      have ct := cutTo (es := T) (j := j)
      obtain ⟨TK, hTK⟩ : ∃ TK, T.take j = TK := ⟨_, rfl⟩
      rw [hTK] at d1 lk ct
      have ra : ∀ i, j ≤ i → i < n → (rE j (g j))[i]? = some (.int (nb g j i)) := fun i h1 h2 => rE_at (by rw [← hn]; exact hg j hj) h1 h2
      obtain ⟨E, hE⟩ : ∃ E, rE j (g j) = E := ⟨_, rfl⟩
      rw [hE] at ra
      have inner := loopFind (b := bName 7) (p := b_table_wrong_1) (f := fun u : Nat => PyData.int ((j : Int) + (u : Int))) (l := List.range (n - j)) (s := ⟨[.val (.list ((f).map llD)), .val (.list ((ws).map .int)), .val (.list ((L).map .int)), .val (.int (p)), .val (.list T), .val (.int ((j : Nat) : Int)), .val (.list E), v7, .no], w⟩)
        (fun u => (tw1 f ws L g j u).map R.val) (fun s => ∃ v7, s = ⟨[.val (.list ((f).map llD)), .val (.list ((ws).map .int)), .val (.list ((L).map .int)), .val (.int (p)), .val (.list T), .val (.int ((j : Nat) : Int)), .val (.list E), v7, .no], w⟩) (fun _ s => s.w = w) ⟨_, rfl⟩ (by
          rintro u hu s ⟨v7, rfl⟩
          have hu : j + u < n := by simp at hu; omega
          have ee := bounds61 h (w := w) (j := j) (i := j + u) (by omega) (by omega) (D := D) (d3 (j + u) (by omega))
          have mm := min_ints (bndT_ne (f := f) (ws := ws) (L := L) (g := g) (j := j) (i := j + u) (by omega))
          have e1 : atI E (((j + u : Nat) : Int)) = some (.int (nb g j (j + u))) := by rw [atI_nat]; exact ra _ (by omega) hu
          obtain ⟨a, ha⟩ : ∃ a, nb g j (j + u) = a := ⟨_, rfl⟩
          obtain ⟨es, hes⟩ : ∃ es, (bndT f ws L g j (j + u)).map PyData.int = es := ⟨_, rfl⟩
          obtain ⟨c, hc⟩ : ∃ c, minI (bndT f ws L g j (j + u)) = c := ⟨_, rfl⟩
          have x0 : ((j + u : Nat) : Int) = (j : Int) + (u : Int) := by omega
          have x1 : numT6 j (j + u) = .tuple [.str (Str.ofString "number"), .int (j : Int), .int ((j : Int) + (u : Int))] := by unfold numT6; rw [x0]
          rw [x0] at ee e1
          rw [ha] at e1
          rw [hes] at ee mm
          rw [hc] at mm
          unfold tw1
          rw [ha, hc, x1]
          unfold b_table_wrong_1
          by_cases q : c < a
          · simp -implicitDefEqProofs [e1, ct, lk, d1, ee, mm, q, s3]
          · simp -implicitDefEqProofs [e1, ct, lk, d1, ee, mm, q])
      have hB1 : inB (j : Int) := inB_of (by omega) (by omega)
      have et : ((n : Int) - (j : Int)).toNat = n - j := by omega
      rw [findR6] at inner
      cases e : (List.range (n - j)).findSome? (tw1 f ws L g j) with
      | none =>
        obtain ⟨s', e1, v7', rfl⟩ := inner.1 (by rw [e]; rfl)
        unfold b_table_wrong_2
        simp -implicitDefEqProofs [hn, hE, hBn, hB1, et, rangeD, e1]
      | some z =>
        obtain ⟨s', e1, hw⟩ := inner.2 (.val z) (by rw [e]; rfl)
        unfold b_table_wrong_2
        simp -implicitDefEqProofs [hn, hE, hBn, hB1, et, rangeD, e1, hw])
  rw [findR6] at lf
  have eF : twF f ws L m g = (List.range m).findSome? fun j => (List.range (n - j)).findSome? (tw1 f ws L g j) := by unfold twF; rw [hn]
  rw [← eF] at lf
  rw [hn]
  unfold F_table_wrong p_table_wrong
  simp only [x_runF]
  cases e : twF f ws L m g with
  | some z =>
    obtain ⟨s', e1, hw⟩ := lf.2 (.val z) (by rw [e]; rfl)
    simp -implicitDefEqProofs [en, e1, hw]
  | none =>
    obtain ⟨s', e1, v5, v6, v7, rfl⟩ := lf.1 (by rw [e]; rfl)
    obtain ⟨q, rfl⟩ : ∃ q, m = q + 1 := ⟨m - 1, by omega⟩
    have tl : atI T (-1) = some (.list (rE q (g q))) := by
      have : T = T.dropLast ++ [.list (rE q (g q))] := by
        rw [← hT]
        unfold tabG
        rw [List.range_succ, List.map_append]
        simp [rD, rE]
      rw [this]
      exact atI_last _ _
    have en2 : enumD (rE q (g q)) = (List.range n).map fun i : Nat => PyData.tuple [.int (i : Int), if q ≤ i then .int (nb g q i) else .none] := by
      have : rE q (g q) = (List.range n).map fun i => if q ≤ i then .int (nb g q i) else .none := by
        refine List.ext_getElem? fun i => ?_
        by_cases a1 : i < n
        · rw [List.getElem?_map, List.getElem?_range a1]
          by_cases a2 : q ≤ i
          · rw [rE_at (by rw [← hn]; exact hg q (by omega)) a2 a1]
            simp [a2]
          · unfold rE
            rw [List.getElem?_append_left (by simp; omega), List.getElem?_replicate]
            simp [a2, show i < q by omega]
        · have := hg q (by omega)
          rw [List.getElem?_eq_none (by unfold rE; simp; omega), List.getElem?_eq_none (by simp; omega)]
      rw [this]
      exact enum_range
    have lf2 := loopFind (b := bTup 2 (bCons (bName 7) (bCons (bName 8) bNil))) (p := b_table_wrong_3) (f := fun i : Nat => PyData.tuple [.int (i : Int), if q ≤ i then .int (nb g q i) else .none]) (l := List.range n) (s := ⟨[.val (.list ((f).map llD)), .val (.list ((ws).map .int)), .val (.list ((L).map .int)), .val (.int (p)), .val (.list T), v5, v6, v7, .no], w⟩)
      (fun i => (if q + 1 - 1 ≤ i ∧ nb g (q + 1 - 1) i < p then some (leastT i) else none).map R.val) (fun s => ∃ v7 v8, s = ⟨[.val (.list ((f).map llD)), .val (.list ((ws).map .int)), .val (.list ((L).map .int)), .val (.int (p)), .val (.list T), v5, v6, v7, v8], w⟩) (fun _ s => s.w = w) ⟨_, _, rfl⟩ (by
        rintro i hi s ⟨v7, v8, rfl⟩
        rw [show q + 1 - 1 = q by omega]
        unfold b_table_wrong_3
        by_cases a2 : q ≤ i
        · obtain ⟨c, hc⟩ : ∃ c, nb g q i = c := ⟨_, rfl⟩
          rw [hc]
          by_cases a3 : c < p
          · simp -implicitDefEqProofs [a2, a3, s2, leastT]
          · simp -implicitDefEqProofs [a2, a3]
        · simp -implicitDefEqProofs [a2])
    rw [findR6, late_find (by omega)] at lf2
    obtain ⟨EE, hEE⟩ : ∃ EE, enumD (rE q (g q)) = EE := ⟨_, rfl⟩
    rw [hEE] at en2
    cases e2 : (late n (q + 1) g p).head? with
    | some i =>
      rw [e2] at lf2
      obtain ⟨s', e3, hw⟩ := lf2.2 (.val (leastT i)) rfl
      rw [← en2] at e3
      simp -implicitDefEqProofs [en, e1, tl, hEE, e3, hw]
    | none =>
      rw [e2] at lf2
      obtain ⟨s', e3, v7', v8', rfl⟩ := lf2.1 rfl
      rw [← en2] at e3
      simp -implicitDefEqProofs [en, e1, tl, hEE, e3]

end DL

noncomputable section
namespace DL
open PySem L2
def e_are_along_1 : M R := fOp (lift2 inO) (fVar 4) (fVar 0)
abbrev l_are_along_1 : M R := fLc (fLstI (fVar 2)) (bName 4) fYes (e_are_along_1) [4]
def e_are_along_2 : M R := fIndex (fVar 0) (fVar 4)
abbrev l_are_along_2 : M R := fLc (fLstI (fVar 2)) (bName 4) fYes (e_are_along_2) [4]
def p_are_along : DSt → Flow := fseq (fIfS (fOr (fNot (fB (fUser F_are_unlike_names (fCons (fVar 2) fNil)))) (fOr (fB (fOp (lift2 neO) (fCall lenO (pCons (fVar 2) fNil)) (fVar 1))) (fNot (fB (fCall allO (pCons (fLc (fLstI (fVar 2)) (bName 4) fYes (e_are_along_1) [4]) fNil)))))) (fRet (fC (.bool false))) fnext) (fseq (fSet 3 (fLc (fLstI (fVar 2)) (bName 4) fYes (e_are_along_2) [4])) (fRet (fOp (lift2 eqO) (fVar 3) (fCall sortedO (pCons (fVar 3) fNil)))))
def F_are_along : List R → Pw → FRes := runF 5 3 p_are_along
def p_few_judged : DSt → Flow := fseq (fDrop (fUser F_must_be_asked (fCons (fVar 0) (fCons (fVar 1) (fCons (fVar 2) (fCons (fVar 3) fNil)))))) (fseq (fIfS (fOr (fNot (fB (fIsi "tuple" (fVar 4)))) (fOr (fB (fOp (lift2 neO) (fCall lenO (pCons (fVar 4) fNil)) (fC (.int 3)))) (fNot (fB (fUser F_is_number (fCons (fOp (lift2 ixO) (fVar 4) (fC (.int 0))) fNil)))))) (fRet (fTup (fCons (fC (.str "few")) fNil))) fnext) (fseq (fAsgB (fVar 4) (bSeq 3 (bCons (bName 5) (bCons (bName 6) (bCons (bName 7) bNil))))) (fseq (fIfS (fNot (fB (fUser F_are_along (fCons (fVar 2) (fCons (fVar 3) (fCons (fVar 6) fNil)))))) (fRet (fTup (fCons (fC (.str "names")) fNil))) fnext) (fseq (fIfS (fB (fOp (lift2 neO) (fUser F_paid (fCons (fVar 0) (fCons (fVar 1) (fCons (fVar 6) fNil)))) (fVar 5))) (fRet (fTup (fCons (fC (.str "price")) fNil))) fnext) (fseq (fIfS (fNot (fB (fUser F_is_table (fCons (fVar 3) (fCons (fCall lenO (pCons (fVar 2) fNil)) (fCons (fVar 7) fNil)))))) (fRet (fTup (fCons (fC (.str "table")) fNil))) fnext) (fRet (fUser F_table_wrong (fCons (fVar 0) (fCons (fVar 1) (fCons (fVar 2) (fCons (fVar 5) (fCons (fVar 7) fNil))))))))))))
def F_few_judged : List R → Pw → FRes := runF 8 5 p_few_judged
def plsN (L N : List Int) : List Int := N.map fun x => ((L.idxOf x : Nat) : Int)
theorem up_idx6 {L : List Int} (h : L.Nodup) : L.Pairwise fun a b => L.idxOf a < L.idxOf b := List.pairwise_iff_getElem.mpr fun i j hi hj hij => by
  have e1 := nodup_idx h hi
  have e2 := nodup_idx h hj
  simp only [List.getD_eq_getElem?_getD, List.getElem?_eq_getElem hi, Option.getD_some] at e1
  simp only [List.getD_eq_getElem?_getD, List.getElem?_eq_getElem hj, Option.getD_some] at e2
  rw [e1, e2]
  exact hij
theorem nth_idx6 {L : List Int} {x : Int} (h : x ∈ L) : nth L (L.idxOf x) = x := by
  unfold nth
  have hl := List.idxOf_lt_length_iff.mpr h
  rw [List.getD_eq_getElem?_getD, List.getElem?_eq_getElem hl]
  exact List.getElem_idxOf hl
theorem along_iff {L N : List Int} (hL : L.Nodup) (hN : N.Nodup) (hs : ∀ x ∈ N, x ∈ L) : L.filter (fun x => decide (x ∈ N)) = N ↔ plsN L N = sortI (plsN L N) := by
  have up := (up_idx6 hL).sublist (List.filter_sublist (p := fun x => decide (x ∈ N)))
  have perm : (L.filter fun x => decide (x ∈ N)).Perm N := (List.perm_ext_iff_of_nodup (hL.filter _) hN).mpr fun x => by
    rw [List.mem_filter]
    simp only [decide_eq_true_eq]
    exact ⟨fun z => z.2, fun z => ⟨hs x z, z⟩⟩
  have sub : ∀ x ∈ L.filter (fun x => decide (x ∈ N)), x ∈ L := fun x hx => (List.mem_filter.mp hx).1
  obtain ⟨M, hM⟩ : ∃ M, L.filter (fun x => decide (x ∈ N)) = M := ⟨_, rfl⟩
  rw [hM] at up perm sub ⊢
  have s1 : (plsN L M).Pairwise (· ≤ ·) := List.pairwise_map.mpr (up.imp fun h => by omega)
  constructor
  · rintro rfl
    exact sortI_eq (.refl _) s1
  · intro e
    have e2 : plsN L M = plsN L N := perm_sorted_eq (perm.map _) s1 (by rw [e]; exact sortI_le _)
    have back : ∀ X : List Int, (∀ x ∈ X, x ∈ L) → (plsN L X).map (fun i : Int => nth L i.toNat) = X := fun X hX => by
      unfold plsN
      rw [List.map_map]
      have : X.map ((fun i : Int => nth L i.toNat) ∘ fun x => ((L.idxOf x : Nat) : Int)) = X.map id := List.map_congr_left fun x hx => by
        show nth L ((L.idxOf x : Nat) : Int).toNat = x
        rw [show ((L.idxOf x : Nat) : Int).toNat = L.idxOf x by omega]
        exact nth_idx6 (hX x hx)
      rw [this, List.map_id]
    rw [← back M sub, e2, back N hs]
structure AlongN (L : List Int) (m : Nat) (N : List Int) : Prop where
  nd : N.Nodup
  sub : ∀ x ∈ N, x ∈ L
  len : N.length = m
  fil : L.filter (fun x => decide (x ∈ N)) = N
def AlongP (L : List Int) (m : Nat) (d : PyData) : Prop := ∃ N : List Int, d = .list (N.map .int) ∧ AlongN L m N
theorem unlikeB_mk {G : List Int} : unlikeB (.list (G.map .int)) = decide (G.Nodup ∧ ∀ x ∈ G, 0 ≤ x) := by
  simp only [unlikeB, intsD_map]
theorem unlikeB_out {d : PyData} (h : unlikeB d = true) : ∃ G : List Int, d = .list (G.map .int) ∧ G.Nodup ∧ ∀ x ∈ G, 0 ≤ x := by
  cases d with
  | list ds =>
    cases e : intsD ds with
    | none => simp only [unlikeB, e] at h; cases h
    | some ns =>
      simp only [unlikeB, e] at h
      obtain ⟨h1, h2⟩ := of_decide_eq_true h
      exact ⟨ns, by rw [intsD_some e], h1, h2⟩
  | _ => cases h
theorem lanB_mk {L G : List Int} : lanB L (.list (G.map .int)) = decide (G.Nodup ∧ ∀ x ∈ G, x ∈ L) := by
  simp only [lanB, intsD_map]
theorem lanB_out {L : List Int} {d : PyData} (h : lanB L d = true) : ∃ G : List Int, d = .list (G.map .int) ∧ G.Nodup ∧ ∀ x ∈ G, x ∈ L := by
  cases d with
  | list ds =>
    cases e : intsD ds with
    | none => simp only [lanB, e] at h; cases h
    | some ns =>
      simp only [lanB, e] at h
      obtain ⟨h1, h2⟩ := of_decide_eq_true h
      exact ⟨ns, by rw [intsD_some e], h1, h2⟩
  | _ => cases h
open Classical in
theorem are_along61 {L : List Int} (hL : Rank L) {m : Nat} {d : PyData} {w : Pw} (hb : lenOk d) : F_are_along [.val (.list ((L).map .int)), .val (.int ((m : Nat) : Int)), .val d] w = .ok (.val (.bool (decide (AlongP L m d)))) w := by
  have un := unlike_any (w := w) hb
  unfold F_are_along p_are_along
  simp only [x_runF]
  by_cases q : unlikeB d = true
  rotate_left
  · have nq : ¬ AlongP L m d := by
      rintro ⟨N, rfl, a⟩
      refine q ?_
      rw [unlikeB_mk]
      exact decide_eq_true ⟨a.nd, fun x hx => hL.2.1 x (a.sub x hx)⟩
    have q : unlikeB d = false := by simpa using q
    rw [q] at un
    have nq : decide (AlongP L m d) = false := decide_eq_false nq
    rw [nq]
    simp -implicitDefEqProofs [un]
  · rw [q] at un
    obtain ⟨N, rfl, n1, n2⟩ := unlikeB_out q
    have lN : N.length ≤ 4000 := by
      have hb : (N.map PyData.int).length ≤ 4000 := hb
      rwa [List.length_map] at hb
    by_cases q2 : N.length = m
    rotate_left
    · have nq : ¬ AlongP L m (.list (N.map .int)) := by
        rintro ⟨N', e, a⟩
        have := congrArg (fun d => match d with | PyData.list ds => ds.length | _ => 0) e
        simp at this
        exact q2 (this.trans a.len)
      have nq : decide (AlongP L m (.list (N.map .int))) = false := decide_eq_false nq
      have q3 : ¬ ((N.length : Int) = (m : Int)) := by omega
      rw [nq]
      simp -implicitDefEqProofs [un, q2, q3]
    · have q3 : ((N.length : Int) = (m : Int)) := by omega
      have el : l_are_along_1 ⟨[.val (.list ((L).map .int)), .val (.int ((m : Nat) : Int)), .val (.list ((N).map .int)), .no, .no], w⟩ = .ok (.new (N.map fun x => .bool (decide (x ∈ L)))) ⟨[.val (.list ((L).map .int)), .val (.int ((m : Nat) : Int)), .val (.list ((N).map .int)), .no, .no], w⟩ := by
        refine lc_all (fun x : Int => ⟨[.val (.list ((L).map .int)), .val (.int ((m : Nat) : Int)), .val (.list ((N).map .int)), .no, .val (.int (x))], w⟩) _ (f := .int) (l := N) (by simp -implicitDefEqProofs) (by omega) rfl (fun a _ => by rfl) (fun a _ => by rfl) (fun x _ => ?_)
        unfold e_are_along_1
        simp -implicitDefEqProofs
      have inj : ∀ {A B : List Int}, PyData.list (A.map .int) = .list (B.map .int) → A = B := fun {A B} e => by
        injection e with e
        have := congrArg intsD e
        rw [intsD_map, intsD_map] at this
        exact Option.some.inj this
      by_cases q4 : ∀ x ∈ N, x ∈ L
      · have h' : (N.map fun x => decide (x ∈ L)).all id = true := by simpa using q4
        have e2 : l_are_along_2 ⟨[.val (.list ((L).map .int)), .val (.int ((m : Nat) : Int)), .val (.list ((N).map .int)), .no, .no], w⟩ = .ok (.new ((plsN L N).map .int)) ⟨[.val (.list ((L).map .int)), .val (.int ((m : Nat) : Int)), .val (.list ((N).map .int)), .no, .no], w⟩ := by
          have : (plsN L N).map PyData.int = N.map fun x => PyData.int ((L.idxOf x : Nat) : Int) := by unfold plsN; rw [List.map_map]; rfl
          rw [this]
          refine lc_all (fun x : Int => ⟨[.val (.list ((L).map .int)), .val (.int ((m : Nat) : Int)), .val (.list ((N).map .int)), .no, .val (.int (x))], w⟩) _ (f := .int) (l := N) (by simp -implicitDefEqProofs) (by omega) rfl (fun a _ => by rfl) (fun a _ => by rfl) (fun x hx => ?_)
          unfold e_are_along_2
          simp -implicitDefEqProofs [idxO_mem (q4 x hx)]
        have ed : decide (AlongP L m (.list (N.map .int))) = decide (plsN L N = sortI (plsN L N)) := decide_eq_decide.mpr (by
          rw [← along_iff hL.1 n1 q4]
          constructor
          · rintro ⟨N', e, a⟩
            obtain rfl := inj e
            exact a.fil
          · intro e
            exact ⟨N, rfl, n1, q4, q2, e⟩)
        rw [ed]
        obtain ⟨P, hP⟩ : ∃ P, plsN L N = P := ⟨_, rfl⟩
        rw [hP] at e2 ⊢
        simp -implicitDefEqProofs [un, q2, q3, el, boolsD_map', h', e2]
      · have h' : (N.map fun x => decide (x ∈ L)).all id = false := by
          rw [Bool.eq_false_iff]
          intro z
          simp at z
          exact q4 z
        have nq : decide (AlongP L m (.list (N.map .int))) = false := decide_eq_false (by
          rintro ⟨N', e, a⟩
          obtain rfl := inj e
          exact q4 a.sub)
        rw [nq]
        simp -implicitDefEqProofs [un, q2, q3, el, boolsD_map', h']
theorem lloop61 {L : List Int} {f : List (List Int)} {ws : List Int} (h : Fal L f ws) {m : Nat} (hm : m ≤ L.length) {g : Nat → List Int} (hg : ∀ j < m, (g j).length = L.length - j) {p : Int} {d : PyData} {N : List Int} {w : Pw} :
    (twF f ws L m g = none → ∃ s', loopF (bName 9) b_law_few_wrong_4 ((List.range m).map fun k : Nat => .int (k : Int)) ⟨[.val (.list [.list (f.map llD), .list (ws.map .int), .list (L.map .int)]), .val (.int ((m : Nat) : Int)), .val d, .val (.list ((f).map llD)), .val (.list ((ws).map .int)), .val (.list ((L).map .int)), .val (.int (p)), .val (.list ((N).map .int)), .val (.list (tabG m g)), .no, .no, .no, .no], w⟩ = .next s' ∧ ∃ v9 v10, (v10 = .no ∨ ∃ x : Int, v10 = .val (.int (x))) ∧ s' = ⟨[.val (.list [.list (f.map llD), .list (ws.map .int), .list (L.map .int)]), .val (.int ((m : Nat) : Int)), .val d, .val (.list ((f).map llD)), .val (.list ((ws).map .int)), .val (.list ((L).map .int)), .val (.int (p)), .val (.list ((N).map .int)), .val (.list (tabG m g)), v9, v10, .no, .no], w⟩) ∧
    (∀ e, twF f ws L m g = some e → ∃ s', loopF (bName 9) b_law_few_wrong_4 ((List.range m).map fun k : Nat => .int (k : Int)) ⟨[.val (.list [.list (f.map llD), .list (ws.map .int), .list (L.map .int)]), .val (.int ((m : Nat) : Int)), .val d, .val (.list ((f).map llD)), .val (.list ((ws).map .int)), .val (.list ((L).map .int)), .val (.int (p)), .val (.list ((N).map .int)), .val (.list (tabG m g)), .no, .no, .no, .no], w⟩ = .ret (.val e) s' ∧ s'.w = w) := by
  have l10 := h.l10
  obtain ⟨n, hn⟩ : ∃ n, L.length = n := ⟨_, rfl⟩
  have hBn : inB (n : Int) := inB_of (by omega) (by omega)
  have s1 : leS 1 := size_le (by omega)
  have s3 : leS 3 := size_le (by omega)
  have lt : (tabG m g).length = m := by simp [tabG]
  have ta : ∀ j, j < m → (tabG m g)[j]? = some (.list (rE j (g j))) := fun j hj => tabG_at hj
  have pv : ∀ j, j < m → _ := fun j hj => prev61 hj hm hg
  obtain ⟨T, hT⟩ : ∃ T, tabG m g = T := ⟨_, rfl⟩
  rw [hT] at lt
  simp only [hT] at pv ta
  rw [hT]
  have lk : leS (1 + T.length) := size_le (by omega)
  have lk' : leS (T.length + 1) := size_le (by omega)
  have lf := loopFind (b := bName 9) (p := b_law_few_wrong_4) (f := fun j : Nat => PyData.int (j : Int)) (l := List.range m) (s := ⟨[.val (.list [.list (f.map llD), .list (ws.map .int), .list (L.map .int)]), .val (.int ((m : Nat) : Int)), .val d, .val (.list ((f).map llD)), .val (.list ((ws).map .int)), .val (.list ((L).map .int)), .val (.int (p)), .val (.list ((N).map .int)), .val (.list T), .no, .no, .no, .no], w⟩)
    (fun j => ((List.range (n - j)).findSome? (tw1 f ws L g j)).map R.val) (fun s => ∃ v9 v10, (v10 = .no ∨ ∃ x : Int, v10 = .val (.int (x))) ∧ s = ⟨[.val (.list [.list (f.map llD), .list (ws.map .int), .list (L.map .int)]), .val (.int ((m : Nat) : Int)), .val d, .val (.list ((f).map llD)), .val (.list ((ws).map .int)), .val (.list ((L).map .int)), .val (.int (p)), .val (.list ((N).map .int)), .val (.list T), v9, v10, .no, .no], w⟩) (fun _ s => s.w = w) ⟨_, _, .inl rfl, rfl⟩ (by
      rintro j hj s ⟨v9, v10, h10, rfl⟩
      have hj : j < m := by simpa using hj
      obtain ⟨D, -, d1, d3⟩ := pv j hj
      have t1 := ta j hj
      have ra : ∀ i, j ≤ i → i < n → (rE j (g j))[i]? = some (.int (nb g j i)) := fun i h1 h2 => rE_at (by rw [← hn]; exact hg j hj) h1 h2
      obtain ⟨E, hE⟩ : ∃ E, rE j (g j) = E := ⟨_, rfl⟩
      rw [hE] at ra t1
      have t2 : atI T (j : Int) = some (.list E) := by rw [atI_nat]; exact t1
      have inner := loopFind (b := bName 10) (p := b_law_few_wrong_3) (f := fun u : Nat => PyData.int ((j : Int) + (u : Int))) (l := List.range (n - j)) (s := ⟨[.val (.list [.list (f.map llD), .list (ws.map .int), .list (L.map .int)]), .val (.int ((m : Nat) : Int)), .val d, .val (.list ((f).map llD)), .val (.list ((ws).map .int)), .val (.list ((L).map .int)), .val (.int (p)), .val (.list ((N).map .int)), .val (.list T), .val (.int ((j : Nat) : Int)), v10, .no, .no], w⟩)
        (fun u => (tw1 f ws L g j u).map R.val) (fun s => ∃ v10, (v10 = .no ∨ ∃ x : Int, v10 = .val (.int (x))) ∧ s = ⟨[.val (.list [.list (f.map llD), .list (ws.map .int), .list (L.map .int)]), .val (.int ((m : Nat) : Int)), .val d, .val (.list ((f).map llD)), .val (.list ((ws).map .int)), .val (.list ((L).map .int)), .val (.int (p)), .val (.list ((N).map .int)), .val (.list T), .val (.int ((j : Nat) : Int)), v10, .no, .no], w⟩) (fun _ s => s.w = w) ⟨_, h10, rfl⟩ (by
          rintro u hu s ⟨v10, -, rfl⟩
          have hu : j + u < n := by simp at hu; omega
          have ee := lbounds61 h (w := w) (j := j) (i := j + u) (by omega) (by omega) (D := D) (d3 (j + u) (by omega))
          have mm := min_ints (bndT_ne (f := f) (ws := ws) (L := L) (g := g) (j := j) (i := j + u) (by omega))
          have e1 : atI E (((j + u : Nat) : Int)) = some (.int (nb g j (j + u))) := by rw [atI_nat]; exact ra _ (by omega) hu
          obtain ⟨a, ha⟩ : ∃ a, nb g j (j + u) = a := ⟨_, rfl⟩
          obtain ⟨es, hes⟩ : ∃ es, (bndT f ws L g j (j + u)).map PyData.int = es := ⟨_, rfl⟩
          obtain ⟨c, hc⟩ : ∃ c, minI (bndT f ws L g j (j + u)) = c := ⟨_, rfl⟩
          have x0 : ((j + u : Nat) : Int) = (j : Int) + (u : Int) := by omega
          have x1 : numT6 j (j + u) = .tuple [.str (Str.ofString "number"), .int (j : Int), .int ((j : Int) + (u : Int))] := by unfold numT6; rw [x0]
          rw [x0] at ee e1
          rw [ha] at e1
          rw [hes] at ee mm
          rw [hc] at mm
          unfold tw1
          rw [ha, hc, x1]
          unfold b_law_few_wrong_3
          by_cases q : c < a
          · simp -implicitDefEqProofs [e1, t1, t2, lk, lk', s1, d1, ee, mm, q, s3]
          · simp -implicitDefEqProofs [e1, t1, t2, lk, lk', s1, d1, ee, mm, q])
      have hB1 : inB (j : Int) := inB_of (by omega) (by omega)
      have et : ((n : Int) - (j : Int)).toNat = n - j := by omega
      rw [findR6] at inner
      cases e : (List.range (n - j)).findSome? (tw1 f ws L g j) with
      | none =>
        obtain ⟨s', e1, v10', h10', rfl⟩ := inner.1 (by rw [e]; rfl)
        unfold b_law_few_wrong_4
        simp -implicitDefEqProofs [hn, hBn, hB1, et, rangeD, e1]
        rcases h10' with h | h
        · exact ⟨_, .inl ⟨rfl, h⟩⟩
        · exact ⟨_, .inr ⟨h, rfl⟩⟩
      | some z =>
        obtain ⟨s', e1, hw⟩ := inner.2 (.val z) (by rw [e]; rfl)
        unfold b_law_few_wrong_4
        simp -implicitDefEqProofs [hn, hBn, hB1, et, rangeD, e1, hw])
  rw [findR6] at lf
  have eF : twF f ws L m g = (List.range m).findSome? fun j => (List.range (n - j)).findSome? (tw1 f ws L g j) := by unfold twF; rw [hn]
  rw [← eF] at lf
  exact ⟨fun e => lf.1 (by rw [e]; rfl), fun z e => lf.2 (.val z) (by rw [e]; rfl)⟩

def PlainV6 (d : PyData) : Prop := d = .none ∨ ∃ xs : List PyData, d = .tuple xs ∧ xs.length ≤ 3 ∧ ∀ x ∈ xs, (∃ s, x = .str s) ∨ ∃ i, x = .int i
theorem plain6 {s : Str} : PlainV6 (.tuple [.str s]) := .inr ⟨_, rfl, by simp, by simp⟩
theorem twF_plain {f : List (List Int)} {ws L : List Int} {m : Nat} {g : Nat → List Int} {z : PyData} (h : twF f ws L m g = some z) : ∃ lo hi : Nat, z = numT6 lo hi := by
  unfold twF at h
  obtain ⟨lo, _, h1⟩ := List.exists_of_findSome?_eq_some h
  obtain ⟨u, _, h2⟩ := List.exists_of_findSome?_eq_some h1
  unfold tw1 at h2
  split at h2
  · cases h2; exact ⟨_, _, rfl⟩
  · cases h2
open Classical in
theorem few_both {L : List Int} {f : List (List Int)} {ws : List Int} (h : Fal L f ws) {m : Nat} (m0 : 0 < m) (hm : m ≤ L.length) {d : PyData} (hb : bdd 4 d) :
    ∃ v, PlainV6 v ∧ (∀ w, F_few_judged [.val (.list ((f).map llD)), .val (.list ((ws).map .int)), .val (.list ((L).map .int)), .val (.int ((m : Nat) : Int)), .val d] w = .ok (.val v) w) ∧ ∀ w, F_law_few_wrong [.val (.list [.list (f.map llD), .list (ws.map .int), .list (L.map .int)]), .val (.int ((m : Nat) : Int)), .val d] w = .ok (.val v) w := by
  have l10 := h.l10
  have hL := h.rL
  have s1 : leS 1 := size_le (by omega)
  have s2 : leS 2 := size_le (by omega)
  have s3 : leS 3 := size_le (by omega)
  have hB : inB (m : Int) := inB_of (by omega) (by omega)
  have ask : ∀ w, _ := fun w => must_asked_ok (w := w) h m0 hm
  unfold F_few_judged p_few_judged F_law_few_wrong p_law_few_wrong at *
  simp only [x_runF] at *
  have few : ∀ v, v = .tuple [.str (Str.ofString "few")] → ((∀ w, F_few_judged [.val (.list ((f).map llD)), .val (.list ((ws).map .int)), .val (.list ((L).map .int)), .val (.int ((m : Nat) : Int)), .val d] w = .ok (.val v) w) ∧ ∀ w, F_law_few_wrong [.val (.list [.list (f.map llD), .list (ws.map .int), .list (L.map .int)]), .val (.int ((m : Nat) : Int)), .val d] w = .ok (.val v) w) → ∃ v, PlainV6 v ∧ (∀ w, F_few_judged [.val (.list ((f).map llD)), .val (.list ((ws).map .int)), .val (.list ((L).map .int)), .val (.int ((m : Nat) : Int)), .val d] w = .ok (.val v) w) ∧ ∀ w, F_law_few_wrong [.val (.list [.list (f.map llD), .list (ws.map .int), .list (L.map .int)]), .val (.int ((m : Nat) : Int)), .val d] w = .ok (.val v) w := fun v e h => ⟨v, by rw [e]; exact plain6, h⟩
  unfold F_few_judged p_few_judged F_law_few_wrong p_law_few_wrong at few
  simp only [x_runF] at few
  cases d with
  | tuple ds =>
    by_cases hl : ds.length = 3
    rotate_left
    · have hl' : ¬ ((ds.length : Int) = 3) := by omega
      refine few _ rfl ⟨fun w => ?_, fun w => ?_⟩
      · simp -implicitDefEqProofs [ask, hl, hl', s1]
      · simp -implicitDefEqProofs [hl, hl', s1]
    · obtain ⟨x, o, t, rfl⟩ : ∃ x o t, ds = [x, o, t] := by
        match ds, hl with
        | [x, o, t], _ => exact ⟨x, o, t, rfl⟩
      clear few hl
      have hb' := (bdd_tuple.mp hb).2
      have bo := hb' o (by simp)
      have bt := hb' t (by simp)
      cases x with
      | int p =>
        have al : ∀ w, _ := fun w => are_along61 hL (m := m) (w := w) (bdd_len bo)
        have lan : ∀ w, _ := fun w => are_names_any (a := L) (w := w) (bdd_len bo)
        have ta : ∀ w, _ := fun w => is_table61 (w := w) (m := m) (n := L.length) bt
        have la : ∀ w, _ := fun w => ltable61 (w := w) (m := m) (n := L.length) (by omega) bt
        have filt : ∀ (N : List Int) (w : Pw), l_law_few_wrong_2 ⟨[.val (.list [.list (f.map llD), .list (ws.map .int), .list (L.map .int)]), .val (.int ((m : Nat) : Int)), .val (.tuple [.int p, .list (N.map .int), t]), .val (.list ((f).map llD)), .val (.list ((ws).map .int)), .val (.list ((L).map .int)), .val (.int (p)), .val (.list ((N).map .int)), .val t, .no, .no, .no, .no], w⟩ = .ok (.new ((L.filter fun x => decide (x ∈ N)).map .int)) ⟨[.val (.list [.list (f.map llD), .list (ws.map .int), .list (L.map .int)]), .val (.int ((m : Nat) : Int)), .val (.tuple [.int p, .list (N.map .int), t]), .val (.list ((f).map llD)), .val (.list ((ws).map .int)), .val (.list ((L).map .int)), .val (.int (p)), .val (.list ((N).map .int)), .val t, .no, .no, .no, .no], w⟩ := fun N w => by
          refine lc_gen (fun x : Int => ⟨[.val (.list [.list (f.map llD), .list (ws.map .int), .list (L.map .int)]), .val (.int ((m : Nat) : Int)), .val (.tuple [.int p, .list (N.map .int), t]), .val (.list ((f).map llD)), .val (.list ((ws).map .int)), .val (.list ((L).map .int)), .val (.int (p)), .val (.list ((N).map .int)), .val t, .no, .no, .no, .val (.int (x))], w⟩) _ _ (f := .int) (l := L) (by simp -implicitDefEqProofs) (by omega) rfl (fun a _ => by rfl) (fun a _ => by rfl) (fun x hx => ?_) (fun x hx _ => ?_)
          · unfold t_law_few_wrong_1
            simp -implicitDefEqProofs
          · unfold e_law_few_wrong_2
            simp -implicitDefEqProofs
        by_cases ho : AlongP L m o
        · rw [decide_eq_true ho] at al
          obtain ⟨N, rfl, a⟩ := ho
          have N0 : N ≠ [] := by
            rintro rfl
            have := a.len
            simp at this
            omega
          have lN := a.len
          have lN' : (N.length : Int) = (m : Int) := by omega
          have e2 : lanB L (.list (N.map .int)) = true := by rw [lanB_mk]; exact decide_eq_true ⟨a.nd, a.sub⟩
          rw [e2] at lan
          have fl := filt N
          rw [a.fil] at fl
          have pd : ∀ w, _ := fun w => paid_ok (w := w) (f := f) (ws := ws) (N := N) N0 (by omega) (fun r hr => ⟨(h.mm (a.sub _ (List.head_mem N0)) r hr).1, fun x hx => (h.mm (a.sub x hx) r hr).2⟩) h.wb
          have lc : ∀ w, _ := fun w => lcost_ok (w := w) (f := f) (ws := ws) (N := N) N0 (by omega) (fun r hr => ⟨(h.mm (a.sub _ (List.head_mem N0)) r hr).1, fun x hx => (h.mm (a.sub x hx) r hr).2⟩) h.wb
          obtain ⟨P, hP⟩ : ∃ P, payI f ws N = P := ⟨_, rfl⟩
          rw [hP] at pd lc
          by_cases hq : P = p
          rotate_left
          · refine ⟨.tuple [.str (Str.ofString "price")], plain6, fun w => ?_, fun w => ?_⟩
            · simp -implicitDefEqProofs [ask, is_number_any, isI, al, pd, hq, s1]
            · simp -implicitDefEqProofs [whole_ok, isI, lan, lN, fl, lc, hq, s1]
          subst hq
          by_cases ht : tabQ m L.length t = true
          rotate_left
          · have ht : tabQ m L.length t = false := by simpa using ht
            rw [ht] at ta la
            refine ⟨.tuple [.str (Str.ofString "table")], plain6, fun w => ?_, fun w => ?_⟩
            · simp -implicitDefEqProofs [ask, is_number_any, isI, al, pd, ta, s1]
            · simp -implicitDefEqProofs [whole_ok, isI, lan, lN, fl, lc, la, s1]
          rw [ht] at ta la
          obtain ⟨g, rfl, hg⟩ := tabQ_some ht hm
          have tw : ∀ w, _ := fun w => table_wrong61 (w := w) (p := P) h m0 hm hg
          have lp : ∀ w, _ := fun w => lloop61 (w := w) (N := N) (d := .tuple [.int P, .list (N.map .int), .list (tabG m g)]) (p := P) h hm hg
          obtain ⟨q, hmq⟩ : ∃ q, m = q + 1 := ⟨m - 1, by omega⟩
          have tq : atI (tabG m g) (q : Int) = some (.list (rE q (g q))) := by rw [atI_nat]; exact tabG_at (by omega)
          have tq' : (tabG m g)[q]? = some (.list (rE q (g q))) := tabG_at (by omega)
          cases e : twF f ws L m g with
          | some y =>
            rw [e] at tw
            obtain ⟨lo, hi, rfl⟩ := twF_plain e
            refine ⟨numT6 lo hi, .inr ⟨_, rfl, by simp, by simp⟩, fun w => ?_, fun w => ?_⟩
            · have tw := tw w
              obtain ⟨T, hT⟩ : ∃ T, tabG m g = T := ⟨_, rfl⟩
              rw [hT] at tw ta ⊢
              simp -implicitDefEqProofs [ask, is_number_any, isI, al, pd, ta, tw, s1, numT6]
            · obtain ⟨s', e1, hw⟩ := (lp w).2 _ e
              obtain ⟨T, hT⟩ : ∃ T, tabG m g = T := ⟨_, rfl⟩
              rw [hT] at e1 la fl ⊢
              simp -implicitDefEqProofs [whole_ok, isI, lan, lN, fl, lc, la, hB, rangeD, e1, hw]
          | none =>
            rw [e] at tw
            obtain ⟨K, hK⟩ : ∃ K, late L.length m g P = K := ⟨_, rfl⟩
            rw [hK] at tw
            have lK : K.length ≤ 100 := by
              rw [← hK]
              unfold late
              refine Nat.le_trans (List.length_filter_le _ _) ?_
              simp
              omega
            refine ⟨((K.head?).map leastT).getD .none, ?_, fun w => ?_, fun w => ?_⟩
            · cases K with
              | nil => exact .inl rfl
              | cons i K => exact .inr ⟨_, rfl, by simp, by simp⟩
            · have tw := tw w
              obtain ⟨T, hT⟩ : ∃ T, tabG m g = T := ⟨_, rfl⟩
              rw [hT] at tw ta ⊢
              rw [show (none : Option PyData).or ((K.head?).map leastT) = (K.head?).map leastT from by cases K.head? <;> rfl] at tw
              obtain ⟨V, hV⟩ : ∃ V, ((K.head?).map leastT).getD PyData.none = V := ⟨_, rfl⟩
              rw [hV] at tw ⊢
              simp -implicitDefEqProofs [ask, is_number_any, isI, al, pd, ta, tw, s1]
            · obtain ⟨s', e1, v9, v10, h10, rfl⟩ := (lp w).1 e
              obtain ⟨T, hT⟩ : ∃ T, tabG m g = T := ⟨_, rfl⟩
              rw [hT] at e1 la fl tq tq' ⊢
              have hBn : inB (L.length : Int) := inB_of (by omega) (by omega)
              have hBq : inB (q : Int) := inB_of (by omega) (by omega)
              have ra : ∀ i, q ≤ i → i < L.length → (rE q (g q))[i]? = some (.int (nb g q i)) := fun i h1 h2 => rE_at (hg q (by omega)) h1 h2
              have hq1 : (m : Int) - 1 = (q : Int) := by omega
              have et : ((L.length : Int) - (q : Int)).toNat = L.length - q := by omega
              have fin : ∀ v10, (v10 = .no ∨ ∃ x : Int, v10 = .val (.int (x))) → l_law_few_wrong_6 ⟨[.val (.list [.list (f.map llD), .list (ws.map .int), .list (L.map .int)]), .val (.int ((m : Nat) : Int)), .val (.tuple [.int P, .list (N.map .int), .list T]), .val (.list ((f).map llD)), .val (.list ((ws).map .int)), .val (.list ((L).map .int)), .val (.int (P)), .val (.list ((N).map .int)), .val (.list T), v9, v10, .no, .no], w⟩ = .ok (.new (K.map fun k : Nat => PyData.int (k : Int))) ⟨[.val (.list [.list (f.map llD), .list (ws.map .int), .list (L.map .int)]), .val (.int ((m : Nat) : Int)), .val (.tuple [.int P, .list (N.map .int), .list T]), .val (.list ((f).map llD)), .val (.list ((ws).map .int)), .val (.list ((L).map .int)), .val (.int (P)), .val (.list ((N).map .int)), .val (.list T), v9, v10, .no, .no], w⟩ := fun v10 h10 => by
                rw [← hK]
                unfold late
                rw [show m - 1 = q by omega]
                rcases h10 with rfl | ⟨x, rfl⟩
                all_goals
                  refine lc_gen (fun i : Nat => ⟨[.val (.list [.list (f.map llD), .list (ws.map .int), .list (L.map .int)]), .val (.int ((m : Nat) : Int)), .val (.tuple [.int P, .list (N.map .int), .list T]), .val (.list ((f).map llD)), .val (.list ((ws).map .int)), .val (.list ((L).map .int)), .val (.int (P)), .val (.list ((N).map .int)), .val (.list T), v9, .val (.int ((i : Nat) : Int)), .no, .no], w⟩) _ _ (f := fun k : Nat => PyData.int (k : Int)) (l := List.range' q (L.length - q)) (by have := rngN (a := q) (n := L.length - q); simp -implicitDefEqProofs [hB, hBn, hBq, hq1, et, this]) (by simp; omega) rfl (fun a _ => by rfl) (fun a _ => by rfl) (fun i hi => ?_) (fun i hi _ => ?_)
                  · rw [List.mem_range'_1] at hi
                    have rr : atI (rE q (g q)) (i : Int) = some (.int (nb g q i)) := by rw [atI_nat]; exact ra i (by omega) (by omega)
                    obtain ⟨E, hE⟩ : ∃ E, rE q (g q) = E := ⟨_, rfl⟩
                    rw [hE] at rr tq tq'
                    unfold t_law_few_wrong_5
                    simp -implicitDefEqProofs [hq1, tq, tq', rr]
                  · unfold e_law_few_wrong_6
                    simp -implicitDefEqProofs
              have f6 := fin v10 h10
              have fin7 : ∀ v10, (v10 = .no ∨ ∃ x : Int, v10 = .val (.int (x))) → l_law_few_wrong_7 ⟨[.val (.list [.list (f.map llD), .list (ws.map .int), .list (L.map .int)]), .val (.int ((m : Nat) : Int)), .val (.tuple [.int P, .list (N.map .int), .list T]), .val (.list ((f).map llD)), .val (.list ((ws).map .int)), .val (.list ((L).map .int)), .val (.int (P)), .val (.list ((N).map .int)), .val (.list T), v9, v10, .own (K.map fun k : Nat => PyData.int (k : Int)), .no], w⟩ = .ok (.new (K.map leastT)) ⟨[.val (.list [.list (f.map llD), .list (ws.map .int), .list (L.map .int)]), .val (.int ((m : Nat) : Int)), .val (.tuple [.int P, .list (N.map .int), .list T]), .val (.list ((f).map llD)), .val (.list ((ws).map .int)), .val (.list ((L).map .int)), .val (.int (P)), .val (.list ((N).map .int)), .val (.list T), v9, v10, .val (.list (K.map fun k : Nat => PyData.int (k : Int))), .no], w⟩ := fun v10 h10 => by
                rcases h10 with rfl | ⟨x, rfl⟩
                all_goals
                  refine lc_all (fun i : Nat => ⟨[.val (.list [.list (f.map llD), .list (ws.map .int), .list (L.map .int)]), .val (.int ((m : Nat) : Int)), .val (.tuple [.int P, .list (N.map .int), .list T]), .val (.list ((f).map llD)), .val (.list ((ws).map .int)), .val (.list ((L).map .int)), .val (.int (P)), .val (.list ((N).map .int)), .val (.list T), v9, .val (.int ((i : Nat) : Int)), .val (.list (K.map fun k : Nat => PyData.int (k : Int))), .no], w⟩) leastT (f := fun k : Nat => PyData.int (k : Int)) (l := K) (by simp -implicitDefEqProofs) (by omega) rfl (fun a _ => by rfl) (fun a _ => by rfl) (fun i hi => ?_)
                  unfold e_law_few_wrong_7
                  simp -implicitDefEqProofs [leastT, s2]
              have f7 := fin7 v10 h10
              have lk : leS (K.length + 1) := size_le (by omega)
              cases K with
              | nil =>
                simp only [List.map_nil] at f6 f7
                simp -implicitDefEqProofs [whole_ok, isI, lan, lN, fl, lc, la, hB, rangeD, e1, f6, f7, s1]
              | cons i K =>
                simp only [List.map_cons] at f6 f7
                have lk2 : leS (K.length + 1 + 1) := lk
                simp -implicitDefEqProofs [whole_ok, isI, lan, lN, fl, lc, la, hB, rangeD, e1, f6, f7, s1, lk2, leastT]
        · have al' : ∀ w, F_are_along [.val (.list ((L).map .int)), .val (.int ((m : Nat) : Int)), .val o] w = .ok (.val (.bool false)) w := fun w => by rw [al w, decide_eq_false ho]
          refine ⟨.tuple [.str (Str.ofString "names")], plain6, fun w => ?_, fun w => ?_⟩
          · simp -implicitDefEqProofs [ask, is_number_any, isI, al', s1]
          · by_cases hr : lanB L o = true
            · rw [hr] at lan
              obtain ⟨N, rfl, n1, n2⟩ := lanB_out hr
              by_cases q2 : N.length = m
              · have q3 : ((N.length : Int) = (m : Int)) := by omega
                have fl := filt N w
                have ne : ¬ L.filter (fun x => decide (x ∈ N)) = N := fun z => ho ⟨N, rfl, n1, n2, q2, z⟩
                obtain ⟨M, hM⟩ : ∃ M, L.filter (fun x => decide (x ∈ N)) = M := ⟨_, rfl⟩
                rw [hM] at fl ne
                simp -implicitDefEqProofs [whole_ok, isI, lan, q2, q3, fl, ne, s1]
              · have q3 : ¬ ((N.length : Int) = (m : Int)) := by omega
                simp -implicitDefEqProofs [whole_ok, isI, lan, q2, q3, s1]
            · have hr : lanB L o = false := by simpa using hr
              rw [hr] at lan
              simp -implicitDefEqProofs [whole_ok, isI, lan, s1]
      | _ =>
        refine ⟨.tuple [.str (Str.ofString "few")], plain6, fun w => ?_, fun w => ?_⟩
        · simp -implicitDefEqProofs [ask, is_number_any, isI, s1]
        · simp -implicitDefEqProofs [whole_ok, isI, s1]
  | _ =>
    refine few _ rfl ⟨fun w => ?_, fun w => ?_⟩
    · simp -implicitDefEqProofs [ask, s1]
    · simp -implicitDefEqProofs [s1]

end DL

noncomputable section
namespace DL
open PySem L2
def L_law_bent_names_v2_1 : List R → Pw → FRes := lamF 2 2 (fIndex (fVar 1) (fVar 0))
def t_law_bent_names_v2_2 : M Bool := fB (fOp (lift2 notInO) (fOp (lift2 addO) (fVar 8) (fC (.int 1))) (fVar 1))
def e_law_bent_names_v2_3 : M R := fOp (lift2 addO) (fVar 8) (fC (.int 1))
abbrev l_law_bent_names_v2_3 : M R := fLc (fLstI (fVar 1)) (bName 8) (t_law_bent_names_v2_2) (e_law_bent_names_v2_3) [8]
def p_law_bent_names_v2 : DSt → Flow := fseq (fSet 3 (fOp (lift2 fdivO) (fVar 2) (fC (.int 8)))) (fseq (fSet 4 (fOp (lift2 modO) (fVar 3) (fCall lenO (pCons (fVar 0) fNil)))) (fseq (fSet 5 (fOp (lift2 modO) (fVar 2) (fC (.int 8)))) (fseq (fIfS (fB (fOp (lift2 eqO) (fVar 5) (fC (.int 0)))) (fRet (fOp (lift2 addO) (fSlice (fVar 0) fNoPart (fPart (fVar 4))) (fSlice (fVar 0) (fPart (fOp (lift2 addO) (fVar 4) (fC (.int 1)))) fNoPart))) fnext) (fseq (fIfS (fB (fOp (lift2 eqO) (fVar 5) (fC (.int 1)))) (fRet (fSortL (fOp (lift2 addO) (fLst (fCons (fOp (lift2 ixO) (fVar 1) (fOp (lift2 modO) (fVar 3) (fCall lenO (pCons (fVar 1) fNil)))) fNil)) (fSlice (fVar 0) (fPart (fC (.int 1))) fNoPart)) L_law_bent_names_v2_1 [1])) fnext) (fseq (fIfS (fB (fOp (lift2 eqO) (fVar 5) (fC (.int 2)))) (fRet (fUn (lift1 revO) (fVar 0))) fnext) (fseq (fIfS (fB (fOp (lift2 eqO) (fVar 5) (fC (.int 3)))) (fRet (fOp (lift2 mulO) (fLst (fCons (fOp (lift2 ixO) (fVar 0) (fVar 4)) fNil)) (fCall lenO (pCons (fVar 0) fNil)))) fnext) (fseq (fIfS (fB (fOp (lift2 eqO) (fVar 5) (fC (.int 4)))) (fseq (fSet 6 (fLc (fLstI (fVar 1)) (bName 8) (t_law_bent_names_v2_2) (e_law_bent_names_v2_3) [8])) (fseq (fSet 7 (fOp (lift2 ixO) (fLst (fCons (fOp (lift2 addO) (fCall maxO (pCons (fVar 1) fNil)) (fC (.int 1))) (fCons (fOp (lift2 ixO) (fVar 6) (fOp (lift2 modO) (fOp (lift2 fdivO) (fVar 3) (fC (.int 64))) (fCall lenO (pCons (fVar 6) fNil)))) (fCons (fOp (lift2 subO) (fCall minO (pCons (fVar 1) fNil)) (fC (.int 1))) fNil)))) (fOp (lift2 modO) (fOp (lift2 fdivO) (fVar 3) (fC (.int 16))) (fC (.int 3))))) (fRet (fOp (lift2 addO) (fOp (lift2 addO) (fSlice (fVar 0) fNoPart (fPart (fVar 4))) (fLst (fCons (fVar 7) fNil))) (fSlice (fVar 0) (fPart (fOp (lift2 addO) (fVar 4) (fC (.int 1)))) fNoPart))))) fnext) (fseq (fIfS (fB (fOp (lift2 eqO) (fVar 5) (fC (.int 5)))) (fRet (fOp (lift2 ixO) (fLst (fCons (fCall tupleO (pCons (fVar 0) fNil)) (fCons (fC .none) (fCons (fLst fNil) (fCons (fOp (lift2 addO) (fVar 0) (fSlice (fVar 0) (fPart (fUn (lift1 negO) (fC (.int 1)))) fNoPart)) fNil))))) (fOp (lift2 modO) (fVar 3) (fC (.int 4))))) fnext) (fseq (fIfS (fB (fOp (lift2 eqO) (fVar 5) (fC (.int 6)))) (fseq (fSet 7 (fOp (lift2 ixO) (fLst (fCons (fC .none) (fCons (fC (.str "1")) (fCons (fLst (fCons (fOp (lift2 ixO) (fVar 0) (fVar 4)) fNil)) (fCons (fTup (fCons (fOp (lift2 ixO) (fVar 0) (fVar 4)) fNil)) (fCons (fC (.bool true)) fNil)))))) (fOp (lift2 modO) (fOp (lift2 fdivO) (fVar 3) (fC (.int 16))) (fC (.int 5))))) (fRet (fOp (lift2 addO) (fOp (lift2 addO) (fSlice (fVar 0) fNoPart (fPart (fVar 4))) (fLst (fCons (fVar 7) fNil))) (fSlice (fVar 0) (fPart (fOp (lift2 addO) (fVar 4) (fC (.int 1)))) fNoPart)))) fnext) (fseq (fSet 8 (fOp (lift2 ixO) (fVar 1) (fOp (lift2 modO) (fOp (lift2 fdivO) (fVar 3) (fC (.int 16))) (fCall lenO (pCons (fVar 1) fNil))))) (fRet (fOp (lift2 addO) (fOp (lift2 addO) (fSlice (fVar 0) fNoPart (fPart (fVar 4))) (fLst (fCons (fVar 8) fNil))) (fSlice (fVar 0) (fPart (fOp (lift2 addO) (fVar 4) (fC (.int 1)))) fNoPart)))))))))))))
def F_law_bent_names_v2 : List R → Pw → FRes := runF 9 3 p_law_bent_names_v2
theorem canSort_ints6 (ls : List Int) : canSort (ls.map .int) := by
  refine ⟨fun d hd d' hd' => ?_, .inr fun d hd => ?_, fun d hd => ?_⟩
  · obtain ⟨x, _, rfl⟩ := List.mem_map.mp hd
    obtain ⟨y, _, rfl⟩ := List.mem_map.mp hd'
    rfl
  · obtain ⟨x, _, rfl⟩ := List.mem_map.mp hd
    exact ⟨(fun h => by cases h), (fun xs h => by cases h)⟩
  · obtain ⟨x, _, rfl⟩ := List.mem_map.mp hd
    simp [PyData.depth]
def getI : PyData → Option Int | .int x => some x | _ => none
theorem getI_map {l : List Int} : (l.map PyData.int).filterMap getI = l := by
  induction l with
  | nil => rfl
  | cons a l ih => rw [List.map_cons, List.filterMap_cons]; simp only [getI]; rw [ih]
theorem sortBy_ints {X : List Int} {ks : List PyData} (hl : ks.length = X.length) : ∃ M : List Int, sortByD (X.map .int) ks = M.map .int ∧ M.Perm X := by
  have p : (sortByD (X.map .int) ks).Perm (X.map .int) := by
    unfold sortByD
    have := (List.mergeSort_perm ((X.map PyData.int).zip ks) (PySem.W.dataLe false Prod.snd)).map Prod.fst
    rwa [List.map_fst_zip (by rw [List.length_map]; omega)] at this
  obtain ⟨M, hM⟩ : ∃ M : List Int, sortByD (X.map .int) ks = M.map .int := ints_all fun d hd => by
    obtain ⟨z, _, rfl⟩ := List.mem_map.mp (p.mem_iff.mp hd)
    rfl
  rw [hM] at p
  have := p.filterMap getI
  rw [getI_map, getI_map] at this
  exact ⟨M, hM, this⟩
theorem rL_at {L : List Int} {i : Int} (h0 : 0 ≤ i) (h : i < L.length) : ∃ x ∈ L, atI (L.map PyData.int) i = some (.int x) := by
  obtain ⟨k, rfl⟩ := Int.eq_ofNat_of_zero_le h0
  obtain ⟨e, m⟩ := nth_in (l := L) (k := k) (by omega)
  exact ⟨_, m, e⟩
theorem sortk61 {L X : List Int} {ds : List PyData} {w : Pw} {v0 v2 v3 v4 v5 v6 v7 v8 : Sl} (hs : ∀ x ∈ X, x ∈ L) (hd : ds = X.map .int) (lX : X.length ≤ 100) :
    ∃ M : List Int, M.Perm X ∧ kSortD L_law_bent_names_v2_1 [1] ds ⟨[v0, .val (.list ((L).map .int)), v2, v3, v4, v5, v6, v7, v8], w⟩ = .ok (.new (M.map .int)) ⟨[v0, .val (.list ((L).map .int)), v2, v3, v4, v5, v6, v7, v8], w⟩ := by
  subst hd
  obtain ⟨M, eM, pM⟩ := sortBy_ints (X := X) (ks := (plsN L X).map .int) (by simp [plsN])
  refine ⟨M, pM, ?_⟩
  rw [← eM]
  refine y_kSortD (cs := [.list (L.map .int)]) ⟨rfl, fun i j hj => ?_⟩ ⟨by simp [plsN], fun i d q h1 h2 => ?_⟩ (canSort_ints6 _) (size_le (by rw [List.length_map]; omega))
  · cases i with
    | zero => cases hj; exact ⟨_, rfl, rfl⟩
    | succ i => simp at hj
  · rw [List.getElem?_map] at h1
    obtain ⟨x, hx, rfl⟩ := Option.map_eq_some_iff.mp h1
    have : q = .int ((L.idxOf x : Nat) : Int) := by
      unfold plsN at h2
      rw [List.map_map, List.getElem?_map, hx] at h2
      cases h2; rfl
    subst this
    have e := idxO_mem (hs x (List.mem_of_getElem? hx))
    unfold L_law_bent_names_v2_1 lamF
    simp -implicitDefEqProofs [e]
section
variable {L N : List Int} {n : Int} {w : Pw}
theorem bent1 (hL : Rank L) (N0 : N ≠ []) (hs : ∀ x ∈ N, x ∈ L) (n10 : N.length ≤ 10) (hv : n % 8 = 1) :
    ∃ M : List Int, F_law_bent_names_v2 [.val (.list ((N).map .int)), .val (.list ((L).map .int)), .val (.int (n))] w = .ok (.new (M.map .int)) w ∧ M.length = N.length ∧ ∀ x ∈ M, x ∈ L := by
  have n0 : (0 : Int) < N.length := by have := List.length_pos_iff.mpr N0; omega
  have l0 : (0 : Int) < L.length := by have := hL.2.2.1; omega
  obtain ⟨q, hq⟩ : ∃ q, n / 8 = q := ⟨_, rfl⟩
  have md := mod_ok (a := q) n0
  have ml := mod_ok (a := q) l0
  obtain ⟨x, hx, ex⟩ := rL_at (L := L) (Int.emod_nonneg q (by omega : (L.length : Int) ≠ 0)) (Int.emod_lt_of_pos q l0)
  have c1 : cutD (N.map PyData.int) (some 1) none = (N.drop 1).map .int := by rw [cutD_map]; exact congrArg _ (cut_from (k := 1))
  have lD : (N.drop 1).length + 1 = N.length := by rw [List.length_drop]; omega
  have mD : ∀ x ∈ N.drop 1, x ∈ L := fun x hx => hs x (List.mem_of_mem_drop hx)
  obtain ⟨D, hD⟩ : ∃ D, N.drop 1 = D := ⟨_, rfl⟩
  rw [hD] at c1 lD mD
  obtain ⟨C, hC⟩ : ∃ C, D.map PyData.int = C := ⟨_, rfl⟩
  rw [hC] at c1
  have lC : C.length = D.length := by rw [← hC, List.length_map]
  obtain ⟨M, pM, eM⟩ := sortk61 (L := L) (X := x :: D) (ds := .int x :: C) (w := w) (v0 := .val (.list ((N).map .int))) (v2 := .val (.int (n))) (v3 := .val (.int (q))) (v4 := .val (.int (q % (N.length : Int)))) (v5 := .val (.int (1))) (v6 := .no) (v7 := .no) (v8 := .no) (fun y hy => by
    rcases List.mem_cons.mp hy with rfl | hy
    · exact hx
    · exact mD y hy) (by rw [List.map_cons, hC]) (by simp; omega)
  have s1 : leS 1 := size_le (by omega)
  have t1 : leS (C.length + 1) := size_le (by omega)
  have t2 : leS (1 + C.length) := size_le (by omega)
  obtain ⟨k, hk⟩ : ∃ k, q % (N.length : Int) = k := ⟨_, rfl⟩
  obtain ⟨k2, hk2⟩ : ∃ k, q % (L.length : Int) = k := ⟨_, rfl⟩
  rw [hk] at md eM
  rw [hk2] at ml ex
  refine ⟨M, ?_, by have := pM.length_eq; simp at this; omega, fun y hy => ?_⟩
  · unfold F_law_bent_names_v2 p_law_bent_names_v2
    simp only [x_runF]
    simp -implicitDefEqProofs [hq, md, ml, hv, ex, c1, eM, s1, t1, t2]
  · rcases List.mem_cons.mp (pM.mem_iff.mp hy) with rfl | hy
    · exact hx
    · exact mD y hy
theorem bent_names61 (hL : Rank L) (N0 : N ≠ []) (hs : ∀ x ∈ N, x ∈ L) (n10 : N.length ≤ 10) (hn : 0 ≤ n) :
    (∃ ds, F_law_bent_names_v2 [.val (.list ((N).map .int)), .val (.list ((L).map .int)), .val (.int (n))] w = .ok (.new ds) w ∧ bdd 3 (.list ds)) ∨ (∃ d, F_law_bent_names_v2 [.val (.list ((N).map .int)), .val (.list ((L).map .int)), .val (.int (n))] w = .ok (.val d) w ∧ bdd 3 d) := by
  obtain ⟨v, hv⟩ : ∃ v, n % 8 = v := ⟨_, rfl⟩
  by_cases v1 : v = 1
  · subst v1
    obtain ⟨M, e, lM, _⟩ := bent1 (w := w) hL N0 hs n10 hv
    exact .inl ⟨_, e, bdd_ints (by omega)⟩
  have n0 : (0 : Int) < N.length := by have := List.length_pos_iff.mpr N0; omega
  have l0 : (0 : Int) < L.length := by have := hL.2.2.1; omega
  have l10 := hL.2.2.2
  have hL0 : L ≠ [] := List.length_pos_iff.mp hL.2.2.1
  obtain ⟨q, hq⟩ : ∃ q, n / 8 = q := ⟨_, rfl⟩
  have q0 : 0 ≤ q := by omega
  have md := mod_ok (a := q) n0
  have kb := Int.emod_lt_of_pos q n0
  obtain ⟨k, hk⟩ := Int.eq_ofNat_of_zero_le (Int.emod_nonneg q (by omega : (N.length : Int) ≠ 0))
  have kl : k < N.length := by omega
  obtain ⟨y, hy, ok⟩ := rL_at (L := N) (i := (k : Int)) (by omega) (by omega)
  have ci : ∀ a b, ∀ d ∈ cutD (N.map PyData.int) a b, bdd 2 d := fun a b d hd => by
    obtain ⟨z, _, rfl⟩ := List.mem_map.mp (cut_mem.2 d hd); simp
  have cl : ∀ a b, (cutD (N.map PyData.int) a b).length ≤ 100 := fun a b => by have := (cut_mem (l := N.map PyData.int) (a := a) (b := b)).1; rw [List.length_map] at this; omega
  have hide : ∀ a b, ∃ A, cutD (N.map PyData.int) a b = A ∧ A.length ≤ 100 ∧ ∀ d ∈ A, bdd 2 d := fun a b => ⟨_, rfl, cl a b, ci a b⟩
  obtain ⟨A, hA, lA, iA⟩ := hide none (some (k : Int))
  obtain ⟨B, hB, lB, iB⟩ := hide (some ((k : Int) + 1)) none
  obtain ⟨P, hP, lP, iP⟩ := hide (some (-1)) none
  have iN : ∀ d ∈ N.map PyData.int, bdd 2 d := fun d hd => by obtain ⟨z, _, rfl⟩ := List.mem_map.mp hd; simp
  have lsm : ∀ m : Nat, m ≤ 1000 → leS m := fun m h => size_le (by omega)
  have l3 : ∀ {ds : List PyData}, ds.length ≤ 1000 → (∀ d ∈ ds, bdd 2 d) → bdd 3 (.list ds) := fun h1 h2 => bdd_list.mpr ⟨h1, h2⟩
  have app : ∀ X Y : List PyData, X.length ≤ 400 → Y.length ≤ 400 → (∀ d ∈ X, bdd 2 d) → (∀ d ∈ Y, bdd 2 d) → bdd 3 (.list (X ++ Y)) := fun X Y h1 h2 h3 h4 => l3 (by rw [List.length_append]; omega) fun d hd => by
    rcases List.mem_append.mp hd with hd | hd
    · exact h3 d hd
    · exact h4 d hd
  have mid : ∀ x : PyData, bdd 2 x → bdd 3 (.list (A ++ x :: B)) := fun x hx => app _ _ (by omega) (by simp; omega) iA fun d hd => by
    rcases List.mem_cons.mp hd with rfl | hd
    · exact hx
    · exact iB d hd
  have t1 : leS (A.length + 1) := lsm _ (by omega)
  have t2 : leS (A.length + 1 + B.length) := lsm _ (by omega)
  have t3 : leS (A.length + B.length) := lsm _ (by omega)
  have t4 : leS (N.length + P.length) := lsm _ (by omega)
  have s1 : leS 1 := lsm _ (by omega)
  have s3 : leS 3 := lsm _ (by omega)
  have s4 : leS 4 := lsm _ (by omega)
  have s5 : leS 5 := lsm _ (by omega)
  have sN : leS N.length := lsm _ (by omega)
  have hW : inW (N.length : Int) := inW_of (by omega) (by omega)
  unfold F_law_bent_names_v2 p_law_bent_names_v2
  simp only [x_runF]
  have hv10 : v = 0 ∨ v = 2 ∨ v = 3 ∨ v = 4 ∨ v = 5 ∨ v = 6 ∨ v = 7 := by omega
  clear v1
  rcases hv10 with rfl | rfl | rfl | rfl | rfl | rfl | rfl
  · refine .inl ⟨A ++ B, ?_, app _ _ (by omega) (by omega) iA iB⟩
    simp -implicitDefEqProofs [hq, md, hk, hv, hA, hB, t3]
  · refine .inl ⟨(N.map PyData.int).reverse, ?_, l3 (by simp; omega) fun d hd => iN d (List.mem_reverse.mp hd)⟩
    simp -implicitDefEqProofs [hq, md, hk, hv]
  · refine .inl ⟨List.replicate N.length (.int y), ?_, l3 (by simp; omega) fun d hd => by rw [(List.mem_replicate.mp hd).2]; simp⟩
    simp -implicitDefEqProofs [hq, md, hk, hv, ok, s1, sN, hW]
  · obtain ⟨mx1, mx2⟩ := maxI_facts hL0
    obtain ⟨Mx, hMx⟩ : ∃ M, maxI L = M := ⟨_, rfl⟩
    rw [hMx] at mx1 mx2
    obtain ⟨Gs, hGs⟩ : ∃ Gs, L.filter (fun z => decide (z + 1 ∉ L)) = Gs := ⟨_, rfl⟩
    have lG : 0 < Gs.length := by
      refine List.length_pos_of_mem (a := Mx) ?_
      rw [← hGs, List.mem_filter]
      exact ⟨mx2, by simp; intro z; have := mx1 _ z; omega⟩
    have ec : l_law_bent_names_v2_3 ⟨[.val (.list ((N).map .int)), .val (.list ((L).map .int)), .val (.int (n)), .val (.int (q)), .val (.int ((k : Nat) : Int)), .val (.int (4)), .no, .no, .no], w⟩ = .ok (.new (Gs.map fun z => .int (z + 1))) ⟨[.val (.list ((N).map .int)), .val (.list ((L).map .int)), .val (.int (n)), .val (.int (q)), .val (.int ((k : Nat) : Int)), .val (.int (4)), .no, .no, .no], w⟩ := by
      rw [← hGs]
      refine lc_gen (fun z : Int => ⟨[.val (.list ((N).map .int)), .val (.list ((L).map .int)), .val (.int (n)), .val (.int (q)), .val (.int ((k : Nat) : Int)), .val (.int (4)), .no, .no, .val (.int (z))], w⟩) _ _ (f := .int) (l := L) (by simp -implicitDefEqProofs) (by omega) rfl (fun a _ => by rfl) (fun a _ => by rfl) (fun z hz => ?_) (fun z hz _ => ?_)
      · unfold t_law_bent_names_v2_2
        simp -implicitDefEqProofs
      · unfold e_law_bent_names_v2_3
        simp -implicitDefEqProofs
    have g0 : (0 : Int) < Gs.length := by omega
    obtain ⟨g, eg, mg⟩ := atI_some (xs := Gs) (i := q / 64 % (Gs.length : Int)) (Int.emod_nonneg _ (by omega)) (Int.emod_lt_of_pos _ g0)
    have eg' : atI (Gs.map fun z => PyData.int (z + 1)) (q / 64 % (Gs.length : Int)) = some (.int (g + 1)) := by
      rw [atI_mapF (f := fun z => PyData.int (z + 1)), eg]; rfl
    have mdg := mod_ok (a := q / 64) g0
    have hmx := max_ints hL0
    rw [hMx] at hmx
    have hmn := min_ints hL0
    obtain ⟨od, eod⟩ : ∃ od : Int, atI [PyData.int (Mx + 1), .int (g + 1), .int (minI L - 1)] (q / 16 % 3) = some (.int od) := by
      have : q / 16 % 3 = 0 ∨ q / 16 % 3 = 1 ∨ q / 16 % 3 = 2 := by omega
      rcases this with r | r | r <;> rw [r] <;> simp
    refine .inl ⟨A ++ .int od :: B, ?_, mid _ (by simp)⟩
    simp -implicitDefEqProofs [-x_max2, hq, md, hk, hv, ec, hmx, hmn, mdg, eg', eod, hA, hB, t1, t2, s1, s3]
  · obtain ⟨d, ed, hd⟩ := atI_some (xs := [PyData.tuple (N.map .int), .none, .list [], .list (N.map .int ++ P)]) (i := q % 4) (by omega) (by simp; omega)
    refine .inr ⟨d, ?_, ?_⟩
    · simp -implicitDefEqProofs [hq, md, hk, hv, hP, ed, t4, s4]
    · simp only [List.mem_cons, List.not_mem_nil, or_false] at hd
      rcases hd with rfl | rfl | rfl | rfl
      · exact bdd_tuple.mpr ⟨by rw [List.length_map]; omega, iN⟩
      · simp
      · simp
      · exact app _ _ (by rw [List.length_map]; omega) (by omega) iN iP
  · obtain ⟨od, eod, hod⟩ := atI_some (xs := [PyData.none, .str (Str.ofString "1"), .list [.int y], .tuple [.int y], .bool true]) (i := q / 16 % 5) (by omega) (by simp; omega)
    have bod : bdd 2 od := by
      simp only [List.mem_cons, List.not_mem_nil, or_false] at hod
      rcases hod with rfl | rfl | rfl | rfl | rfl <;> simp
    refine .inl ⟨A ++ od :: B, ?_, mid _ bod⟩
    simp -implicitDefEqProofs [hq, md, hk, hv, ok, eod, hA, hB, t1, t2, s1, s5]
  · have ml := mod_ok (a := q / 16) l0
    obtain ⟨z, _, ez⟩ := rL_at (L := L) (Int.emod_nonneg (q / 16) (by omega : (L.length : Int) ≠ 0)) (Int.emod_lt_of_pos (q / 16) l0)
    refine .inl ⟨A ++ .int z :: B, ?_, mid _ (by simp)⟩
    simp -implicitDefEqProofs [hq, md, hk, hv, ml, ez, hA, hB, t1, t2, s1]
end

end DL

noncomputable section
namespace DL
open PySem L2
def e_law_bent_table_1 : M R := fOp (lift2 ixO) (fLst (fCons (fVar 6) (fCons (fC (.int 0)) fNil))) (fCall intO (pCons (fIsN true (fVar 6)) fNil))
abbrev l_law_bent_table_1 : M R := fLc (fLstI (fVar 8)) (bName 6) fYes (e_law_bent_table_1) [6]
def e_law_bent_table_2 : M R := fLc (fLstI (fVar 8)) (bName 6) fYes (e_law_bent_table_1) [6]
abbrev l_law_bent_table_2 : M R := fLc (fLstI (fVar 0)) (bName 8) fYes (e_law_bent_table_2) [8]
def t_law_bent_table_3 : M Bool := fB (fIsN true (fVar 6))
def e_law_bent_table_4 : M R := fOp (lift2 subO) (fVar 6) (fCall intO (pCons (fOp (lift2 eqO) (fVar 5) (fC (.int 12))) fNil))
abbrev l_law_bent_table_4 : M R := fLc (fLstI (fVar 8)) (bName 6) (t_law_bent_table_3) (e_law_bent_table_4) [6]
def b_law_bent_table_5 : DSt → Flow := fseq (fDrop (fApp 7 (fLc (fLstI (fVar 8)) (bName 6) (t_law_bent_table_3) (e_law_bent_table_4) [6]))) (fSetIx 7 (fOp (lift2 addO) (fOp (lift2 mulO) (fLst (fCons (fC .none) fNil)) (fOp (lift2 subO) (fCall lenO (pCons (fVar 8) fNil)) (fCall lenO (pCons (fOp (lift2 ixO) (fVar 7) (fUn (lift1 negO) (fC (.int 1)))) fNil)))) (fOp (lift2 ixO) (fVar 7) (fUn (lift1 negO) (fC (.int 1))))) (fUn (lift1 negO) (fC (.int 1))))
abbrev o_law_bent_table_5 : List PyData → DSt → Flow := loopF (bName 8) b_law_bent_table_5
def p_law_bent_table : DSt → Flow := fseq (fSet 2 (fOp (lift2 modO) (fOp (lift2 fdivO) (fVar 1) (fC (.int 16))) (fCall lenO (pCons (fVar 0) fNil)))) (fseq (fSet 3 (fOp (lift2 ixO) (fVar 0) (fVar 2))) (fseq (fSet 4 (fOp (lift2 modO) (fOp (lift2 fdivO) (fVar 1) (fC (.int 256))) (fCall lenO (pCons (fVar 3) fNil)))) (fseq (fSet 5 (fOp (lift2 modO) (fVar 1) (fC (.int 14)))) (fseq (fIfS (fAnd (fB (fOp (lift2 ltO) (fVar 5) (fC (.int 8)))) (fB (fIsN true (fOp (lift2 ixO) (fVar 3) (fVar 4))))) (fseq (fSet 6 (fOp (lift2 ixO) (fLst (fCons (fOp (lift2 addO) (fOp (lift2 ixO) (fVar 3) (fVar 4)) (fC (.int 1))) (fCons (fOp (lift2 subO) (fOp (lift2 ixO) (fVar 3) (fVar 4)) (fC (.int 1))) (fCons (fOp (lift2 subO) (fOp (lift2 ixO) (fVar 3) (fVar 4)) (fOp (lift2 powO) (fC (.int 10)) (fC (.int 35)))) (fCons (fC .none) (fCons (fC (.bool true)) (fCons (fC (.int 0)) (fCons (fC (.str "1")) (fCons (fLst (fCons (fC (.int 0)) fNil)) fNil))))))))) (fVar 5))) (fseq (fSet 3 (fOp (lift2 addO) (fOp (lift2 addO) (fSlice (fVar 3) fNoPart (fPart (fVar 4))) (fLst (fCons (fVar 6) fNil))) (fSlice (fVar 3) (fPart (fOp (lift2 addO) (fVar 4) (fC (.int 1)))) fNoPart))) (fRet (fOp (lift2 addO) (fOp (lift2 addO) (fSlice (fVar 0) fNoPart (fPart (fVar 2))) (fLst (fCons (fVar 3) fNil))) (fSlice (fVar 0) (fPart (fOp (lift2 addO) (fVar 2) (fC (.int 1)))) fNoPart))))) fnext) (fseq (fIfS (fB (fOp (lift2 ltO) (fVar 5) (fC (.int 9)))) (fRet (fOp (lift2 addO) (fOp (lift2 addO) (fSlice (fVar 0) fNoPart (fPart (fVar 2))) (fLst (fCons (fOp (lift2 addO) (fOp (lift2 addO) (fSlice (fVar 3) fNoPart (fPart (fVar 4))) (fLst (fCons (fC (.int 0)) fNil))) (fSlice (fVar 3) (fPart (fOp (lift2 addO) (fVar 4) (fC (.int 1)))) fNoPart)) fNil))) (fSlice (fVar 0) (fPart (fOp (lift2 addO) (fVar 2) (fC (.int 1)))) fNoPart))) fnext) (fseq (fIfS (fB (fOp (lift2 eqO) (fVar 5) (fC (.int 9)))) (fRet (fLc (fLstI (fVar 0)) (bName 8) fYes (e_law_bent_table_2) [8])) fnext) (fseq (fIfS (fB (fOp (lift2 eqO) (fVar 5) (fC (.int 10)))) (fRet (fOp (lift2 addO) (fOp (lift2 addO) (fSlice (fVar 0) fNoPart (fPart (fVar 2))) (fLst (fCons (fOp (lift2 ixO) (fLst (fCons (fSlice (fVar 3) (fPart (fC (.int 1))) fNoPart) (fCons (fOp (lift2 addO) (fVar 3) (fLst (fCons (fC (.int 0)) fNil))) (fCons (fCall tupleO (pCons (fVar 3) fNil)) (fCons (fC .none) fNil))))) (fOp (lift2 modO) (fOp (lift2 fdivO) (fVar 1) (fC (.int 256))) (fC (.int 4)))) fNil))) (fSlice (fVar 0) (fPart (fOp (lift2 addO) (fVar 2) (fC (.int 1)))) fNoPart))) fnext) (fseq (fIfS (fB (fOp (lift2 eqO) (fVar 5) (fC (.int 11)))) (fRet (fOp (lift2 ixO) (fLst (fCons (fSlice (fVar 0) fNoPart (fPart (fUn (lift1 negO) (fC (.int 1))))) (fCons (fOp (lift2 addO) (fVar 0) (fSlice (fVar 0) fNoPart (fPart (fC (.int 1))))) (fCons (fC .none) (fCons (fCall tupleO (pCons (fVar 0) fNil)) fNil))))) (fOp (lift2 modO) (fOp (lift2 fdivO) (fVar 1) (fC (.int 16))) (fC (.int 4))))) fnext) (fseq (fSet 7 (fLst fNil)) (fseq (fFor (fLstI (fVar 0)) (bName 8) b_law_bent_table_5) (fRet (fVar 7))))))))))))
def F_law_bent_table : List R → Pw → FRes := runF 9 2 p_law_bent_table
def cellP (d : PyData) : Prop := d = .none ∨ ∃ x : Int, d = .int x
def zerD (d : PyData) : PyData := if isNn d = true then .none else .int 0
theorem ixN6m {n : Nat} : ixN (n + 1) (-1) = some n := by
  unfold ixN
  rw [if_neg (by omega), if_pos (by omega)]
  congr 1
  omega
def cellI6 : PyData → Int | .int x => x | _ => 0
theorem bent_tab61 {Es : List (List PyData)} {m wd : Nat} {n : Int} {w : Pw} (lT : Es.length = m) (hE : ∀ E ∈ Es, E.length = wd ∧ ∀ e ∈ E, cellP e) (m0 : 0 < m) (m10 : m ≤ 10) (w0 : 0 < wd) (w10 : wd ≤ 10) (hn : 0 ≤ n) :
    (∃ ds, F_law_bent_table [.val (.list (Es.map .list)), .val (.int (n))] w = .ok (.new ds) w ∧ bdd 3 (.list ds)) ∨ (∃ d, F_law_bent_table [.val (.list (Es.map .list)), .val (.int (n))] w = .ok (.val d) w ∧ bdd 3 d) := by
  have bc : ∀ {d : PyData}, cellP d → ∀ {k : Nat}, bdd k d := fun {d} h {k} => by
    rcases h with rfl | ⟨x, rfl⟩ <;> simp
  have T0 : (0 : Int) < (Es.map PyData.list).length := by rw [List.length_map]; omega
  have md := mod_ok (a := n / 16) T0
  obtain ⟨r', er, hr'⟩ := atI_some (xs := Es.map PyData.list) (Int.emod_nonneg (n / 16) (by omega)) (Int.emod_lt_of_pos (n / 16) T0)
  obtain ⟨r, hr, rfl⟩ := List.mem_map.mp hr'
  obtain ⟨lr, cr⟩ := hE r hr
  obtain ⟨lo, hlo⟩ := Int.eq_ofNat_of_zero_le (Int.emod_nonneg (n / 16) (by omega : ((Es.map PyData.list).length : Int) ≠ 0))
  rw [List.length_map] at md hlo er
  have r0 : (0 : Int) < r.length := by omega
  have md2 := mod_ok (a := n / 256) r0
  obtain ⟨y, ey, hy⟩ := atI_some (xs := r) (Int.emod_nonneg (n / 256) (by omega)) (Int.emod_lt_of_pos (n / 256) r0)
  obtain ⟨k, hk⟩ := Int.eq_ofNat_of_zero_le (Int.emod_nonneg (n / 256) (by omega : (r.length : Int) ≠ 0))
  have iT : ∀ d ∈ Es.map PyData.list, bdd 2 d := fun d hd => by
    obtain ⟨x, hx, rfl⟩ := List.mem_map.mp hd
    obtain ⟨h1, h2⟩ := hE x hx
    exact bdd_list.mpr ⟨by omega, fun d hd => bc (h2 d hd)⟩
  have ir : ∀ d ∈ r, bdd 1 d := fun d hd => bc (cr d hd)
  have hideT : ∀ a b, ∃ A, cutD (Es.map PyData.list) a b = A ∧ A.length ≤ 100 ∧ ∀ d ∈ A, bdd 2 d := fun a b => ⟨_, rfl, by have := (cut_mem (l := Es.map PyData.list) (a := a) (b := b)).1; rw [List.length_map] at this; omega, fun d hd => iT d (cut_mem.2 d hd)⟩
  have hider : ∀ a b, ∃ A, cutD r a b = A ∧ A.length ≤ 100 ∧ ∀ d ∈ A, bdd 1 d := fun a b => ⟨_, rfl, by have := (cut_mem (l := r) (a := a) (b := b)).1; omega, fun d hd => ir d (cut_mem.2 d hd)⟩
  obtain ⟨A, hA, lA, iA⟩ := hideT none (some (lo : Int))
  obtain ⟨B, hB, lB, iB⟩ := hideT (some ((lo : Int) + 1)) none
  obtain ⟨Q, hQ, lQ, iQ⟩ := hideT none (some (-1))
  obtain ⟨P, hP, lP, iP⟩ := hideT none (some 1)
  obtain ⟨C, hC, lC, iC⟩ := hider none (some (k : Int))
  obtain ⟨D, hD, lD, iD⟩ := hider (some ((k : Int) + 1)) none
  obtain ⟨E1, hE1, lE1, iE1⟩ := hider (some 1) none
  have lsm : ∀ m : Nat, m ≤ 1000 → leS m := fun m h => size_le (by omega)
  have app : ∀ {n : Nat} (X Y : List PyData), X.length ≤ 400 → Y.length ≤ 400 → (∀ d ∈ X, bdd n d) → (∀ d ∈ Y, bdd n d) → bdd (n + 1) (.list (X ++ Y)) := fun X Y h1 h2 h3 h4 => bdd_list.mpr ⟨by rw [List.length_append]; omega, fun d hd => by
    rcases List.mem_append.mp hd with hd | hd
    · exact h3 d hd
    · exact h4 d hd⟩
  have mid : ∀ x : PyData, bdd 2 x → bdd 3 (.list (A ++ x :: B)) := fun x hx => app _ _ (by omega) (by simp; omega) iA fun d hd => by
    rcases List.mem_cons.mp hd with rfl | hd
    · exact hx
    · exact iB d hd
  have row : ∀ x : PyData, bdd 1 x → bdd 2 (.list (C ++ x :: D)) := fun x hx => app _ _ (by omega) (by simp; omega) iC fun d hd => by
    rcases List.mem_cons.mp hd with rfl | hd
    · exact hx
    · exact iD d hd
  have t1 : leS (A.length + 1) := lsm _ (by omega)
  have t2 : leS (A.length + 1 + B.length) := lsm _ (by omega)
  have t3 : leS (C.length + 1) := lsm _ (by omega)
  have t4 : leS (C.length + 1 + D.length) := lsm _ (by omega)
  have t5 : leS (r.length + 1) := lsm _ (by omega)
  have t6 : leS (Es.length + P.length) := lsm _ (by omega)
  have s1 : leS 1 := lsm _ (by omega)
  have s2 : leS 2 := lsm _ (by omega)
  have s4 : leS 4 := lsm _ (by omega)
  have s8 : leS 8 := lsm _ (by omega)
  obtain ⟨v, hv⟩ : ∃ v, n % 14 = v := ⟨_, rfl⟩
  have v0 : 0 ≤ v := by omega
  have v14 : v < 14 := by omega
  rw [hlo] at md er
  rw [hk] at md2 ey
  have lTT : ((Es.map PyData.list).length : Int) = (Es.length : Int) := by rw [List.length_map]
  unfold F_law_bent_table p_law_bent_table
  simp only [x_runF]
  by_cases c8 : v < 8
  · have c9 : v < 9 := by omega
    rcases cr y hy with rfl | ⟨x, rfl⟩
    · refine .inl ⟨A ++ .list (C ++ .int 0 :: D) :: B, ?_, mid _ (row _ (by simp))⟩
      simp -implicitDefEqProofs [lTT, md, hlo, er, md2, hk, hv, c8, c9, ey, hC, hD, hA, hB, t1, t2, t3, t4, s1]
    · obtain ⟨od, eod, hod⟩ := atI_some (xs := [PyData.int (x + 1), .int (x - 1), .int (x - 100000000000000000000000000000000000), .none, .bool true, .int 0, .str (Str.ofString "1"), .list [.int 0]]) (i := v) v0 (by simp; omega)
      have bod : bdd 1 od := by
        simp only [List.mem_cons, List.not_mem_nil, or_false] at hod
        rcases hod with rfl | rfl | rfl | rfl | rfl | rfl | rfl | rfl <;> simp
      refine .inl ⟨A ++ .list (C ++ od :: D) :: B, ?_, mid _ (row _ bod)⟩
      simp -implicitDefEqProofs [lTT, md, hlo, er, md2, hk, hv, c8, ey, eod, hC, hD, hA, hB, t1, t2, t3, t4, s1, s8]
  have rows : ∀ E ∈ Es, E.length ≤ 10 := fun E h => by rw [(hE E h).1]; exact w10
  obtain ⟨T, hT⟩ : ∃ T, Es.map PyData.list = T := ⟨_, rfl⟩
  have lT' : T.length = Es.length := by rw [← hT, List.length_map]
  rw [hT] at er hA hB hQ hP iT lTT ⊢
  by_cases c : v = 8
  · subst c
    refine .inl ⟨A ++ .list (C ++ .int 0 :: D) :: B, ?_, mid _ (row _ (by simp))⟩
    simp -implicitDefEqProofs [lTT, lT', md, hlo, er, md2, hk, hv, hC, hD, hA, hB, t1, t2, t3, t4, s1]
  by_cases c9 : v = 9
  · subst c9
    have i1 : ∀ E ∈ Es, l_law_bent_table_1 ⟨[.val (.list T), .val (.int (n)), .val (.int ((lo : Nat) : Int)), .val (.list r), .val (.int ((k : Nat) : Int)), .val (.int (9)), .no, .no, .val (.list E)], w⟩ = .ok (.new (E.map zerD)) ⟨[.val (.list T), .val (.int (n)), .val (.int ((lo : Nat) : Int)), .val (.list r), .val (.int ((k : Nat) : Int)), .val (.int (9)), .no, .no, .val (.list E)], w⟩ := fun E hx => by
      have := rows E hx
      refine lc_all (fun z : PyData => ⟨[.val (.list T), .val (.int (n)), .val (.int ((lo : Nat) : Int)), .val (.list r), .val (.int ((k : Nat) : Int)), .val (.int (9)), .val z, .no, .val (.list E)], w⟩) _ (f := id) (l := E) (by simp -implicitDefEqProofs) (by omega) rfl (fun a _ => by rfl) (fun a _ => by rfl) (fun z hz => ?_)
      unfold e_law_bent_table_1
      rcases (hE E hx).2 z hz with rfl | ⟨x, rfl⟩ <;> simp -implicitDefEqProofs [zerD, isNn, s2]
    have i2 : l_law_bent_table_2 ⟨[.val (.list T), .val (.int (n)), .val (.int ((lo : Nat) : Int)), .val (.list r), .val (.int ((k : Nat) : Int)), .val (.int (9)), .no, .no, .no], w⟩ = .ok (.new (Es.map fun E => .list (E.map zerD))) ⟨[.val (.list T), .val (.int (n)), .val (.int ((lo : Nat) : Int)), .val (.list r), .val (.int ((k : Nat) : Int)), .val (.int (9)), .no, .no, .no], w⟩ := by
      refine lc_all (fun E : List PyData => ⟨[.val (.list T), .val (.int (n)), .val (.int ((lo : Nat) : Int)), .val (.list r), .val (.int ((k : Nat) : Int)), .val (.int (9)), .no, .no, .val (.list E)], w⟩) _ (f := .list) (l := Es) (by simp -implicitDefEqProofs [hT]) (by omega) rfl (fun a _ => by rfl) (fun a _ => by rfl) (fun E hx => ?_)
      unfold e_law_bent_table_2
      simp -implicitDefEqProofs [i1 E hx]
    obtain ⟨Z, hZ⟩ : ∃ Z, Es.map (fun E => PyData.list (E.map zerD)) = Z := ⟨_, rfl⟩
    rw [hZ] at i2
    refine .inl ⟨Z, ?_, bdd_list.mpr ⟨?_, ?_⟩⟩
    · simp -implicitDefEqProofs [lTT, lT', md, hlo, er, md2, hk, hv, i2]
    · rw [← hZ, List.length_map]; omega
    · intro d hd
      rw [← hZ] at hd
      obtain ⟨x, hx, rfl⟩ := List.mem_map.mp hd
      have := rows x hx
      refine bdd_list.mpr ⟨by rw [List.length_map]; omega, fun d hd => ?_⟩
      obtain ⟨z, _, rfl⟩ := List.mem_map.mp hd
      unfold zerD
      split <;> simp
  by_cases c10 : v = 10
  · subst c10
    obtain ⟨od, eod, hod⟩ := atI_some (xs := [PyData.list E1, .list (r ++ [.int 0]), .tuple r, .none]) (i := n / 256 % 4) (by omega) (by simp; omega)
    have bod : bdd 2 od := by
      simp only [List.mem_cons, List.not_mem_nil, or_false] at hod
      rcases hod with rfl | rfl | rfl | rfl
      · exact bdd_list.mpr ⟨by omega, iE1⟩
      · exact app _ _ (by omega) (by simp) ir (by simp)
      · exact bdd_tuple.mpr ⟨by omega, ir⟩
      · simp
    refine .inl ⟨A ++ od :: B, ?_, mid _ bod⟩
    simp -implicitDefEqProofs [lTT, lT', md, hlo, er, md2, hk, hv, eod, hE1, hA, hB, t1, t2, t5, s1, s4]
  by_cases c11 : v = 11
  · subst c11
    obtain ⟨od, eod, hod⟩ := atI_some (xs := [PyData.list Q, .list (T ++ P), .none, .tuple T]) (i := n / 16 % 4) (by omega) (by simp; omega)
    refine .inr ⟨od, ?_, ?_⟩
    · simp -implicitDefEqProofs [lTT, lT', md, hlo, er, md2, hk, hv, eod, hQ, hP, t6, s1, s4]
    · simp only [List.mem_cons, List.not_mem_nil, or_false] at hod
      rcases hod with rfl | rfl | rfl | rfl
      · exact bdd_list.mpr ⟨by omega, iQ⟩
      · exact app _ _ (by omega) (by omega) iT iP
      · simp
      · exact bdd_tuple.mpr ⟨by omega, iT⟩
  have h12 : ¬ v = 8 ∧ ¬ v = 9 ∧ ¬ v = 10 ∧ ¬ v = 11 ∧ ¬ v < 9 := ⟨c, c9, c10, c11, by omega⟩
  obtain ⟨dl, hdl⟩ : ∃ dl : Int, (if v = 12 then (1 : Int) else 0) = dl := ⟨_, rfl⟩
  obtain ⟨s', e, Z, v8, lZ, bZ, rfl⟩ := loopN (b := bName 8) (p := b_law_bent_table_5) (f := PyData.list) (l := Es) (s := ⟨[.val (.list T), .val (.int (n)), .val (.int ((lo : Nat) : Int)), .val (.list r), .val (.int ((k : Nat) : Int)), .val (.int (v)), .no, .own [], .no], w⟩)
    (fun i s => ∃ Z v8, Z.length = i ∧ (∀ d ∈ Z, bdd 2 d) ∧ s = ⟨[.val (.list T), .val (.int (n)), .val (.int ((lo : Nat) : Int)), .val (.list r), .val (.int ((k : Nat) : Int)), .val (.int (v)), .no, .own Z, v8], w⟩) ⟨[], .no, rfl, by simp, rfl⟩ (by
      rintro i E s hi hm ⟨Z, v8, lZ, bZ, rfl⟩
      have hiE := (List.getElem?_eq_some_iff.mp hi).1
      obtain ⟨lE, cE⟩ := hE E hm
      have hel : l_law_bent_table_4 ⟨[.val (.list T), .val (.int (n)), .val (.int ((lo : Nat) : Int)), .val (.list r), .val (.int ((k : Nat) : Int)), .val (.int (v)), .no, .own Z, .val (.list E)], w⟩ = .ok (.new ((E.filter fun d => !isNn d).map fun d => .int (cellI6 d - dl))) ⟨[.val (.list T), .val (.int (n)), .val (.int ((lo : Nat) : Int)), .val (.list r), .val (.int ((k : Nat) : Int)), .val (.int (v)), .no, .own Z, .val (.list E)], w⟩ := by
        refine lc_gen (fun z : PyData => ⟨[.val (.list T), .val (.int (n)), .val (.int ((lo : Nat) : Int)), .val (.list r), .val (.int ((k : Nat) : Int)), .val (.int (v)), .val z, .own Z, .val (.list E)], w⟩) _ _ (f := id) (l := E) (by simp -implicitDefEqProofs) (by omega) rfl (fun a _ => by rfl) (fun a _ => by rfl) (fun z hz => ?_) (fun z hz q => ?_)
        · unfold t_law_bent_table_3
          rcases cE z hz with rfl | ⟨x, rfl⟩ <;> simp -implicitDefEqProofs [isNn]
        · unfold e_law_bent_table_4
          rcases cE z hz with rfl | ⟨x, rfl⟩
          · simp [isNn] at q
          · rw [← hdl]
            by_cases q12 : v = 12 <;> simp -implicitDefEqProofs [q12, cellI6]
      have lF : (E.filter fun d => !isNn d).length ≤ E.length := List.length_filter_le _ _
      obtain ⟨F, hF⟩ : ∃ F, (E.filter fun d => !isNn d).map (fun d => PyData.int (cellI6 d - dl)) = F := ⟨_, rfl⟩
      have lF2 : F.length ≤ E.length := by rw [← hF, List.length_map]; exact lF
      have bF : ∀ d ∈ F, bdd 1 d := fun d hd => by
        rw [← hF] at hd
        obtain ⟨z, _, rfl⟩ := List.mem_map.mp hd
        simp
      rw [hF] at hel
      have lt : ltS Z.length := size_lt (by omega)
      have ix := ixN6m (n := Z.length)
      have al : atI (Z ++ [PyData.list F]) (-1) = some (.list F) := atI_last _ _
      have a1 : leS ((E.length - F.length : Nat)) := lsm _ (by omega)
      have aW : inW ((E.length : Int) - (F.length : Int)) := inW_of (by omega) (by omega)
      have a2 : leS (E.length - F.length + F.length) := lsm _ (by omega)
      have en : ((E.length : Int) - (F.length : Int)).toNat = E.length - F.length := by omega
      have st : (Z ++ [PyData.list F]).set Z.length (.list (List.replicate (E.length - F.length) .none ++ F)) = Z ++ [.list (List.replicate (E.length - F.length) .none ++ F)] := by
        rw [List.set_append_right _ _ (Nat.le_refl _)]
        simp
      refine ⟨_, ?_, Z ++ [.list (List.replicate (E.length - F.length) .none ++ F)], .val (.list E), by simp [lZ], fun d hd => ?_, rfl⟩
      · unfold b_law_bent_table_5
        simp -implicitDefEqProofs [hel, lt, ix, al, a1, aW, a2, en, s1, st]
      · rcases List.mem_append.mp hd with hd | hd
        · exact bZ d hd
        · rw [List.mem_singleton] at hd
          subst hd
          refine bdd_list.mpr ⟨by rw [List.length_append, List.length_replicate]; omega, fun d hd => ?_⟩
          rcases List.mem_append.mp hd with hd | hd
          · rw [(List.mem_replicate.mp hd).2]; simp
          · exact bF d hd)
  rw [hT] at e
  refine .inl ⟨Z, ?_, bdd_list.mpr ⟨by omega, bZ⟩⟩
  simp -implicitDefEqProofs [lTT, lT', md, hlo, er, md2, hk, hv, c8, h12, e]

end DL

noncomputable section
namespace DL
open PySem L2
def p_law_bent_v5 : DSt → Flow := fseq (fAsgB (fVar 1) (bSeq 3 (bCons (bName 3) (bCons (bName 4) (bCons (bName 5) bNil))))) (fseq (fSet 6 (fOp (lift2 modO) (fVar 2) (fC (.int 8)))) (fseq (fSet 7 (fOp (lift2 fdivO) (fVar 2) (fC (.int 8)))) (fseq (fIfS (fB (fOp (lift2 eqO) (fVar 6) (fC (.int 0)))) (fRet (fTup (fCons (fOp (lift2 ixO) (fLst (fCons (fOp (lift2 addO) (fVar 3) (fC (.int 1))) (fCons (fOp (lift2 subO) (fVar 3) (fC (.int 1))) (fCons (fC (.bool true)) (fCons (fC .none) (fCons (fC (.int 0)) (fCons (fC (.str "1")) (fCons (fLst (fCons (fVar 3) fNil)) fNil)))))))) (fOp (lift2 modO) (fVar 7) (fC (.int 7)))) (fCons (fVar 4) (fCons (fVar 5) fNil))))) fnext) (fseq (fIfS (fB (fOp (lift2 eqO) (fVar 6) (fC (.int 1)))) (fRet (fOp (lift2 ixO) (fLst (fCons (fTup (fCons (fVar 3) (fCons (fVar 4) fNil))) (fCons (fTup (fCons (fVar 3) (fCons (fVar 4) (fCons (fVar 5) (fCons (fC .none) fNil))))) (fCons (fLst (fCons (fVar 3) (fCons (fVar 4) (fCons (fVar 5) fNil)))) (fCons (fC .none) fNil))))) (fOp (lift2 modO) (fVar 7) (fC (.int 4))))) fnext) (fseq (fIfS (fB (fOp (lift2 eqO) (fVar 6) (fC (.int 2)))) (fRet (fTup (fCons (fVar 3) (fCons (fUser F_law_bent_names_v2 (fCons (fVar 4) (fCons (fOp (lift2 ixO) (fVar 0) (fC (.int 2))) (fCons (fVar 7) fNil)))) (fCons (fVar 5) fNil))))) fnext) (fseq (fIfS (fB (fOp (lift2 eqO) (fVar 6) (fC (.int 3)))) (fseq (fSet 8 (fUser F_law_bent_names_v2 (fCons (fVar 4) (fCons (fOp (lift2 ixO) (fVar 0) (fC (.int 2))) (fCons (fOp (lift2 addO) (fOp (lift2 mulO) (fC (.int 8)) (fOp (lift2 fdivO) (fVar 7) (fC (.int 8)))) (fC (.int 1))) fNil))))) (fRet (fTup (fCons (fUser F_law_cost (fCons (fOp (lift2 ixO) (fVar 0) (fC (.int 0))) (fCons (fOp (lift2 ixO) (fVar 0) (fC (.int 1))) (fCons (fVar 8) fNil)))) (fCons (fVar 8) (fCons (fVar 5) fNil)))))) fnext) (fseq (fIfS (fB (fOp (lift2 eqO) (fVar 6) (fC (.int 4)))) (fRet (fTup (fCons (fVar 3) (fCons (fUser F_law_bent_names_v2 (fCons (fVar 4) (fCons (fOp (lift2 ixO) (fVar 0) (fC (.int 2))) (fCons (fVar 7) fNil)))) (fCons (fUser F_law_bent_table (fCons (fVar 5) (fCons (fOp (lift2 fdivO) (fVar 7) (fC (.int 64))) fNil))) fNil))))) fnext) (fRet (fTup (fCons (fVar 3) (fCons (fVar 4) (fCons (fUser F_law_bent_table (fCons (fVar 5) (fCons (fVar 7) fNil))) fNil))))))))))))
def F_law_bent_v5 : List R → Pw → FRes := runF 9 3 p_law_bent_v5
theorem bdd_tab6 {Es : List (List PyData)} {m wd : Nat} (lT : Es.length = m) (hE : ∀ E ∈ Es, E.length = wd ∧ ∀ e ∈ E, cellP e) (m10 : m ≤ 10) (w10 : wd ≤ 10) {k : Nat} : bdd (k + 2) (.list (Es.map .list)) := by
  refine bdd_list.mpr ⟨by rw [List.length_map]; omega, fun d hd => ?_⟩
  obtain ⟨E, hE', rfl⟩ := List.mem_map.mp hd
  obtain ⟨h1, h2⟩ := hE E hE'
  refine bdd_list.mpr ⟨by omega, fun d hd => ?_⟩
  rcases h2 d hd with rfl | ⟨x, rfl⟩ <;> simp
theorem bent61_ok {L : List Int} {f : List (List Int)} {ws : List Int} (h : Fal L f ws) {N : List Int} {Es : List (List PyData)} {m : Nat} {p n : Int} {w : Pw} (N0 : N ≠ []) (hs : ∀ x ∈ N, x ∈ L) (n10 : N.length ≤ 10)
    (lT : Es.length = m) (hE : ∀ E ∈ Es, E.length = L.length ∧ ∀ e ∈ E, cellP e) (m0 : 0 < m) (m10 : m ≤ 10) (hn : 0 ≤ n) (hn2 : n < 1000000000) :
    ∃ d, F_law_bent_v5 [.val (.list [.list (f.map llD), .list (ws.map .int), .list (L.map .int)]), .val (.tuple [.int p, .list (N.map .int), .list (Es.map .list)]), .val (.int (n))] w = .ok (.val d) w ∧ bdd 4 d := by
  have hL := h.rL
  have l10 := hL.2.2.2
  have l0 := hL.2.2.1
  have s1 : leS 1 := size_le (by omega)
  have s2 : leS 2 := size_le (by omega)
  have s3 : leS 3 := size_le (by omega)
  have s4 : leS 4 := size_le (by omega)
  have s7 : leS 7 := size_le (by omega)
  have bN : ∀ {n : Nat}, bdd (n + 1) (.list (N.map .int)) := bdd_ints (by omega)
  have bT : ∀ {n : Nat}, bdd (n + 2) (.list (Es.map .list)) := bdd_tab6 lT hE m10 l10
  have tup3 : ∀ (a b c : PyData), bdd 3 a → bdd 3 b → bdd 3 c → bdd 4 (.tuple [a, b, c]) := fun a b c h1 h2 h3 => bdd_tuple.mpr ⟨by simp, by simp [h1, h2, h3]⟩
  obtain ⟨v, hv⟩ : ∃ v, n % 8 = v := ⟨_, rfl⟩
  obtain ⟨q, hq⟩ : ∃ q, n / 8 = q := ⟨_, rfl⟩
  have q0 : 0 ≤ q := by omega
  have hb := bent_names61 (w := w) (n := q) hL N0 hs n10 q0
  have ht := bent_tab61 (w := w) (n := q) lT hE m0 m10 l0 l10 q0
  have ht2 := bent_tab61 (w := w) (n := q / 64) lT hE m0 m10 l0 l10 (by omega)
  unfold F_law_bent_v5 p_law_bent_v5
  simp only [x_runF]
  by_cases c0 : v = 0
  · subst c0
    obtain ⟨d, ed, hd⟩ := atI_some (xs := [PyData.int (p + 1), .int (p - 1), .bool true, .none, .int 0, .str (Str.ofString "1"), .list [.int p]]) (i := q % 7) (by omega) (by simp; omega)
    refine ⟨.tuple [d, .list (N.map .int), .list (Es.map .list)], ?_, tup3 _ _ _ ?_ bN bT⟩
    · simp -implicitDefEqProofs [hv, hq, s1, s3, s7, ed]
    · simp only [List.mem_cons, List.not_mem_nil, or_false] at hd
      rcases hd with rfl | rfl | rfl | rfl | rfl | rfl | rfl <;> simp
  by_cases c1 : v = 1
  · subst c1
    obtain ⟨d, ed, hd⟩ := atI_some (xs := [PyData.tuple [.int p, .list (N.map .int)], .tuple [.int p, .list (N.map .int), .list (Es.map .list), .none], .list [.int p, .list (N.map .int), .list (Es.map .list)], .none]) (i := q % 4) (by omega) (by simp; omega)
    refine ⟨d, ?_, ?_⟩
    · simp -implicitDefEqProofs [hv, hq, s2, s3, s4, ed]
    · simp only [List.mem_cons, List.not_mem_nil, or_false] at hd
      rcases hd with rfl | rfl | rfl | rfl
      · exact bdd_tuple.mpr ⟨by simp, by simp [bN]⟩
      · exact bdd_tuple.mpr ⟨by simp, by simp [bN, bT]⟩
      · exact bdd_list.mpr ⟨by simp, by simp [bN, bT]⟩
      · simp
  by_cases c2 : v = 2
  · subst c2
    rcases hb with ⟨ds, eb, bb⟩ | ⟨d, eb, bb⟩
    · refine ⟨.tuple [.int p, .list ds, .list (Es.map .list)], ?_, tup3 _ _ _ (by simp) bb bT⟩
      simp -implicitDefEqProofs [hv, hq, s3, eb]
    · refine ⟨.tuple [.int p, d, .list (Es.map .list)], ?_, tup3 _ _ _ (by simp) bb bT⟩
      simp -implicitDefEqProofs [hv, hq, s3, eb]
  by_cases c3 : v = 3
  · subst c3
    obtain ⟨M, e, lM, sM⟩ := bent1 (w := w) (L := L) (N := N) (n := 8 * (q / 8) + 1) hL N0 hs n10 (by omega)
    have M0 : M ≠ [] := by
      rintro rfl
      have := List.length_pos_iff.mpr N0
      simp at lM
      omega
    have lp := lcost_ok (w := w) (f := f) (ws := ws) (N := M) M0 (by omega) (fun r hr => ⟨(h.mm (sM _ (List.head_mem M0)) r hr).1, fun x hx => (h.mm (sM x hx) r hr).2⟩) h.wb
    have hm : mulO (.int 8) (.int (q / 8)) = some (.val (.int (8 * (q / 8)))) := mul_ok (by omega) (by omega) (by omega) (by omega)
    obtain ⟨z, hz⟩ : ∃ z, 8 * (q / 8) = z := ⟨_, rfl⟩
    rw [hz] at hm e
    obtain ⟨c, hc⟩ : ∃ c, payI f ws M = c := ⟨_, rfl⟩
    rw [hc] at lp
    refine ⟨.tuple [.int c, .list (M.map .int), .list (Es.map .list)], ?_, tup3 _ _ _ (by simp) (bdd_ints (by omega)) bT⟩
    simp -implicitDefEqProofs [hv, hq, s3, hm, e, lp]
  by_cases c4 : v = 4
  · subst c4
    rcases hb with ⟨ds, eb, bb⟩ | ⟨d, eb, bb⟩ <;> rcases ht2 with ⟨es, et, bt⟩ | ⟨g, et, bt⟩
    · refine ⟨.tuple [.int p, .list ds, .list es], ?_, tup3 _ _ _ (by simp) bb bt⟩
      simp -implicitDefEqProofs [hv, hq, s3, eb, et]
    · refine ⟨.tuple [.int p, .list ds, g], ?_, tup3 _ _ _ (by simp) bb bt⟩
      simp -implicitDefEqProofs [hv, hq, s3, eb, et]
    · refine ⟨.tuple [.int p, d, .list es], ?_, tup3 _ _ _ (by simp) bb bt⟩
      simp -implicitDefEqProofs [hv, hq, s3, eb, et]
    · refine ⟨.tuple [.int p, d, g], ?_, tup3 _ _ _ (by simp) bb bt⟩
      simp -implicitDefEqProofs [hv, hq, s3, eb, et]
  · rcases ht with ⟨es, et, bt⟩ | ⟨g, et, bt⟩
    · refine ⟨.tuple [.int p, .list (N.map .int), .list es], ?_, tup3 _ _ _ (by simp) bN bt⟩
      simp -implicitDefEqProofs [hv, hq, s3, c0, c1, c2, c3, c4, et]
    · refine ⟨.tuple [.int p, .list (N.map .int), g], ?_, tup3 _ _ _ (by simp) bN bt⟩
      simp -implicitDefEqProofs [hv, hq, s3, c0, c1, c2, c3, c4, et]
theorem few_facts {L : List Int} {f : List (List Int)} {ws : List Int} {m : Nat} (m0 : 0 < m) (hm : m ≤ L.length) :
    (fewN f ws L m).length = m ∧ (∀ x ∈ fewN f ws L m, x ∈ L) ∧ ∃ Es : List (List PyData), tabD f ws L m = Es.map .list ∧ Es.length = m ∧ ∀ E ∈ Es, E.length = L.length ∧ ∀ e ∈ E, cellP e := by
  obtain ⟨q, rfl⟩ : ∃ q, m = q + 1 := ⟨m - 1, by omega⟩
  refine ⟨?_, fun x hx => ?_, (List.range (q + 1)).map fun j => (rowO f ws L j (L.length - j)).map oD, ?_, by simp, fun E hE => ?_⟩
  · unfold fewN
    rw [List.length_map, path_len]
    omega
  · unfold fewN at hx
    obtain ⟨i, hi, rfl⟩ := List.mem_map.mp hx
    obtain ⟨a1, a2⟩ := last_lt (f := f) (ws := ws) (L := L) (j := q) (by omega)
    have := path_lt (f := f) (ws := ws) (L := L) (j := q) (i := lastI f ws L q) a1 i hi
    exact (nth_in (l := L) (k := i) (by omega)).2
  · unfold tabD
    rw [List.map_map]
    rfl
  · obtain ⟨j, hj, rfl⟩ := List.mem_map.mp hE
    have hj : j < q + 1 := by simpa using hj
    refine ⟨?_, fun e he => ?_⟩
    · unfold rowO
      rw [List.length_map, List.length_append, List.length_replicate, List.length_map, List.length_range']
      omega
    · obtain ⟨o, _, rfl⟩ := List.mem_map.mp he
      cases o with
      | none => exact .inl rfl
      | some x => exact .inr ⟨x, rfl⟩

end DL

noncomputable section
namespace DL
open PySem L2
def e_law_k61_1 : M R := fUser F_law_bent_v5 (fCons (fVar 7) (fCons (fVar 8) (fCons (fVar 13) fNil)))
abbrev l_law_k61_1 : M R := fLc (fLstI (fSlice (fVar 1) (fPart (fC (.int 3))) fNoPart)) (bName 13) fYes (e_law_k61_1) [13]
def e_law_k61_2 : M R := fIsi "bool" (fVar 14)
abbrev l_law_k61_2 : M R := fLc (fLstI (fVar 12)) (bName 14) fYes (e_law_k61_2) [14]
def b_law_k61_3 : DSt → Flow := fseq (fSet 10 (fUser F_law_few_wrong (fCons (fVar 7) (fCons (fVar 6) (fCons (fVar 9) fNil))))) (fseq (fSet 11 (fUser (F_law_copied 6) (fCons (fOp (lift2 addO) (fVar 7) (fLst (fCons (fVar 9) fNil))) fNil))) (fseq (fSet 12 (fUser F_few_judged (fCons (fOp (lift2 ixO) (fVar 11) (fC (.int 0))) (fCons (fOp (lift2 ixO) (fVar 11) (fC (.int 1))) (fCons (fOp (lift2 ixO) (fVar 11) (fC (.int 2))) (fCons (fVar 6) (fCons (fOp (lift2 ixO) (fVar 11) (fC (.int 3))) fNil))))))) (fseq (fIfS (fOr (fB (fOp (lift2 neO) (fVar 12) (fVar 10))) (fB (fOp (lift2 neO) (fVar 11) (fOp (lift2 addO) (fVar 7) (fLst (fCons (fVar 9) fNil)))))) (fRet (fC (.bool false))) fnext) (fseq (fIfS (fAnd (fB (fIsN true (fVar 12))) (fNot (fB (fIsi "tuple" (fVar 12))))) (fRet (fC (.bool false))) fnext) (fIfS (fAnd (fB (fIsN true (fVar 12))) (fB (fOp (lift2 inO) (fC (.bool true)) (fLc (fLstI (fVar 12)) (bName 14) fYes (e_law_k61_2) [14])))) (fRet (fC (.bool false))) fnext)))))
abbrev o_law_k61_3 : List PyData → DSt → Flow := loopF (bName 9) b_law_k61_3
def p_law_k61 : DSt → Flow := fseq (fSet 1 (fUser F_law_draws (fCons (fVar 0) (fCons (fC (.int 0)) (fCons (fC (.int 8)) fNil))))) (fseq (fSet 2 (fUser F_law_line_v2 (fCons (fVar 0) (fCons (fC (.int 1)) (fCons (fOp (lift2 ixO) (fLst (fCons (fOp (lift2 addO) (fC (.int 1)) (fOp (lift2 modO) (fOp (lift2 ixO) (fVar 1) (fC (.int 0))) (fC (.int 6)))) (fCons (fC (.int 10)) fNil))) (fCall intO (pCons (fOp (lift2 eqO) (fOp (lift2 modO) (fOp (lift2 fdivO) (fOp (lift2 ixO) (fVar 1) (fC (.int 0))) (fC (.int 64))) (fC (.int 8))) (fC (.int 3))) fNil))) fNil))))) (fseq (fSet 3 (fOp (lift2 ixO) (fLst (fCons (fOp (lift2 addO) (fC (.int 1)) (fOp (lift2 modO) (fOp (lift2 ixO) (fVar 1) (fC (.int 1))) (fC (.int 7)))) (fCons (fC (.int 20)) fNil))) (fCall intO (pCons (fOp (lift2 eqO) (fOp (lift2 modO) (fOp (lift2 fdivO) (fOp (lift2 ixO) (fVar 1) (fC (.int 1))) (fC (.int 64))) (fC (.int 8))) (fC (.int 3))) fNil)))) (fseq (fSet 4 (fUser F_law_folk_v3 (fCons (fVar 0) (fCons (fC (.int 3)) (fCons (fVar 2) (fCons (fVar 3) (fCons (fVar 3) fNil))))))) (fseq (fSet 5 (fUser F_law_weights (fCons (fVar 0) (fCons (fC (.int 2)) (fCons (fVar 3) fNil))))) (fseq (fSet 6 (fOp (lift2 addO) (fC (.int 1)) (fOp (lift2 modO) (fOp (lift2 ixO) (fVar 1) (fC (.int 2))) (fCall lenO (pCons (fVar 2) fNil))))) (fseq (fSet 7 (fLst (fCons (fVar 4) (fCons (fVar 5) (fCons (fVar 2) fNil))))) (fseq (fSet 8 (fUser F_few (fCons (fVar 4) (fCons (fVar 5) (fCons (fVar 2) (fCons (fVar 6) fNil)))))) (fseq (fFor (fLstI (fOp (lift2 addO) (fLst (fCons (fVar 8) fNil)) (fLc (fLstI (fSlice (fVar 1) (fPart (fC (.int 3))) fNoPart)) (bName 13) fYes (e_law_k61_1) [13]))) (bName 9) b_law_k61_3) (fRet (fC (.bool true)))))))))))
def F_law_k61 : List R → Pw → FRes := runF 15 1 p_law_k61
theorem no_true61 {xs : List PyData} : inO (.bool true) (.list (xs.map fun _ => .bool false)) = some (.val (.bool false)) := by
  have h : PyData.depth (.bool true) ≤ 60 := by decide
  unfold inO
  show (if min (PyData.depthAll (xs.map fun _ => PyData.bool false)) (PyData.depth (.bool true)) ≤ 60 then some (R.val (.bool ((xs.map fun _ => PyData.bool false).any fun z => PyData.eqv z (.bool true)))) else none) = _
  rw [if_pos (by omega)]
  simp [PyData.eqv]
theorem law_k61_ok : LawOkS 15 p_law_k61 := by
  intro ns hl
  obtain ⟨ds, e1, l1, dg⟩ := draws_ok (w := none) (j := 0) (m := 8) hl (by omega) (by omega)
  have at' : ∀ i : Nat, i < 8 → ∃ d, ds[i]? = some d ∧ 0 ≤ d ∧ d < 1000000000 := fun i hi => ⟨ds[i]'(by omega), List.getElem?_eq_getElem (by omega), dg _ (List.getElem_mem _)⟩
  obtain ⟨d0, D0, b0⟩ := at' 0 (by omega)
  obtain ⟨d1, D1, b1⟩ := at' 1 (by omega)
  obtain ⟨d2, D2, b2⟩ := at' 2 (by omega)
  obtain ⟨n, en, n1, n10⟩ := two_at (P := d0 / 64 % 8 = 3) (a := (1 + d0 % 6).toNat) (b := 10) (lo := 1) (hi := 10) (by omega) (by omega)
  obtain ⟨hh, eh, h1, h20⟩ := two_at (P := d1 / 64 % 8 = 3) (a := (1 + d1 % 7).toNat) (b := 20) (lo := 1) (hi := 20) (by omega) (by omega)
  rw [show (((1 + d0 % 6).toNat : Nat) : Int) = 1 + d0 % 6 by omega] at en
  rw [show (((1 + d1 % 7).toNat : Nat) : Int) = 1 + d1 % 7 by omega] at eh
  have en : atI [PyData.int (1 + d0 % 6), .int 10] (if d0 / 64 % 8 = 3 then 1 else 0) = some (.int (n : Int)) := en
  have eh : atI [PyData.int (1 + d1 % 7), .int 20] (if d1 / 64 % 8 = 3 then 1 else 0) = some (.int (hh : Int)) := eh
  obtain ⟨L, e2, l2, nL⟩ := line2_ok (w := none) (j := 1) (m := n) hl (by omega) (by omega) (by omega)
  have rL : Rank L := ⟨nL.1, fun x hx => (nL.2 x hx).1, by omega, by omega⟩
  obtain ⟨f, e3, l3, hf⟩ := folk3_ok (w := none) (ns := ns) (L := L) (j := 3) (h := hh) (free := (hh : Int)) hl (by omega) (by omega) (by omega) (by omega)
  obtain ⟨ws, e4, l4, hw⟩ := weights_ok (w := none) (j := 2) (h := hh) hl (by omega) (by omega)
  have F : Folk f := folk_of rL (by omega) (by omega) hf
  have W : Wts f ws := ⟨by omega, fun x hx => (hw x hx).1⟩
  have h : Fal L f ws := ⟨rL, F, W, fun x hx => (hw x hx).2, fun r hr => ⟨(hf r hr).1, by
    obtain ⟨bs, hb, e⟩ := (hf r hr).2 ⟨by omega, by omega⟩
    rw [e]
    exact pick_falls rL.1 bs⟩⟩
  have lp : (0 : Int) < L.length := by omega
  obtain ⟨m, hm⟩ : ∃ m : Nat, 1 + d2 % (L.length : Int) = (m : Int) := ⟨(1 + d2 % (L.length : Int)).toNat, by have := Int.emod_nonneg d2 (by omega : (L.length : Int) ≠ 0); omega⟩
  have md := mod_ok (a := d2) lp
  have m1 : 0 < m ∧ m ≤ L.length := by
    have := Int.emod_nonneg d2 (by omega : (L.length : Int) ≠ 0)
    have := Int.emod_lt_of_pos d2 lp
    omega
  have e6 := few_ok (w := none) h m1.1 m1.2
  obtain ⟨N1, N2, Es, eEs, lEs, hEs⟩ := few_facts (f := f) (ws := ws) m1.1 m1.2
  obtain ⟨N, hN⟩ : ∃ N, fewN f ws L m = N := ⟨_, rfl⟩
  obtain ⟨p, hp⟩ : ∃ p, fewP f ws L m = p := ⟨_, rfl⟩
  unfold fewD at e6
  rw [eEs, hp, hN] at e6
  rw [hN] at N1 N2
  have N0 : N ≠ [] := by
    rintro rfl
    simp at N1
    omega
  obtain ⟨told, htold⟩ : ∃ told, PyData.tuple [.int p, .list (N.map .int), .list (Es.map .list)] = told := ⟨_, rfl⟩
  have btold : bdd 4 told := by
    rw [← htold]
    have bN : bdd 3 (.list (N.map .int)) := bdd_ints (by omega)
    have bT : bdd 3 (.list (Es.map .list)) := bdd_tab6 lEs hEs (by omega) (by omega)
    exact bdd_tuple.mpr ⟨by simp, by simp [bN, bT]⟩
  have hbent : ∀ n ∈ ds, ∃ d, F_law_bent_v5 [.val (.list [.list (f.map llD), .list (ws.map .int), .list (L.map .int)]), .val told, .val (.int (n))] none = .ok (.val d) none ∧ bdd 4 d := fun n hn => by
    rw [← htold]
    exact bent61_ok h N0 N2 (by omega) lEs hEs m1.1 (by omega) (dg n hn).1 (dg n hn).2
  obtain ⟨g, hg⟩ : ∃ g : Int → PyData, ∀ n ∈ ds, F_law_bent_v5 [.val (.list [.list (f.map llD), .list (ws.map .int), .list (L.map .int)]), .val told, .val (.int (n))] none = .ok (.val (g n)) none ∧ bdd 4 (g n) := by
    classical
    exact ⟨fun n => if h : n ∈ ds then (hbent n h).choose else .none, fun n h => by simp only [dif_pos h]; exact (hbent n h).choose_spec⟩
  rw [htold] at e6
  have s1 : leS 1 := size_le (by omega)
  have s2 : leS 2 := size_le (by omega)
  have s3 : leS 3 := size_le (by omega)
  have s4 : leS 4 := size_le (by omega)
  have c1 : cutD (ds.map PyData.int) (some 3) none = (ds.drop 3).map .int := by rw [cutD_map]; exact congrArg _ (cut_from (k := 3))
  have mD : ∀ x ∈ ds.drop 3, x ∈ ds := fun x hx => List.mem_of_mem_drop hx
  have lD : (ds.drop 3).length = 5 := by rw [List.length_drop]; omega
  obtain ⟨Ds, hDs⟩ : ∃ Ds, ds.drop 3 = Ds := ⟨_, rfl⟩
  rw [hDs] at c1 mD lD
  obtain ⟨out, s9, ec, h9⟩ := lc_s (fi := fLstI (fSlice (fVar 1) (fPart (fC (.int 3))) fNoPart)) (b := bName 13) (ft := fYes) (fe := e_law_k61_1) (vs := [13]) (f := PyData.int) (l := Ds)
    (s := ⟨[.ob (.scr ns), .own (ds.map .int), .val (.list ((L).map .int)), .val (.int ((hh : Nat) : Int)), .val (.list ((f).map llD)), .val (.list ((ws).map .int)), .val (.int ((m : Nat) : Int)), .own [.list (f.map llD), .list (ws.map .int), .list (L.map .int)], .val told, .no, .no, .no, .no, .no, .no], none⟩)
    (s0 := ⟨[.ob (.scr ns), .own (ds.map .int), .val (.list ((L).map .int)), .val (.int ((hh : Nat) : Int)), .val (.list ((f).map llD)), .val (.list ((ws).map .int)), .val (.int ((m : Nat) : Int)), .own [.list (f.map llD), .list (ws.map .int), .list (L.map .int)], .val told, .no, .no, .no, .no, .no, .no], none⟩)
    (fun j acc s => acc = (Ds.take j).map g ∧ s = ⟨[.ob (.scr ns), .own (ds.map .int), .val (.list ((L).map .int)), .val (.int ((hh : Nat) : Int)), .val (.list ((f).map llD)), .val (.list ((ws).map .int)), .val (.int ((m : Nat) : Int)), if j = 0 then .own [.list (f.map llD), .list (ws.map .int), .list (L.map .int)] else .val (.list [.list (f.map llD), .list (ws.map .int), .list (L.map .int)]), .val told, .no, .no, .no, .no, .no, .no], none⟩)
    (by simp -implicitDefEqProofs [c1]) (by omega) ⟨rfl, rfl⟩ (by
      rintro j a hj acc s ⟨rfl, rfl⟩
      have ha := mD a (List.mem_of_getElem? hj)
      have hgg := (hg a ha).1
      by_cases j0 : j = 0
      · subst j0
        refine ⟨rfl, ⟨[.ob (.scr ns), .own (ds.map .int), .val (.list ((L).map .int)), .val (.int ((hh : Nat) : Int)), .val (.list ((f).map llD)), .val (.list ((ws).map .int)), .val (.int ((m : Nat) : Int)), .own [.list (f.map llD), .list (ws.map .int), .list (L.map .int)], .val told, .no, .no, .no, .no, .val (.int (a)), .no], none⟩, rfl, true, _, rfl, (fun z => by cases z), fun _ => ⟨g a, ⟨[.ob (.scr ns), .own (ds.map .int), .val (.list ((L).map .int)), .val (.int ((hh : Nat) : Int)), .val (.list ((f).map llD)), .val (.list ((ws).map .int)), .val (.int ((m : Nat) : Int)), .val (.list [.list (f.map llD), .list (ws.map .int), .list (L.map .int)]), .val told, .no, .no, .no, .no, .val (.int (a)), .no], none⟩, ?_, ?_, ?_⟩⟩
        · unfold e_law_k61_1
          simp -implicitDefEqProofs [hgg]
        · rw [take_succ hj, List.map_append]; rfl
        · rfl
      · simp only [if_neg j0]
        refine ⟨rfl, ⟨[.ob (.scr ns), .own (ds.map .int), .val (.list ((L).map .int)), .val (.int ((hh : Nat) : Int)), .val (.list ((f).map llD)), .val (.list ((ws).map .int)), .val (.int ((m : Nat) : Int)), .val (.list [.list (f.map llD), .list (ws.map .int), .list (L.map .int)]), .val told, .no, .no, .no, .no, .val (.int (a)), .no], none⟩, rfl, true, _, rfl, (fun z => by cases z), fun _ => ⟨g a, ⟨[.ob (.scr ns), .own (ds.map .int), .val (.list ((L).map .int)), .val (.int ((hh : Nat) : Int)), .val (.list ((f).map llD)), .val (.list ((ws).map .int)), .val (.int ((m : Nat) : Int)), .val (.list [.list (f.map llD), .list (ws.map .int), .list (L.map .int)]), .val told, .no, .no, .no, .no, .val (.int (a)), .no], none⟩, ?_, ?_, ?_⟩⟩
        · unfold e_law_k61_1
          simp -implicitDefEqProofs [hgg]
        · rw [take_succ hj, List.map_append]; rfl
        · rfl)
  obtain ⟨rfl, rfl⟩ := h9
  rw [List.take_length, lD, if_neg (by omega)] at ec
  have bP : ∀ d ∈ told :: Ds.map g, bdd 4 d := fun d hd => by
    rcases List.mem_cons.mp hd with rfl | hd
    · exact btold
    · obtain ⟨n, hn, rfl⟩ := List.mem_map.mp hd
      exact (hg n (mD n hn)).2
  obtain ⟨P, hP⟩ : ∃ P, told :: Ds.map g = P := ⟨_, rfl⟩
  have lP : P.length = 6 := by rw [← hP]; simp [lD]
  rw [hP] at bP
  obtain ⟨s', e9, v9, v10, v11, v12, rfl⟩ := loopN (b := bName 9) (p := b_law_k61_3) (f := id) (l := P) (s := ⟨[.ob (.scr ns), .own (ds.map .int), .val (.list ((L).map .int)), .val (.int ((hh : Nat) : Int)), .val (.list ((f).map llD)), .val (.list ((ws).map .int)), .val (.int ((m : Nat) : Int)), .val (.list [.list (f.map llD), .list (ws.map .int), .list (L.map .int)]), .val told, .no, .no, .no, .no, .no, .no], none⟩)
    (fun i s => ∃ v9 v10 v11 v12, s = ⟨[.ob (.scr ns), .own (ds.map .int), .val (.list ((L).map .int)), .val (.int ((hh : Nat) : Int)), .val (.list ((f).map llD)), .val (.list ((ws).map .int)), .val (.int ((m : Nat) : Int)), .val (.list [.list (f.map llD), .list (ws.map .int), .list (L.map .int)]), .val told, v9, v10, v11, v12, .no, .no], none⟩) ⟨_, _, _, _, rfl⟩ (by
      rintro i d s hi hd ⟨v9, v10, v11, v12, rfl⟩
      have bd := bP d hd
      obtain ⟨V, hV, q1, q2⟩ := few_both h m1.1 m1.2 bd
      have q1 := q1 none
      have q2 := q2 none
      have bH : bdd 5 (.list [.list (f.map llD), .list (ws.map .int), .list (L.map .int), d]) := bdd_list.mpr ⟨by simp, by
        intro y hy
        simp only [List.mem_cons, List.not_mem_nil, or_false] at hy
        rcases hy with rfl | rfl | rfl | rfl
        · exact bdd_folk (by omega) fun r hr => by have := (hf r hr).1.length_eq; omega
        · exact bdd_ints (by omega)
        · exact bdd_ints (by omega)
        · exact bd⟩
      have q3 := copied_ok (w := none) (m := 6) bH (by omega)
      have hne := neO_self bH (by omega)
      have bJ : bdd 1 V := by
        rcases hV with rfl | ⟨xs, rfl, hxl, hxs⟩
        · simp
        · exact bdd_tuple.mpr ⟨by omega, fun y hy => by rcases hxs y hy with ⟨s, rfl⟩ | ⟨i, rfl⟩ <;> simp⟩
      have neJ := neO_self bJ (by omega)
      unfold b_law_k61_3
      rcases hV with rfl | ⟨xs, rfl, hxl, hxs⟩
      · simp -implicitDefEqProofs [q1, q2, q3, cpR', neJ, s1, s4, hne]
      · have el : l_law_k61_2 ⟨[.ob (.scr ns), .own (ds.map .int), .val (.list ((L).map .int)), .val (.int ((hh : Nat) : Int)), .val (.list ((f).map llD)), .val (.list ((ws).map .int)), .val (.int ((m : Nat) : Int)), .val (.list [.list (f.map llD), .list (ws.map .int), .list (L.map .int)]), .val told, .val d, .val (.tuple xs), .own [.list (f.map llD), .list (ws.map .int), .list (L.map .int), d], .val (.tuple xs), .no, .no], none⟩ = .ok (.new (xs.map fun _ => .bool false)) ⟨[.ob (.scr ns), .own (ds.map .int), .val (.list ((L).map .int)), .val (.int ((hh : Nat) : Int)), .val (.list ((f).map llD)), .val (.list ((ws).map .int)), .val (.int ((m : Nat) : Int)), .val (.list [.list (f.map llD), .list (ws.map .int), .list (L.map .int)]), .val told, .val d, .val (.tuple xs), .own [.list (f.map llD), .list (ws.map .int), .list (L.map .int), d], .val (.tuple xs), .no, .no], none⟩ := by
          refine lc_all (fun x : PyData => ⟨[.ob (.scr ns), .own (ds.map .int), .val (.list ((L).map .int)), .val (.int ((hh : Nat) : Int)), .val (.list ((f).map llD)), .val (.list ((ws).map .int)), .val (.int ((m : Nat) : Int)), .val (.list [.list (f.map llD), .list (ws.map .int), .list (L.map .int)]), .val told, .val d, .val (.tuple xs), .own [.list (f.map llD), .list (ws.map .int), .list (L.map .int), d], .val (.tuple xs), .no, .val x], none⟩) (fun _ => .bool false) (f := id) (l := xs) (by simp -implicitDefEqProofs) (by omega) rfl (fun a _ => by rfl) (fun a _ => by rfl) (fun x hx => ?_)
          unfold e_law_k61_2
          rcases hxs x hx with ⟨s, rfl⟩ | ⟨i, rfl⟩ <;> simp -implicitDefEqProofs
        simp -implicitDefEqProofs [q1, q2, q3, cpR', neJ, s1, s4, hne, el, no_true61])
  rw [List.map_id] at e9
  have e1 : F_law_draws [.ob (.scr ns), .val (.int (0)), .val (.int (8))] none = _ := e1
  have e2 : F_law_line_v2 [.ob (.scr ns), .val (.int (1)), .val (.int ((n : Nat) : Int))] none = _ := e2
  have e3 : F_law_folk_v3 [.ob (.scr ns), .val (.int (3)), .val (.list ((L).map .int)), .val (.int ((hh : Nat) : Int)), .val (.int ((hh : Nat) : Int))] none = _ := e3
  have e4 : F_law_weights [.ob (.scr ns), .val (.int (2)), .val (.int ((hh : Nat) : Int))] none = _ := e4
  have lP' : (Ds.map g).length = 5 := by rw [List.length_map]; exact lD
  obtain ⟨Q, hQ⟩ : ∃ Q, Ds.map g = Q := ⟨_, rfl⟩
  rw [hQ] at ec hP lP'
  have s8 : leS (1 + Q.length) := size_le (by omega)
  have s8' : leS (Q.length + 1) := size_le (by omega)
  have ec : l_law_k61_1 ⟨[.ob (.scr ns), .own (ds.map .int), .val (.list ((L).map .int)), .val (.int ((hh : Nat) : Int)), .val (.list ((f).map llD)), .val (.list ((ws).map .int)), .val (.int ((m : Nat) : Int)), .own [.list (f.map llD), .list (ws.map .int), .list (L.map .int)], .val told, .no, .no, .no, .no, .no, .no], none⟩ = _ := ec
  unfold p_law_k61
  simp -implicitDefEqProofs [e1, D0, D1, D2, en, eh, s2, s3, e2, e3, e4, md, hm, e6, ec, s1, s8, s8', hP, e9]

end DL

noncomputable section
namespace DL
open PySem L2 PyProof.Rows
open Evl (Ex)
namespace K61
def top (i : Nat) : Stmt := PySem.Challenge.pw_ontheline_k61_few_names_judged.main.body.getD i (.Pass ⟨0, 0, 0, 0⟩)
structure Txt (K : PySem.W.Frag) (mg : Str → Option Value) : Prop where
  b_isinstance : mg "isinstance" = none
  b_int : mg "int" = none
  b_bool : mg "bool" = none
  b_len : mg "len" = none
  b_list : mg "list" = none
  b_all : mg "all" = none
  b_set : mg "set" = none
  b_sorted : mg "sorted" = none
  b_min : mg "min" = none
  b_max : mg "max" = none
  b_enumerate : mg "enumerate" = none
  b_zip : mg "zip" = none
  b_range : mg "range" = none
  b_tuple : mg "tuple" = none
  exc : ExFs K mg ["NoFit", "NoFolk", "NoLine", "NoNumber", "NoWeights"]
  c_MOST_NAMES : ∃ t, mg "MOST_NAMES" = some (.int 10 t)
  c_MOST_HANDS : ∃ t, mg "MOST_HANDS" = some (.int 20 t)
  d_is_number : Wr K mg "is_number" (top 11) ["thing"]
  d_are_unlike_names : Wr K mg "are_unlike_names" (top 12) ["thing"]
  d_is_ranking : Wr K mg "is_ranking" (top 13) ["thing"]
  d_is_folk : Wr K mg "is_folk" (top 14) ["thing"]
  d_must_be_folk : Wr K mg "must_be_folk" (top 15) ["folk"]
  d_is_line : Wr K mg "is_line" (top 17) ["thing"]
  d_must_be_line : Wr K mg "must_be_line" (top 18) ["line"]
  d_does_fall : Wr K mg "does_fall" (top 19) ["line", "ranking"]
  d_must_be_weighed : Wr K mg "must_be_weighed" (top 21) ["folk", "weights"]
  d_must_fall : Wr K mg "must_fall" (top 22) ["folk", "line"]
  d_paid : Wr K mg "paid" (top 24) ["folk", "weights", "names"]
  d_gain : Wr K mg "gain" (top 25) ["folk", "weights", "one", "other"]
  d_bounds : Wr K mg "bounds" (top 26) ["folk", "weights", "line", "ahead_of", "j", "at"]
  d_filled : Wr K mg "filled" (top 27) ["folk", "weights", "line", "many"]
  d_must_be_asked : Wr K mg "must_be_asked" (top 28) ["folk", "weights", "line", "many"]
  d_last_of : Wr K mg "last_of" (top 29) ["row"]
  d_few : Wr K mg "few" (top 30) ["folk", "weights", "line", "many"]
  d_are_along : Wr K mg "are_along" (top 31) ["line", "many", "thing"]
  d_is_row : Wr K mg "is_row" (top 32) ["j", "wide", "thing"]
  d_is_table : Wr K mg "is_table" (top 33) ["many", "wide", "thing"]
  d_table_wrong : Wr K mg "table_wrong" (top 34) ["folk", "weights", "line", "price", "table"]
  d_few_judged : Wr K mg "few_judged" (top 35) ["folk", "weights", "line", "many", "thing"]
  d__law_whole : Wr K mg "_law_whole" (top 37) ["_law_found"]
  d__law_draws : Wr K mg "_law_draws" (top 38) ["_law_script", "_law_j", "_law_many"]
  d__law_names : Wr K mg "_law_names" (top 39) ["_law_digits"]
  d__law_shuffled : Wr K mg "_law_shuffled" (top 40) ["_law_names_here", "_law_digits"]
  d__law_fallen : Wr K mg "_law_fallen" (top 41) ["_law_line_here", "_law_digits"]
  d__law_line : Wr K mg "_law_line" (top 42) ["_law_script", "_law_j", "_law_many"]
  d__law_folk : Wr K mg "_law_folk" (top 43) ["_law_script", "_law_j", "_law_line_here", "_law_hands", "_law_free"]
  d__law_weights : Wr K mg "_law_weights" (top 44) ["_law_script", "_law_j", "_law_hands"]
  d__law_are_names : Wr K mg "_law_are_names" (top 45) ["_law_names_here", "_law_thing"]
  d__law_cost : Wr K mg "_law_cost" (top 46) ["_law_folk_here", "_law_weights_here", "_law_names_here"]
  d__law_gain : Wr K mg "_law_gain" (top 47) ["_law_folk_here", "_law_weights_here", "_law_one", "_law_other"]
  d__law_bounds : Wr K mg "_law_bounds" (top 48) ["_law_things", "_law_ahead_of", "_law_j", "_law_at"]
  d__law_is_few_table : Wr K mg "_law_is_few_table" (top 49) ["_law_many", "_law_wide", "_law_table"]
  d__law_few_wrong : Wr K mg "_law_few_wrong" (top 50) ["_law_things", "_law_many", "_law_thing"]
  d__law_copied : Wr K mg "_law_copied" (top 51) ["_law_thing"]
  d__law_bent_table : Wr K mg "_law_bent_table" (top 53) ["_law_table", "_law_number"]
  d__law_bent : Wr K mg "_law_bent" (top 54) ["_law_things", "_law_told", "_law_number"]
section
variable {P : Program} {w : World} {K : PySem.W.Frag} {mg : Str → Option Value} {base : Heap} {cl : String → Addr}
abbrev N_is_number : List Str := ["thing"]
theorem sc_is_number : FnScope N_is_number ["thing"] (defScope (top 11)) := ⟨rfl, rfl, rfl, by decide +kernel, rfl, by decide +kernel, by decide +kernel⟩
theorem w_is_number (T : Txt K mg) : Cal P w K mg base (clOf K) "is_number" 1 ["thing"] F_is_number := by
  have sc := sc_is_number
  refine cal_of T.d_is_number sc (by decide) fun f cdv A outer s H E hr => ?_
  have tk : Takes (cxOf (L2.CX P w) P w K mg base N_is_number "is_number" (defScope (top 11)) f cdv A outer s H E) (fun cls d _ H => E cls d H) := takes_of rfl rfl rfl rfl
  exact ss_one (s_ret (v_and (d_isi (m := "int") (by decide) rfl T.b_isinstance (d_var 0) (pe_bltn rfl T.b_int (by decide +kernel) rfl)) (v_one (v_not (d_isi (m := "bool") (by decide) rfl T.b_isinstance (d_var 0) (pe_bltn rfl T.b_bool (by decide +kernel) rfl))))))
abbrev N_are_unlike_names : List Str := ["thing", "name"]
theorem sc_are_unlike_names : FnScope N_are_unlike_names ["thing"] (defScope (top 12)) := ⟨rfl, rfl, rfl, by decide +kernel, rfl, by decide +kernel, by decide +kernel⟩
theorem w_are_unlike_names (T : Txt K mg)
    (c_is_number : Cal P w K mg base (clOf K) "is_number" 1 ["thing"] F_is_number) : Cal P w K mg base (clOf K) "are_unlike_names" 2 ["thing"] F_are_unlike_names := by
  have sc := sc_are_unlike_names
  refine cal_of T.d_are_unlike_names sc (by decide) fun f cdv A outer s H E hr => ?_
  have tk : Takes (cxOf (L2.CX P w) P w K mg base N_are_unlike_names "are_unlike_names" (defScope (top 12)) f cdv A outer s H E) (fun cls d _ H => E cls d H) := takes_of rfl rfl rfl rfl
  exact ss_cons (s_if (d_tw (w_or (d_tnot (d_tval (d_isi (m := "list") (by decide) rfl T.b_isinstance (d_var 0) (pe_bltn rfl T.b_list (by decide +kernel) rfl)))) (w_or1 (d_tnot (d_tval (d_callB (cr_all rfl) cd_all rfl T.b_all (by decide +kernel) (ap_cons (d_lc rfl sc.nd (own := [("name", 1)]) (i_list (d_var 0)) (blkOk_by (own := [("name", 1)]) (N := N_are_unlike_names) (sc := defScope (top 12)) (by decide +kernel)) (g_name 1) (by decide) (fun _ _ _ _ _ => pg_name (i := 1) sc.nd rfl (by first | exact Or.inl rfl | exact Or.inr rfl)) (fun _ _ _ _ _ => dts_nil) (fun _ _ _ _ _ => v_and (d_cal c_is_number (hr.mono (by decide)) passA0 (ae_cons (d_var 1) ae_nil)) (v_one (d_ge (d_var 1) d_int)))) ap_nil))))))) (ss_one (s_ret d_bl)) ss_nil) (ss_one (s_ret (d_eq hr.units (d_lenSet rfl rfl T.b_len rfl T.b_set (d_var 0)) (d_callB (CallR.or' call_len_seq call_len_str) cd_len rfl T.b_len (by decide +kernel) (ap_cons (d_var 0) ap_nil)))))
abbrev N_is_ranking : List Str := ["thing"]
theorem sc_is_ranking : FnScope N_is_ranking ["thing"] (defScope (top 13)) := ⟨rfl, rfl, rfl, by decide +kernel, rfl, by decide +kernel, by decide +kernel⟩
theorem w_is_ranking (T : Txt K mg)
    (c_are_unlike_names : Cal P w K mg base (clOf K) "are_unlike_names" 2 ["thing"] F_are_unlike_names) : Cal P w K mg base (clOf K) "is_ranking" 3 ["thing"] F_is_ranking := by
  obtain ⟨t_MOST_NAMES, k_MOST_NAMES⟩ := T.c_MOST_NAMES
  have sc := sc_is_ranking
  refine cal_of T.d_is_ranking sc (by decide) fun f cdv A outer s H E hr => ?_
  have tk : Takes (cxOf (L2.CX P w) P w K mg base N_is_ranking "is_ranking" (defScope (top 13)) f cdv A outer s H E) (fun cls d _ H => E cls d H) := takes_of rfl rfl rfl rfl
  exact ss_one (s_ret (v_and (d_cal c_are_unlike_names (hr.mono (by decide)) (passAt tk) (ae_cons (d_var 0) ae_nil)) (v_and (d_gt (d_callB (CallR.or' call_len_seq call_len_str) cd_len rfl T.b_len (by decide +kernel) (ap_cons (d_var 0) ap_nil)) d_int) (v_one (d_le (d_callB (CallR.or' call_len_seq call_len_str) cd_len rfl T.b_len (by decide +kernel) (ap_cons (d_var 0) ap_nil)) (d_globI rfl k_MOST_NAMES))))))
abbrev N_is_folk : List Str := ["thing", "ranking"]
theorem sc_is_folk : FnScope N_is_folk ["thing"] (defScope (top 14)) := ⟨rfl, rfl, rfl, by decide +kernel, rfl, by decide +kernel, by decide +kernel⟩
theorem w_is_folk (T : Txt K mg)
    (c_is_ranking : Cal P w K mg base (clOf K) "is_ranking" 3 ["thing"] F_is_ranking) : Cal P w K mg base (clOf K) "is_folk" 4 ["thing"] F_is_folk := by
  obtain ⟨t_MOST_HANDS, k_MOST_HANDS⟩ := T.c_MOST_HANDS
  have sc := sc_is_folk
  refine cal_of T.d_is_folk sc (by decide) fun f cdv A outer s H E hr => ?_
  have tk : Takes (cxOf (L2.CX P w) P w K mg base N_is_folk "is_folk" (defScope (top 14)) f cdv A outer s H E) (fun cls d _ H => E cls d H) := takes_of rfl rfl rfl rfl
  exact ss_cons (s_if (d_tw (w_or (d_tnot (d_tval (d_isi (m := "list") (by decide) rfl T.b_isinstance (d_var 0) (pe_bltn rfl T.b_list (by decide +kernel) rfl)))) (w_or (t_lt (d_callB (CallR.or' call_len_seq call_len_str) cd_len rfl T.b_len (by decide +kernel) (ap_cons (d_var 0) ap_nil)) d_int) (w_or1 (t_gt (d_callB (CallR.or' call_len_seq call_len_str) cd_len rfl T.b_len (by decide +kernel) (ap_cons (d_var 0) ap_nil)) (d_globI rfl k_MOST_HANDS)))))) (ss_one (s_ret d_bl)) ss_nil) (ss_cons (s_if (d_tnot (d_tval (d_callB (cr_all rfl) cd_all rfl T.b_all (by decide +kernel) (ap_cons (d_lc rfl sc.nd (own := [("ranking", 1)]) (i_list (d_var 0)) (blkOk_by (own := [("ranking", 1)]) (N := N_is_folk) (sc := defScope (top 14)) (by decide +kernel)) (g_name 1) (by decide) (fun _ _ _ _ _ => pg_name (i := 1) sc.nd rfl (by first | exact Or.inl rfl | exact Or.inr rfl)) (fun _ _ _ _ _ => dts_nil) (fun _ _ _ _ _ => d_cal c_is_ranking (hr.mono (by decide)) passA0 (ae_cons (d_var 1) ae_nil))) ap_nil)))) (ss_one (s_ret d_bl)) ss_nil) (ss_one (s_ret (d_callB (cr_all rfl) cd_all rfl T.b_all (by decide +kernel) (ap_cons (d_lc rfl sc.nd (own := [("ranking", 1)]) (i_list (d_var 0)) (blkOk_by (own := [("ranking", 1)]) (N := N_is_folk) (sc := defScope (top 14)) (by decide +kernel)) (g_name 1) (by decide) (fun _ _ _ _ _ => pg_name (i := 1) sc.nd rfl (by first | exact Or.inl rfl | exact Or.inr rfl)) (fun _ _ _ _ _ => dts_nil) (fun _ _ _ _ _ => d_eq hr.units (d_callB (CallR.or' cr_sortedI (cr_sortedD hr.units)) cd_sorted rfl T.b_sorted (by decide +kernel) (ap_cons (d_var 1) ap_nil)) (d_callB (CallR.or' cr_sortedI (cr_sortedD hr.units)) cd_sorted rfl T.b_sorted (by decide +kernel) (ap_cons (d_ix (d_var 0) d_int (fun _ _ => rfl)) ap_nil)))) ap_nil)))))
abbrev N_must_be_folk : List Str := ["folk"]
theorem sc_must_be_folk : FnScope N_must_be_folk ["folk"] (defScope (top 15)) := ⟨rfl, rfl, rfl, by decide +kernel, rfl, by decide +kernel, by decide +kernel⟩
theorem w_must_be_folk (T : Txt K mg)
    (c_is_folk : Cal P w K mg base (clOf K) "is_folk" 4 ["thing"] F_is_folk) : Cal P w K mg base (clOf K) "must_be_folk" 5 ["folk"] F_must_be_folk := by
  have sc := sc_must_be_folk
  refine cal_of T.d_must_be_folk sc (by decide) fun f cdv A outer s H E hr => ?_
  have tk : Takes (cxOf (L2.CX P w) P w K mg base N_must_be_folk "must_be_folk" (defScope (top 15)) f cdv A outer s H E) (fun cls d _ H => E cls d H) := takes_of rfl rfl rfl rfl
  exact ss_one (s_if (d_tnot (d_tval (d_cal c_is_folk (hr.mono (by decide)) (passAt tk) (ae_cons (d_var 0) ae_nil)))) (ss_one (s_raise (n := "NoFolk") rfl tk rfl (T.exc.each "NoFolk" (by decide)).x (T.exc.each "NoFolk" (by decide)).g (T.exc.each "NoFolk" (by decide)).kp (T.exc.each "NoFolk" (by decide)).b (T.exc.each "NoFolk" (by decide)).ty rfl)) ss_nil)
abbrev N_is_line : List Str := ["thing"]
theorem sc_is_line : FnScope N_is_line ["thing"] (defScope (top 17)) := ⟨rfl, rfl, rfl, by decide +kernel, rfl, by decide +kernel, by decide +kernel⟩
theorem w_is_line (T : Txt K mg)
    (c_is_ranking : Cal P w K mg base (clOf K) "is_ranking" 3 ["thing"] F_is_ranking) : Cal P w K mg base (clOf K) "is_line" 4 ["thing"] F_is_line := by
  have sc := sc_is_line
  refine cal_of T.d_is_line sc (by decide) fun f cdv A outer s H E hr => ?_
  have tk : Takes (cxOf (L2.CX P w) P w K mg base N_is_line "is_line" (defScope (top 17)) f cdv A outer s H E) (fun cls d _ H => E cls d H) := takes_of rfl rfl rfl rfl
  exact ss_one (s_ret (d_cal c_is_ranking (hr.mono (by decide)) (passAt tk) (ae_cons (d_var 0) ae_nil)))
abbrev N_must_be_line : List Str := ["line"]
theorem sc_must_be_line : FnScope N_must_be_line ["line"] (defScope (top 18)) := ⟨rfl, rfl, rfl, by decide +kernel, rfl, by decide +kernel, by decide +kernel⟩
theorem w_must_be_line (T : Txt K mg)
    (c_is_line : Cal P w K mg base (clOf K) "is_line" 4 ["thing"] F_is_line) : Cal P w K mg base (clOf K) "must_be_line" 5 ["line"] F_must_be_line := by
  have sc := sc_must_be_line
  refine cal_of T.d_must_be_line sc (by decide) fun f cdv A outer s H E hr => ?_
  have tk : Takes (cxOf (L2.CX P w) P w K mg base N_must_be_line "must_be_line" (defScope (top 18)) f cdv A outer s H E) (fun cls d _ H => E cls d H) := takes_of rfl rfl rfl rfl
  exact ss_one (s_if (d_tnot (d_tval (d_cal c_is_line (hr.mono (by decide)) (passAt tk) (ae_cons (d_var 0) ae_nil)))) (ss_one (s_raise (n := "NoLine") rfl tk rfl (T.exc.each "NoLine" (by decide)).x (T.exc.each "NoLine" (by decide)).g (T.exc.each "NoLine" (by decide)).kp (T.exc.each "NoLine" (by decide)).b (T.exc.each "NoLine" (by decide)).ty rfl)) ss_nil)
abbrev N_does_fall : List Str := ["line", "ranking", "low", "high", "name", "at"]
theorem sc_does_fall : FnScope N_does_fall ["line", "ranking"] (defScope (top 19)) := ⟨rfl, rfl, rfl, by decide +kernel, rfl, by decide +kernel, by decide +kernel⟩
theorem w_does_fall (T : Txt K mg) : Cal P w K mg base (clOf K) "does_fall" 1 ["line", "ranking"] F_does_fall := by
  have sc := sc_does_fall
  refine cal_of T.d_does_fall sc (by decide) fun f cdv A outer s H E hr => ?_
  have tk : Takes (cxOf (L2.CX P w) P w K mg base N_does_fall "does_fall" (defScope (top 19)) f cdv A outer s H E) (fun cls d _ H => E cls d H) := takes_of rfl rfl rfl rfl
  exact ss_cons (s_set (i := 2) sc.nd rfl (by first | exact Or.inl rfl | exact Or.inr rfl) (d_index (d_var 0) (d_ix (d_var 1) d_int (fun _ _ => rfl)))) (ss_cons (s_set (i := 3) sc.nd rfl (by first | exact Or.inl rfl | exact Or.inr rfl) (d_var 2)) (ss_cons (s_for (passes_of rfl) rfl (i_list (d_slice (d_var 1) (dp_some d_int) dp_none)) (pg_name (i := 4) sc.nd rfl (by first | exact Or.inl rfl | exact Or.inr rfl)) (g_name 4) (ss_cons (s_set (i := 5) sc.nd rfl (by first | exact Or.inl rfl | exact Or.inr rfl) (d_index (d_var 0) (d_var 4))) (ss_cons (s_if (d_tw (w_and (t_ne hr.units (d_var 5) (d_sub (d_var 2) d_int)) (w_and1 (t_ne hr.units (d_var 5) (d_add (d_var 3) d_int))))) (ss_one (s_ret d_bl)) ss_nil) (ss_cons (s_set (i := 2) sc.nd rfl (by first | exact Or.inl rfl | exact Or.inr rfl) (d_callB (CallR.or' (cr_min rfl) (call_min2 rfl)) cd_min rfl T.b_min (by decide +kernel) (ap_cons (d_var 2) (ap_cons (d_var 5) ap_nil)))) (ss_one (s_set (i := 3) sc.nd rfl (by first | exact Or.inl rfl | exact Or.inr rfl) (d_callB (CallR.or' (cr_max rfl) (call_max2 rfl)) cd_max rfl T.b_max (by decide +kernel) (ap_cons (d_var 3) (ap_cons (d_var 5) ap_nil))))))))) (ss_one (s_ret d_bl))))
abbrev N_must_be_weighed : List Str := ["folk", "weights", "weight"]
theorem sc_must_be_weighed : FnScope N_must_be_weighed ["folk", "weights"] (defScope (top 21)) := ⟨rfl, rfl, rfl, by decide +kernel, rfl, by decide +kernel, by decide +kernel⟩
theorem w_must_be_weighed (T : Txt K mg)
    (c_is_number : Cal P w K mg base (clOf K) "is_number" 1 ["thing"] F_is_number)
    (c_must_be_folk : Cal P w K mg base (clOf K) "must_be_folk" 5 ["folk"] F_must_be_folk) : Cal P w K mg base (clOf K) "must_be_weighed" 6 ["folk", "weights"] F_must_be_weighed := by
  have sc := sc_must_be_weighed
  refine cal_of T.d_must_be_weighed sc (by decide) fun f cdv A outer s H E hr => ?_
  have tk : Takes (cxOf (L2.CX P w) P w K mg base N_must_be_weighed "must_be_weighed" (defScope (top 21)) f cdv A outer s H E) (fun cls d _ H => E cls d H) := takes_of rfl rfl rfl rfl
  exact ss_cons (s_expr (d_cal c_must_be_folk (hr.mono (by decide)) (passAt tk) (ae_cons (d_var 0) ae_nil))) (ss_cons (s_if (d_tw (w_or (d_tnot (d_tval (d_isi (m := "list") (by decide) rfl T.b_isinstance (d_var 1) (pe_bltn rfl T.b_list (by decide +kernel) rfl)))) (w_or1 (t_ne hr.units (d_callB (CallR.or' call_len_seq call_len_str) cd_len rfl T.b_len (by decide +kernel) (ap_cons (d_var 1) ap_nil)) (d_callB (CallR.or' call_len_seq call_len_str) cd_len rfl T.b_len (by decide +kernel) (ap_cons (d_var 0) ap_nil)))))) (ss_one (s_raise (n := "NoWeights") rfl tk rfl (T.exc.each "NoWeights" (by decide)).x (T.exc.each "NoWeights" (by decide)).g (T.exc.each "NoWeights" (by decide)).kp (T.exc.each "NoWeights" (by decide)).b (T.exc.each "NoWeights" (by decide)).ty rfl)) ss_nil) (ss_one (s_if (d_tnot (d_tval (d_callB (cr_all rfl) cd_all rfl T.b_all (by decide +kernel) (ap_cons (d_lc rfl sc.nd (own := [("weight", 2)]) (i_list (d_var 1)) (blkOk_by (own := [("weight", 2)]) (N := N_must_be_weighed) (sc := defScope (top 21)) (by decide +kernel)) (g_name 2) (by decide) (fun _ _ _ _ _ => pg_name (i := 2) sc.nd rfl (by first | exact Or.inl rfl | exact Or.inr rfl)) (fun _ _ _ _ _ => dts_nil) (fun _ _ _ _ _ => v_and (d_cal c_is_number (hr.mono (by decide)) passA0 (ae_cons (d_var 2) ae_nil)) (v_one (d_ge (d_var 2) d_int)))) ap_nil)))) (ss_one (s_raise (n := "NoWeights") rfl tk rfl (T.exc.each "NoWeights" (by decide)).x (T.exc.each "NoWeights" (by decide)).g (T.exc.each "NoWeights" (by decide)).kp (T.exc.each "NoWeights" (by decide)).b (T.exc.each "NoWeights" (by decide)).ty rfl)) ss_nil)))
abbrev N_must_fall : List Str := ["folk", "line", "hand", "ranking"]
theorem sc_must_fall : FnScope N_must_fall ["folk", "line"] (defScope (top 22)) := ⟨rfl, rfl, rfl, by decide +kernel, rfl, by decide +kernel, by decide +kernel⟩
theorem w_must_fall (T : Txt K mg)
    (c_must_be_line : Cal P w K mg base (clOf K) "must_be_line" 5 ["line"] F_must_be_line)
    (c_does_fall : Cal P w K mg base (clOf K) "does_fall" 1 ["line", "ranking"] F_does_fall) : Cal P w K mg base (clOf K) "must_fall" 6 ["folk", "line"] F_must_fall := by
  have sc := sc_must_fall
  refine cal_of T.d_must_fall sc (by decide) fun f cdv A outer s H E hr => ?_
  have tk : Takes (cxOf (L2.CX P w) P w K mg base N_must_fall "must_fall" (defScope (top 22)) f cdv A outer s H E) (fun cls d _ H => E cls d H) := takes_of rfl rfl rfl rfl
  exact ss_cons (s_expr (d_cal c_must_be_line (hr.mono (by decide)) (passAt tk) (ae_cons (d_var 1) ae_nil))) (ss_cons (s_if (t_ne hr.units (d_callB (CallR.or' cr_sortedI (cr_sortedD hr.units)) cd_sorted rfl T.b_sorted (by decide +kernel) (ap_cons (d_var 1) ap_nil)) (d_callB (CallR.or' cr_sortedI (cr_sortedD hr.units)) cd_sorted rfl T.b_sorted (by decide +kernel) (ap_cons (d_ix (d_var 0) d_int (fun _ _ => rfl)) ap_nil))) (ss_one (s_raise (n := "NoFit") rfl tk rfl (T.exc.each "NoFit" (by decide)).x (T.exc.each "NoFit" (by decide)).g (T.exc.each "NoFit" (by decide)).kp (T.exc.each "NoFit" (by decide)).b (T.exc.each "NoFit" (by decide)).ty rfl)) ss_nil) (ss_one (s_for (passes_of rfl) rfl (i_enum rfl T.b_enumerate (ae_cons (d_var 0) ae_nil)) (pg_tup rfl (pgs_cons (pg_name (i := 2) sc.nd rfl (by first | exact Or.inl rfl | exact Or.inr rfl)) (pgs_cons (pg_name (i := 3) sc.nd rfl (by first | exact Or.inl rfl | exact Or.inr rfl)) pgs_nil))) (g_tup (n := 2) (g_cons (g_name 2) (g_cons (g_name 3) g_nil))) (ss_one (s_if (d_tnot (d_tval (d_cal c_does_fall (hr.mono (by decide)) (passAt tk) (ae_cons (d_var 1) (ae_cons (d_var 3) ae_nil))))) (ss_one s_never) ss_nil)))))
abbrev N_paid : List Str := ["folk", "weights", "names", "total", "ranking", "weight", "name"]
theorem sc_paid : FnScope N_paid ["folk", "weights", "names"] (defScope (top 24)) := ⟨rfl, rfl, rfl, by decide +kernel, rfl, by decide +kernel, by decide +kernel⟩
theorem w_paid (T : Txt K mg) : Cal P w K mg base (clOf K) "paid" 1 ["folk", "weights", "names"] F_paid := by
  have sc := sc_paid
  refine cal_of T.d_paid sc (by decide) fun f cdv A outer s H E hr => ?_
  have tk : Takes (cxOf (L2.CX P w) P w K mg base N_paid "paid" (defScope (top 24)) f cdv A outer s H E) (fun cls d _ H => E cls d H) := takes_of rfl rfl rfl rfl
  exact ss_cons (s_set (i := 3) sc.nd rfl (by first | exact Or.inl rfl | exact Or.inr rfl) d_int) (ss_cons (s_for (passes_of rfl) rfl (i_zip rfl T.b_zip (ae_cons (d_var 0) (ae_cons (d_var 1) ae_nil)) (fun h => pi_zip (by rfl) T.b_zip h)) (pg_tup rfl (pgs_cons (pg_name (i := 4) sc.nd rfl (by first | exact Or.inl rfl | exact Or.inr rfl)) (pgs_cons (pg_name (i := 5) sc.nd rfl (by first | exact Or.inl rfl | exact Or.inr rfl)) pgs_nil))) (g_tup (n := 2) (g_cons (g_name 4) (g_cons (g_name 5) g_nil))) (ss_one (s_aug (i := 3) sc.nd rfl (by first | exact Or.inl rfl | exact Or.inr rfl) (d_mul (d_var 5) (d_callB (CallR.or' (cr_min rfl) (call_min2 rfl)) cd_min rfl T.b_min (by decide +kernel) (ap_cons (d_lc rfl sc.nd (own := [("name", 6)]) (i_list (d_var 2)) (blkOk_by (own := [("name", 6)]) (N := N_paid) (sc := defScope (top 24)) (by decide +kernel)) (g_name 6) (by decide) (fun _ _ _ _ _ => pg_name (i := 6) sc.nd rfl (by first | exact Or.inl rfl | exact Or.inr rfl)) (fun _ _ _ _ _ => dts_nil) (fun _ _ _ _ _ => d_index (d_var 4) (d_var 6))) ap_nil))) ip_add))) (ss_one (s_ret (d_var 3))))
abbrev N_gain : List Str := ["folk", "weights", "one", "other", "total", "ranking", "weight"]
theorem sc_gain : FnScope N_gain ["folk", "weights", "one", "other"] (defScope (top 25)) := ⟨rfl, rfl, rfl, by decide +kernel, rfl, by decide +kernel, by decide +kernel⟩
theorem w_gain (T : Txt K mg) : Cal P w K mg base (clOf K) "gain" 1 ["folk", "weights", "one", "other"] F_gain := by
  have sc := sc_gain
  refine cal_of T.d_gain sc (by decide) fun f cdv A outer s H E hr => ?_
  have tk : Takes (cxOf (L2.CX P w) P w K mg base N_gain "gain" (defScope (top 25)) f cdv A outer s H E) (fun cls d _ H => E cls d H) := takes_of rfl rfl rfl rfl
  exact ss_cons (s_set (i := 4) sc.nd rfl (by first | exact Or.inl rfl | exact Or.inr rfl) d_int) (ss_cons (s_for (passes_of rfl) rfl (i_zip rfl T.b_zip (ae_cons (d_var 0) (ae_cons (d_var 1) ae_nil)) (fun h => pi_zip (by rfl) T.b_zip h)) (pg_tup rfl (pgs_cons (pg_name (i := 5) sc.nd rfl (by first | exact Or.inl rfl | exact Or.inr rfl)) (pgs_cons (pg_name (i := 6) sc.nd rfl (by first | exact Or.inl rfl | exact Or.inr rfl)) pgs_nil))) (g_tup (n := 2) (g_cons (g_name 5) (g_cons (g_name 6) g_nil))) (ss_one (s_aug (i := 4) sc.nd rfl (by first | exact Or.inl rfl | exact Or.inr rfl) (d_mul (d_var 6) (d_callB (CallR.or' (cr_max rfl) (call_max2 rfl)) cd_max rfl T.b_max (by decide +kernel) (ap_cons d_int (ap_cons (d_sub (d_index (d_var 5) (d_var 2)) (d_index (d_var 5) (d_var 3))) ap_nil)))) ip_add))) (ss_one (s_ret (d_var 4))))
abbrev N_bounds : List Str := ["folk", "weights", "line", "ahead_of", "j", "at", "k"]
theorem sc_bounds : FnScope N_bounds ["folk", "weights", "line", "ahead_of", "j", "at"] (defScope (top 26)) := ⟨rfl, rfl, rfl, by decide +kernel, rfl, by decide +kernel, by decide +kernel⟩
theorem w_bounds (T : Txt K mg)
    (c_paid : Cal P w K mg base (clOf K) "paid" 1 ["folk", "weights", "names"] F_paid)
    (c_gain : Cal P w K mg base (clOf K) "gain" 1 ["folk", "weights", "one", "other"] F_gain) : Cal P w K mg base (clOf K) "bounds" 2 ["folk", "weights", "line", "ahead_of", "j", "at"] F_bounds := by
  have sc := sc_bounds
  refine cal_of T.d_bounds sc (by decide) fun f cdv A outer s H E hr => ?_
  have tk : Takes (cxOf (L2.CX P w) P w K mg base N_bounds "bounds" (defScope (top 26)) f cdv A outer s H E) (fun cls d _ H => E cls d H) := takes_of rfl rfl rfl rfl
  exact ss_cons (s_if (t_eq hr.units (d_var 4) d_int) (ss_one (s_ret (d_lst (ae_cons (d_cal c_paid (hr.mono (by decide)) (passAt tk) (ae_cons (d_var 0) (ae_cons (d_var 1) (ae_cons (d_lst (ae_cons (d_ix (d_var 2) (d_var 5) (fun _ _ => rfl)) ae_nil)) ae_nil)))) ae_nil)))) ss_nil) (ss_one (s_ret (d_lc rfl sc.nd (own := [("k", 6)]) (i_range2 rfl T.b_range (ap_cons (d_sub (d_var 4) d_int) (ap_cons (d_var 5) ap_nil))) (blkOk_by (own := [("k", 6)]) (N := N_bounds) (sc := defScope (top 26)) (by decide +kernel)) (g_name 6) (by decide) (fun _ _ _ _ _ => pg_name (i := 6) sc.nd rfl (by first | exact Or.inl rfl | exact Or.inr rfl)) (fun _ _ _ _ _ => dts_nil) (fun _ _ _ _ _ => d_sub (d_ix (d_var 3) (d_var 6) (fun _ _ => rfl)) (d_cal c_gain (hr.mono (by decide)) passA0 (ae_cons (d_var 0) (ae_cons (d_var 1) (ae_cons (d_ix (d_var 2) (d_var 6) (fun _ _ => rfl)) (ae_cons (d_ix (d_var 2) (d_var 5) (fun _ _ => rfl)) ae_nil)))))))))
abbrev N_filled : List Str := ["folk", "weights", "line", "many", "table", "j", "row", "at"]
theorem sc_filled : FnScope N_filled ["folk", "weights", "line", "many"] (defScope (top 27)) := ⟨rfl, rfl, rfl, by decide +kernel, rfl, by decide +kernel, by decide +kernel⟩
theorem w_filled (T : Txt K mg)
    (c_bounds : Cal P w K mg base (clOf K) "bounds" 2 ["folk", "weights", "line", "ahead_of", "j", "at"] F_bounds) : Cal P w K mg base (clOf K) "filled" 3 ["folk", "weights", "line", "many"] F_filled := by
  have sc := sc_filled
  refine cal_of T.d_filled sc (by decide) fun f cdv A outer s H E hr => ?_
  have tk : Takes (cxOf (L2.CX P w) P w K mg base N_filled "filled" (defScope (top 27)) f cdv A outer s H E) (fun cls d _ H => E cls d H) := takes_of rfl rfl rfl rfl
  exact ss_cons (s_set (i := 4) sc.nd rfl (by first | exact Or.inl rfl | exact Or.inr rfl) (d_lst ae_nil)) (ss_cons (s_for (passes_of rfl) rfl (i_range1 rfl T.b_range (ap_cons (d_var 3) ap_nil)) (pg_name (i := 5) sc.nd rfl (by first | exact Or.inl rfl | exact Or.inr rfl)) (g_name 5) (ss_cons (s_setLc (i := 6) rfl sc.nd rfl rfl (sw_true rfl rfl rfl (by decide +kernel)) (own := [("at", 7)]) (i_range1 rfl T.b_range (ap_cons (d_var 5) ap_nil)) (blkOk_by (own := [("at", 7)]) (N := N_filled) (sc := defScope (top 27)) (by decide +kernel)) (g_name 7) (by decide) (fun _ _ _ _ _ => pg_name (i := 7) sc.nd rfl (by first | exact Or.inl rfl | exact Or.inr rfl)) (fun _ _ _ _ _ => dts_nil) (fun _ _ _ _ _ => d_non)) (ss_cons (s_for (passes_of rfl) rfl (i_range2 rfl T.b_range (ap_cons (d_var 5) (ap_cons (d_callB (CallR.or' call_len_seq call_len_str) cd_len rfl T.b_len (by decide +kernel) (ap_cons (d_var 2) ap_nil)) ap_nil))) (pg_name (i := 7) sc.nd rfl (by first | exact Or.inl rfl | exact Or.inr rfl)) (g_name 7) (ss_one (s_expr (d_append (pv 6) (d_callB (CallR.or' (cr_min rfl) (call_min2 rfl)) cd_min rfl T.b_min (by decide +kernel) (ap_cons (d_cal c_bounds (hr.mono (by decide)) (passAt tk) (ae_cons (d_var 0) (ae_cons (d_var 1) (ae_cons (d_var 2) (ae_cons (d_ix (d_add (d_var 4) (d_lst (ae_cons (d_lst ae_nil) ae_nil))) (d_sub (d_var 5) d_int) (fun _ _ => rfl)) (ae_cons (d_var 5) (ae_cons (d_var 7) ae_nil))))))) ap_nil)))))) (ss_one (s_expr (d_append (pv 4) (d_var 6))))))) (ss_one (s_ret (d_var 4))))
abbrev N_must_be_asked : List Str := ["folk", "weights", "line", "many"]
theorem sc_must_be_asked : FnScope N_must_be_asked ["folk", "weights", "line", "many"] (defScope (top 28)) := ⟨rfl, rfl, rfl, by decide +kernel, rfl, by decide +kernel, by decide +kernel⟩
theorem w_must_be_asked (T : Txt K mg)
    (c_must_be_weighed : Cal P w K mg base (clOf K) "must_be_weighed" 6 ["folk", "weights"] F_must_be_weighed)
    (c_must_fall : Cal P w K mg base (clOf K) "must_fall" 6 ["folk", "line"] F_must_fall) : Cal P w K mg base (clOf K) "must_be_asked" 7 ["folk", "weights", "line", "many"] F_must_be_asked := by
  have sc := sc_must_be_asked
  refine cal_of T.d_must_be_asked sc (by decide) fun f cdv A outer s H E hr => ?_
  have tk : Takes (cxOf (L2.CX P w) P w K mg base N_must_be_asked "must_be_asked" (defScope (top 28)) f cdv A outer s H E) (fun cls d _ H => E cls d H) := takes_of rfl rfl rfl rfl
  exact ss_cons (s_expr (d_cal c_must_be_weighed (hr.mono (by decide)) (passAt tk) (ae_cons (d_var 0) (ae_cons (d_var 1) ae_nil)))) (ss_cons (s_expr (d_cal c_must_fall (hr.mono (by decide)) (passAt tk) (ae_cons (d_var 0) (ae_cons (d_var 2) ae_nil)))) (ss_one (s_if (d_tw (w_or (t_lt (d_var 3) d_int) (w_or1 (t_gt (d_var 3) (d_callB (CallR.or' call_len_seq call_len_str) cd_len rfl T.b_len (by decide +kernel) (ap_cons (d_var 2) ap_nil)))))) (ss_one (s_raise (n := "NoNumber") rfl tk rfl (T.exc.each "NoNumber" (by decide)).x (T.exc.each "NoNumber" (by decide)).g (T.exc.each "NoNumber" (by decide)).kp (T.exc.each "NoNumber" (by decide)).b (T.exc.each "NoNumber" (by decide)).ty rfl)) ss_nil)))
abbrev N_last_of : List Str := ["row", "numbers", "number"]
theorem sc_last_of : FnScope N_last_of ["row"] (defScope (top 29)) := ⟨rfl, rfl, rfl, by decide +kernel, rfl, by decide +kernel, by decide +kernel⟩
theorem w_last_of (T : Txt K mg) : Cal P w K mg base (clOf K) "last_of" 1 ["row"] F_last_of := by
  have sc := sc_last_of
  refine cal_of T.d_last_of sc (by decide) fun f cdv A outer s H E hr => ?_
  have tk : Takes (cxOf (L2.CX P w) P w K mg base N_last_of "last_of" (defScope (top 29)) f cdv A outer s H E) (fun cls d _ H => E cls d H) := takes_of rfl rfl rfl rfl
  exact ss_cons (s_setLc (i := 1) rfl sc.nd rfl rfl (sw_true rfl rfl rfl (by decide +kernel)) (own := [("number", 2)]) (i_list (d_var 0)) (blkOk_by (own := [("number", 2)]) (N := N_last_of) (sc := defScope (top 29)) (by decide +kernel)) (g_name 2) (by decide) (fun _ _ _ _ _ => pg_name (i := 2) sc.nd rfl (by first | exact Or.inl rfl | exact Or.inr rfl)) (fun _ _ _ _ _ => dts_one (t_notN (d_var 2))) (fun _ _ _ _ _ => d_var 2)) (ss_one (s_ret (d_index (d_var 0) (d_callB (CallR.or' (cr_min rfl) (call_min2 rfl)) cd_min rfl T.b_min (by decide +kernel) (ap_cons (d_var 1) ap_nil)))))
abbrev N_few : List Str := ["folk", "weights", "line", "many", "table", "at", "price", "names", "j", "some"]
theorem sc_few : FnScope N_few ["folk", "weights", "line", "many"] (defScope (top 30)) := ⟨rfl, rfl, rfl, by decide +kernel, rfl, by decide +kernel, by decide +kernel⟩
theorem w_few (T : Txt K mg)
    (c_bounds : Cal P w K mg base (clOf K) "bounds" 2 ["folk", "weights", "line", "ahead_of", "j", "at"] F_bounds)
    (c_filled : Cal P w K mg base (clOf K) "filled" 3 ["folk", "weights", "line", "many"] F_filled)
    (c_must_be_asked : Cal P w K mg base (clOf K) "must_be_asked" 7 ["folk", "weights", "line", "many"] F_must_be_asked)
    (c_last_of : Cal P w K mg base (clOf K) "last_of" 1 ["row"] F_last_of) : Cal P w K mg base (clOf K) "few" 8 ["folk", "weights", "line", "many"] F_few := by
  have sc := sc_few
  refine cal_of T.d_few sc (by decide) fun f cdv A outer s H E hr => ?_
  have tk : Takes (cxOf (L2.CX P w) P w K mg base N_few "few" (defScope (top 30)) f cdv A outer s H E) (fun cls d _ H => E cls d H) := takes_of rfl rfl rfl rfl
  exact ss_cons (s_expr (d_cal c_must_be_asked (hr.mono (by decide)) (passAt tk) (ae_cons (d_var 0) (ae_cons (d_var 1) (ae_cons (d_var 2) (ae_cons (d_var 3) ae_nil)))))) (ss_cons (s_set (i := 4) sc.nd rfl (by first | exact Or.inl rfl | exact Or.inr rfl) (d_cal c_filled (hr.mono (by decide)) (passAt tk) (ae_cons (d_var 0) (ae_cons (d_var 1) (ae_cons (d_var 2) (ae_cons (d_var 3) ae_nil)))))) (ss_cons (s_set (i := 5) sc.nd rfl (by first | exact Or.inl rfl | exact Or.inr rfl) (d_cal c_last_of (hr.mono (by decide)) (passAt tk) (ae_cons (d_ix (d_var 4) (d_neg d_int) (fun _ _ => rfl)) ae_nil))) (ss_cons (s_set (i := 6) sc.nd rfl (by first | exact Or.inl rfl | exact Or.inr rfl) (d_ix (d_ix (d_var 4) (d_neg d_int) (fun _ _ => rfl)) (d_var 5) (fun _ _ => rfl))) (ss_cons (s_set (i := 7) sc.nd rfl (by first | exact Or.inl rfl | exact Or.inr rfl) (d_lst (ae_cons (d_ix (d_var 2) (d_var 5) (fun _ _ => rfl)) ae_nil))) (ss_cons (s_for (passes_of rfl) rfl (i_range3 rfl T.b_range (ap_cons (d_sub (d_var 3) d_int) (ap_cons d_int (ap_cons (d_neg d_int) ap_nil)))) (pg_name (i := 8) sc.nd rfl (by first | exact Or.inl rfl | exact Or.inr rfl)) (g_name 8) (ss_cons (s_set (i := 9) sc.nd rfl (by first | exact Or.inl rfl | exact Or.inr rfl) (d_cal c_bounds (hr.mono (by decide)) (passAt tk) (ae_cons (d_var 0) (ae_cons (d_var 1) (ae_cons (d_var 2) (ae_cons (d_ix (d_var 4) (d_sub (d_var 8) d_int) (fun _ _ => rfl)) (ae_cons (d_var 8) (ae_cons (d_var 5) ae_nil)))))))) (ss_cons (s_set (i := 5) sc.nd rfl (by first | exact Or.inl rfl | exact Or.inr rfl) (d_add (d_sub (d_var 8) d_int) (d_index (d_var 9) (d_ix (d_ix (d_var 4) (d_var 8) (fun _ _ => rfl)) (d_var 5) (fun _ _ => rfl))))) (ss_one (s_set (i := 7) sc.nd rfl (by first | exact Or.inl rfl | exact Or.inr rfl) (d_add (d_lst (ae_cons (d_ix (d_var 2) (d_var 5) (fun _ _ => rfl)) ae_nil)) (d_var 7))))))) (ss_one (s_ret (d_tup (ae_cons (d_var 6) (ae_cons (d_var 7) (ae_cons (d_var 4) ae_nil)))))))))))
abbrev N_are_along : List Str := ["line", "many", "thing", "places", "name"]
theorem sc_are_along : FnScope N_are_along ["line", "many", "thing"] (defScope (top 31)) := ⟨rfl, rfl, rfl, by decide +kernel, rfl, by decide +kernel, by decide +kernel⟩
theorem w_are_along (T : Txt K mg)
    (c_are_unlike_names : Cal P w K mg base (clOf K) "are_unlike_names" 2 ["thing"] F_are_unlike_names) : Cal P w K mg base (clOf K) "are_along" 3 ["line", "many", "thing"] F_are_along := by
  have sc := sc_are_along
  refine cal_of T.d_are_along sc (by decide) fun f cdv A outer s H E hr => ?_
  have tk : Takes (cxOf (L2.CX P w) P w K mg base N_are_along "are_along" (defScope (top 31)) f cdv A outer s H E) (fun cls d _ H => E cls d H) := takes_of rfl rfl rfl rfl
  exact ss_cons (s_if (d_tw (w_or (d_tnot (d_tval (d_cal c_are_unlike_names (hr.mono (by decide)) (passAt tk) (ae_cons (d_var 2) ae_nil)))) (w_or (t_ne hr.units (d_callB (CallR.or' call_len_seq call_len_str) cd_len rfl T.b_len (by decide +kernel) (ap_cons (d_var 2) ap_nil)) (d_var 1)) (w_or1 (d_tnot (d_tval (d_callB (cr_all rfl) cd_all rfl T.b_all (by decide +kernel) (ap_cons (d_lc rfl sc.nd (own := [("name", 4)]) (i_list (d_var 2)) (blkOk_by (own := [("name", 4)]) (N := N_are_along) (sc := defScope (top 31)) (by decide +kernel)) (g_name 4) (by decide) (fun _ _ _ _ _ => pg_name (i := 4) sc.nd rfl (by first | exact Or.inl rfl | exact Or.inr rfl)) (fun _ _ _ _ _ => dts_nil) (fun _ _ _ _ _ => d_in hr.units (by rfl) (d_var 4) (d_var 0))) ap_nil)))))))) (ss_one (s_ret d_bl)) ss_nil) (ss_cons (s_setLc (i := 3) rfl sc.nd rfl rfl (sw_true rfl rfl rfl (by decide +kernel)) (own := [("name", 4)]) (i_list (d_var 2)) (blkOk_by (own := [("name", 4)]) (N := N_are_along) (sc := defScope (top 31)) (by decide +kernel)) (g_name 4) (by decide) (fun _ _ _ _ _ => pg_name (i := 4) sc.nd rfl (by first | exact Or.inl rfl | exact Or.inr rfl)) (fun _ _ _ _ _ => dts_nil) (fun _ _ _ _ _ => d_index (d_var 0) (d_var 4))) (ss_one (s_ret (d_eq hr.units (d_var 3) (d_callB (CallR.or' cr_sortedI (cr_sortedD hr.units)) cd_sorted rfl T.b_sorted (by decide +kernel) (ap_cons (d_var 3) ap_nil))))))
abbrev N_is_row : List Str := ["j", "wide", "thing", "number"]
theorem sc_is_row : FnScope N_is_row ["j", "wide", "thing"] (defScope (top 32)) := ⟨rfl, rfl, rfl, by decide +kernel, rfl, by decide +kernel, by decide +kernel⟩
theorem w_is_row (T : Txt K mg)
    (c_is_number : Cal P w K mg base (clOf K) "is_number" 1 ["thing"] F_is_number) : Cal P w K mg base (clOf K) "is_row" 2 ["j", "wide", "thing"] F_is_row := by
  have sc := sc_is_row
  refine cal_of T.d_is_row sc (by decide) fun f cdv A outer s H E hr => ?_
  have tk : Takes (cxOf (L2.CX P w) P w K mg base N_is_row "is_row" (defScope (top 32)) f cdv A outer s H E) (fun cls d _ H => E cls d H) := takes_of rfl rfl rfl rfl
  exact ss_cons (s_if (d_tw (w_or (d_tnot (d_tval (d_isi (m := "list") (by decide) rfl T.b_isinstance (d_var 2) (pe_bltn rfl T.b_list (by decide +kernel) rfl)))) (w_or1 (t_ne hr.units (d_callB (CallR.or' call_len_seq call_len_str) cd_len rfl T.b_len (by decide +kernel) (ap_cons (d_var 2) ap_nil)) (d_var 1))))) (ss_one (s_ret d_bl)) ss_nil) (ss_one (s_ret (v_and (d_callB (cr_all rfl) cd_all rfl T.b_all (by decide +kernel) (ap_cons (d_lc rfl sc.nd (own := [("number", 3)]) (i_list (d_slice (d_var 2) dp_none (dp_some (d_var 0)))) (blkOk_by (own := [("number", 3)]) (N := N_is_row) (sc := defScope (top 32)) (by decide +kernel)) (g_name 3) (by decide) (fun _ _ _ _ _ => pg_name (i := 3) sc.nd rfl (by first | exact Or.inl rfl | exact Or.inr rfl)) (fun _ _ _ _ _ => dts_nil) (fun _ _ _ _ _ => d_isN (d_var 3))) ap_nil)) (v_one (d_callB (cr_all rfl) cd_all rfl T.b_all (by decide +kernel) (ap_cons (d_lc rfl sc.nd (own := [("number", 3)]) (i_list (d_slice (d_var 2) (dp_some (d_var 0)) dp_none)) (blkOk_by (own := [("number", 3)]) (N := N_is_row) (sc := defScope (top 32)) (by decide +kernel)) (g_name 3) (by decide) (fun _ _ _ _ _ => pg_name (i := 3) sc.nd rfl (by first | exact Or.inl rfl | exact Or.inr rfl)) (fun _ _ _ _ _ => dts_nil) (fun _ _ _ _ _ => d_cal c_is_number (hr.mono (by decide)) passA0 (ae_cons (d_var 3) ae_nil))) ap_nil))))))
abbrev N_is_table : List Str := ["many", "wide", "thing", "j", "row"]
theorem sc_is_table : FnScope N_is_table ["many", "wide", "thing"] (defScope (top 33)) := ⟨rfl, rfl, rfl, by decide +kernel, rfl, by decide +kernel, by decide +kernel⟩
theorem w_is_table (T : Txt K mg)
    (c_is_row : Cal P w K mg base (clOf K) "is_row" 2 ["j", "wide", "thing"] F_is_row) : Cal P w K mg base (clOf K) "is_table" 3 ["many", "wide", "thing"] F_is_table := by
  have sc := sc_is_table
  refine cal_of T.d_is_table sc (by decide) fun f cdv A outer s H E hr => ?_
  have tk : Takes (cxOf (L2.CX P w) P w K mg base N_is_table "is_table" (defScope (top 33)) f cdv A outer s H E) (fun cls d _ H => E cls d H) := takes_of rfl rfl rfl rfl
  exact ss_cons (s_if (d_tw (w_or (d_tnot (d_tval (d_isi (m := "list") (by decide) rfl T.b_isinstance (d_var 2) (pe_bltn rfl T.b_list (by decide +kernel) rfl)))) (w_or1 (t_ne hr.units (d_callB (CallR.or' call_len_seq call_len_str) cd_len rfl T.b_len (by decide +kernel) (ap_cons (d_var 2) ap_nil)) (d_var 0))))) (ss_one (s_ret d_bl)) ss_nil) (ss_one (s_ret (d_callB (cr_all rfl) cd_all rfl T.b_all (by decide +kernel) (ap_cons (d_lc rfl sc.nd (own := [("j", 3), ("row", 4)]) (i_enum rfl T.b_enumerate (ae_cons (d_var 2) ae_nil)) (blkOk_by (own := [("j", 3), ("row", 4)]) (N := N_is_table) (sc := defScope (top 33)) (by decide +kernel)) (g_tup (n := 2) (g_cons (g_name 3) (g_cons (g_name 4) g_nil))) (by decide) (fun _ _ _ _ _ => pg_tup rfl (pgs_cons (pg_name (i := 3) sc.nd rfl (by first | exact Or.inl rfl | exact Or.inr rfl)) (pgs_cons (pg_name (i := 4) sc.nd rfl (by first | exact Or.inl rfl | exact Or.inr rfl)) pgs_nil))) (fun _ _ _ _ _ => dts_nil) (fun _ _ _ _ _ => d_cal c_is_row (hr.mono (by decide)) passA0 (ae_cons (d_var 3) (ae_cons (d_var 1) (ae_cons (d_var 4) ae_nil))))) ap_nil))))
abbrev N_table_wrong : List Str := ["folk", "weights", "line", "price", "table", "j", "row", "at", "number"]
theorem sc_table_wrong : FnScope N_table_wrong ["folk", "weights", "line", "price", "table"] (defScope (top 34)) := ⟨rfl, rfl, rfl, by decide +kernel, rfl, by decide +kernel, by decide +kernel⟩
theorem w_table_wrong (T : Txt K mg)
    (c_bounds : Cal P w K mg base (clOf K) "bounds" 2 ["folk", "weights", "line", "ahead_of", "j", "at"] F_bounds) : Cal P w K mg base (clOf K) "table_wrong" 3 ["folk", "weights", "line", "price", "table"] F_table_wrong := by
  have sc := sc_table_wrong
  refine cal_of T.d_table_wrong sc (by decide) fun f cdv A outer s H E hr => ?_
  have tk : Takes (cxOf (L2.CX P w) P w K mg base N_table_wrong "table_wrong" (defScope (top 34)) f cdv A outer s H E) (fun cls d _ H => E cls d H) := takes_of rfl rfl rfl rfl
  exact ss_cons (s_for (passes_of rfl) rfl (i_enum rfl T.b_enumerate (ae_cons (d_var 4) ae_nil)) (pg_tup rfl (pgs_cons (pg_name (i := 5) sc.nd rfl (by first | exact Or.inl rfl | exact Or.inr rfl)) (pgs_cons (pg_name (i := 6) sc.nd rfl (by first | exact Or.inl rfl | exact Or.inr rfl)) pgs_nil))) (g_tup (n := 2) (g_cons (g_name 5) (g_cons (g_name 6) g_nil))) (ss_one (s_for (passes_of rfl) rfl (i_range2 rfl T.b_range (ap_cons (d_var 5) (ap_cons (d_callB (CallR.or' call_len_seq call_len_str) cd_len rfl T.b_len (by decide +kernel) (ap_cons (d_var 2) ap_nil)) ap_nil))) (pg_name (i := 7) sc.nd rfl (by first | exact Or.inl rfl | exact Or.inr rfl)) (g_name 7) (ss_one (s_if (t_gt (d_ix (d_var 6) (d_var 7) (fun _ _ => rfl)) (d_callB (CallR.or' (cr_min rfl) (call_min2 rfl)) cd_min rfl T.b_min (by decide +kernel) (ap_cons (d_cal c_bounds (hr.mono (by decide)) (passAt tk) (ae_cons (d_var 0) (ae_cons (d_var 1) (ae_cons (d_var 2) (ae_cons (d_ix (d_add (d_slice (d_var 4) dp_none (dp_some (d_var 5))) (d_lst (ae_cons (d_lst ae_nil) ae_nil))) (d_sub (d_var 5) d_int) (fun _ _ => rfl)) (ae_cons (d_var 5) (ae_cons (d_var 7) ae_nil))))))) ap_nil))) (ss_one (s_ret (d_tup (ae_cons d_str (ae_cons (d_var 5) (ae_cons (d_var 7) ae_nil)))))) ss_nil))))) (ss_cons (s_for (passes_of rfl) rfl (i_enum rfl T.b_enumerate (ae_cons (d_ix (d_var 4) (d_neg d_int) (fun _ _ => rfl)) ae_nil)) (pg_tup rfl (pgs_cons (pg_name (i := 7) sc.nd rfl (by first | exact Or.inl rfl | exact Or.inr rfl)) (pgs_cons (pg_name (i := 8) sc.nd rfl (by first | exact Or.inl rfl | exact Or.inr rfl)) pgs_nil))) (g_tup (n := 2) (g_cons (g_name 7) (g_cons (g_name 8) g_nil))) (ss_one (s_if (d_tw (w_and (t_notN (d_var 8)) (w_and1 (t_lt (d_var 8) (d_var 3))))) (ss_one (s_ret (d_tup (ae_cons d_str (ae_cons (d_var 7) ae_nil))))) ss_nil))) (ss_one (s_ret d_non)))
abbrev N_few_judged : List Str := ["folk", "weights", "line", "many", "thing", "price", "names", "table"]
theorem sc_few_judged : FnScope N_few_judged ["folk", "weights", "line", "many", "thing"] (defScope (top 35)) := ⟨rfl, rfl, rfl, by decide +kernel, rfl, by decide +kernel, by decide +kernel⟩
theorem w_few_judged (T : Txt K mg)
    (c_is_number : Cal P w K mg base (clOf K) "is_number" 1 ["thing"] F_is_number)
    (c_paid : Cal P w K mg base (clOf K) "paid" 1 ["folk", "weights", "names"] F_paid)
    (c_must_be_asked : Cal P w K mg base (clOf K) "must_be_asked" 7 ["folk", "weights", "line", "many"] F_must_be_asked)
    (c_are_along : Cal P w K mg base (clOf K) "are_along" 3 ["line", "many", "thing"] F_are_along)
    (c_is_table : Cal P w K mg base (clOf K) "is_table" 3 ["many", "wide", "thing"] F_is_table)
    (c_table_wrong : Cal P w K mg base (clOf K) "table_wrong" 3 ["folk", "weights", "line", "price", "table"] F_table_wrong) : Cal P w K mg base (clOf K) "few_judged" 8 ["folk", "weights", "line", "many", "thing"] F_few_judged := by
  have sc := sc_few_judged
  refine cal_of T.d_few_judged sc (by decide) fun f cdv A outer s H E hr => ?_
  have tk : Takes (cxOf (L2.CX P w) P w K mg base N_few_judged "few_judged" (defScope (top 35)) f cdv A outer s H E) (fun cls d _ H => E cls d H) := takes_of rfl rfl rfl rfl
  exact ss_cons (s_expr (d_cal c_must_be_asked (hr.mono (by decide)) (passAt tk) (ae_cons (d_var 0) (ae_cons (d_var 1) (ae_cons (d_var 2) (ae_cons (d_var 3) ae_nil)))))) (ss_cons (s_if (d_tw (w_or (d_tnot (d_tval (d_isi (m := "tuple") (by decide) rfl T.b_isinstance (d_var 4) (pe_bltn rfl T.b_tuple (by decide +kernel) rfl)))) (w_or (t_ne hr.units (d_callB (CallR.or' call_len_seq call_len_str) cd_len rfl T.b_len (by decide +kernel) (ap_cons (d_var 4) ap_nil)) d_int) (w_or1 (d_tnot (d_tval (d_cal c_is_number (hr.mono (by decide)) (passAt tk) (ae_cons (d_ix (d_var 4) d_int (fun _ _ => rfl)) ae_nil)))))))) (ss_one (s_ret (d_tup (ae_cons d_str ae_nil)))) ss_nil) (ss_cons (s_asgB (d_var 4) (pg_or (pg_tup rfl (pgs_cons (pg_name (i := 5) sc.nd rfl (by first | exact Or.inl rfl | exact Or.inr rfl)) (pgs_cons (pg_name (i := 6) sc.nd rfl (by first | exact Or.inl rfl | exact Or.inr rfl)) (pgs_cons (pg_name (i := 7) sc.nd rfl (by first | exact Or.inl rfl | exact Or.inr rfl)) pgs_nil)))) (pg_unl rfl (pgs_cons (pg_name (i := 5) sc.nd rfl (by first | exact Or.inl rfl | exact Or.inr rfl)) (pgs_cons (pg_name (i := 6) sc.nd rfl (by first | exact Or.inl rfl | exact Or.inr rfl)) (pgs_cons (pg_name (i := 7) sc.nd rfl (by first | exact Or.inl rfl | exact Or.inr rfl)) pgs_nil))))) (g_seq (n := 3) (g_cons (g_name 5) (g_cons (g_name 6) (g_cons (g_name 7) g_nil))))) (ss_cons (s_if (d_tnot (d_tval (d_cal c_are_along (hr.mono (by decide)) (passAt tk) (ae_cons (d_var 2) (ae_cons (d_var 3) (ae_cons (d_var 6) ae_nil)))))) (ss_one (s_ret (d_tup (ae_cons d_str ae_nil)))) ss_nil) (ss_cons (s_if (t_ne hr.units (d_cal c_paid (hr.mono (by decide)) (passAt tk) (ae_cons (d_var 0) (ae_cons (d_var 1) (ae_cons (d_var 6) ae_nil)))) (d_var 5)) (ss_one (s_ret (d_tup (ae_cons d_str ae_nil)))) ss_nil) (ss_cons (s_if (d_tnot (d_tval (d_cal c_is_table (hr.mono (by decide)) (passAt tk) (ae_cons (d_var 3) (ae_cons (d_callB (CallR.or' call_len_seq call_len_str) cd_len rfl T.b_len (by decide +kernel) (ap_cons (d_var 2) ap_nil)) (ae_cons (d_var 7) ae_nil)))))) (ss_one (s_ret (d_tup (ae_cons d_str ae_nil)))) ss_nil) (ss_one (s_ret (d_cal c_table_wrong (hr.mono (by decide)) (passAt tk) (ae_cons (d_var 0) (ae_cons (d_var 1) (ae_cons (d_var 2) (ae_cons (d_var 5) (ae_cons (d_var 7) ae_nil)))))))))))))
abbrev N__law_whole : List Str := ["_law_found"]
theorem sc__law_whole : FnScope N__law_whole ["_law_found"] (defScope (top 37)) := ⟨rfl, rfl, rfl, by decide +kernel, rfl, by decide +kernel, by decide +kernel⟩
theorem w__law_whole (T : Txt K mg) : Cal P w K mg base (clOf K) "_law_whole" 1 ["_law_found"] F_law_whole := by
  have sc := sc__law_whole
  refine cal_of T.d__law_whole sc (by decide) fun f cdv A outer s H E hr => ?_
  have tk : Takes (cxOf (L2.CX P w) P w K mg base N__law_whole "_law_whole" (defScope (top 37)) f cdv A outer s H E) (fun cls d _ H => E cls d H) := takes_of rfl rfl rfl rfl
  exact ss_one (s_ret (v_and (d_isi (m := "int") (by decide) rfl T.b_isinstance (d_var 0) (pe_bltn rfl T.b_int (by decide +kernel) rfl)) (v_one (v_not (d_isi (m := "bool") (by decide) rfl T.b_isinstance (d_var 0) (pe_bltn rfl T.b_bool (by decide +kernel) rfl))))))
abbrev N__law_draws : List Str := ["_law_script", "_law_j", "_law_many", "_law_cell", "_law_great", "_law_number", "_law_found", "_law_k", "_law_mixed"]
theorem sc__law_draws : FnScope N__law_draws ["_law_script", "_law_j", "_law_many"] (defScope (top 38)) := ⟨rfl, rfl, rfl, by decide +kernel, rfl, by decide +kernel, by decide +kernel⟩
theorem w__law_draws (T : Txt K mg) : Cal P w K mg base (clOf K) "_law_draws" 1 ["_law_script", "_law_j", "_law_many"] F_law_draws := by
  have sc := sc__law_draws
  refine cal_of T.d__law_draws sc (by decide) fun f cdv A outer s H E hr => ?_
  have tk : Takes (cxOf (L2.CX P w) P w K mg base N__law_draws "_law_draws" (defScope (top 38)) f cdv A outer s H E) (fun cls d _ H => E cls d H) := takes_of rfl rfl rfl rfl
  exact ss_cons (s_set (i := 3) sc.nd rfl (by first | exact Or.inl rfl | exact Or.inr rfl) d_int) (ss_cons (s_if (t_gt (d_scLen rfl T.b_len (d_var 0)) d_int) (ss_one (s_set (i := 3) sc.nd rfl (by first | exact Or.inl rfl | exact Or.inr rfl) (d_scIx (d_var 0) (d_mod (d_var 1) (d_callB (CallR.or' (cr_min rfl) (call_min2 rfl)) cd_min rfl T.b_min (by decide +kernel) (ap_cons d_int (ap_cons (d_scLen rfl T.b_len (d_var 0)) ap_nil)))) (fun _ _ => rfl)))) ss_nil) (ss_cons (s_set (i := 4) sc.nd rfl (by first | exact Or.inl rfl | exact Or.inr rfl) (v_and (d_lt (d_var 1) (d_scLen rfl T.b_len (d_var 0))) (v_one (d_ge (d_var 3) (d_pow d_int d_int))))) (ss_cons (s_if (d_tval (d_var 4)) (ss_one (s_set (i := 3) sc.nd rfl (by first | exact Or.inl rfl | exact Or.inr rfl) (d_and (d_var 3) (d_sub (d_pow (d_pow (d_pow d_int d_int) d_int) d_int) d_int)))) ss_nil) (ss_cons (s_set (i := 5) sc.nd rfl (by first | exact Or.inl rfl | exact Or.inr rfl) (d_add (d_mod (d_var 3) d_int) (d_mul d_int (d_var 1)))) (ss_cons (s_set (i := 6) sc.nd rfl (by first | exact Or.inl rfl | exact Or.inr rfl) (d_lst ae_nil)) (ss_cons (s_for (passes_of rfl) rfl (i_range1 rfl T.b_range (ap_cons (d_var 2) ap_nil)) (pg_name (i := 7) sc.nd rfl (by first | exact Or.inl rfl | exact Or.inr rfl)) (g_name 7) (ss_one (s_if (d_tval (d_var 4)) (ss_cons (s_expr (d_append (pv 6) (d_mod (d_var 3) (d_pow d_int d_int)))) (ss_one (s_set (i := 3) sc.nd rfl (by first | exact Or.inl rfl | exact Or.inr rfl) (d_fdiv (d_var 3) (d_pow d_int d_int))))) (ss_cons (s_set (i := 8) sc.nd rfl (by first | exact Or.inl rfl | exact Or.inr rfl) (d_mod (d_add (d_var 5) (d_mul d_int (d_add (d_var 7) d_int))) d_int)) (ss_cons (s_set (i := 8) sc.nd rfl (by first | exact Or.inl rfl | exact Or.inr rfl) (d_mod (d_add (d_mul (d_var 8) (d_var 8)) (d_var 7)) d_int)) (ss_one (s_expr (d_append (pv 6) (d_mod (d_mod (d_mul (d_var 8) (d_var 8)) d_int) (d_pow d_int d_int)))))))))) (ss_one (s_ret (d_var 6)))))))))
abbrev N__law_names : List Str := ["_law_digits", "_law_found", "_law_last", "_law_digit", "_law_name"]
theorem sc__law_names : FnScope N__law_names ["_law_digits"] (defScope (top 39)) := ⟨rfl, rfl, rfl, by decide +kernel, rfl, by decide +kernel, by decide +kernel⟩
theorem w__law_names (T : Txt K mg) : Cal P w K mg base (clOf K) "_law_names" 1 ["_law_digits"] F_law_names_v4 := by
  have sc := sc__law_names
  refine cal_of T.d__law_names sc (by decide) fun f cdv A outer s H E hr => ?_
  have tk : Takes (cxOf (L2.CX P w) P w K mg base N__law_names "_law_names" (defScope (top 39)) f cdv A outer s H E) (fun cls d _ H => E cls d H) := takes_of rfl rfl rfl rfl
  exact ss_cons (s_set (i := 1) sc.nd rfl (by first | exact Or.inl rfl | exact Or.inr rfl) (d_lst ae_nil)) (ss_cons (s_set (i := 2) sc.nd rfl (by first | exact Or.inl rfl | exact Or.inr rfl) (d_neg d_int)) (ss_cons (s_for (passes_of rfl) rfl (i_list (d_var 0)) (pg_name (i := 3) sc.nd rfl (by first | exact Or.inl rfl | exact Or.inr rfl)) (g_name 3) (ss_cons (s_set (i := 2) sc.nd rfl (by first | exact Or.inl rfl | exact Or.inr rfl) (d_add (d_add (d_var 2) d_int) (d_ix (d_lst (ae_cons d_int (ae_cons d_int (ae_cons (d_mod (d_fdiv (d_var 3) d_int) d_int) (ae_cons (d_var 3) ae_nil))))) (d_mod (d_var 3) d_int) (fun _ _ => rfl)))) (ss_one (s_expr (d_append (pv 1) (d_var 2)))))) (ss_one (s_ret (d_lc rfl sc.nd (own := [("_law_name", 4)]) (i_list (d_var 1)) (blkOk_by (own := [("_law_name", 4)]) (N := N__law_names) (sc := defScope (top 39)) (by decide +kernel)) (g_name 4) (by decide) (fun _ _ _ _ _ => pg_name (i := 4) sc.nd rfl (by first | exact Or.inl rfl | exact Or.inr rfl)) (fun _ _ _ _ _ => dts_nil) (fun _ _ _ _ _ => d_add (d_var 4) (d_mul (d_pow d_int d_int) (d_callTy call_int1 cd_int rfl T.b_int (by decide +kernel) (ap_cons (d_eq hr.units (d_mod (d_fdiv (d_ix (d_var 0) d_int (fun _ _ => rfl)) d_int) d_int) d_int) ap_nil)))))))))
abbrev N__law_shuffled : List Str := ["_law_names_here", "_law_digits", "_law_found", "_law_name", "_law_digit"]
theorem sc__law_shuffled : FnScope N__law_shuffled ["_law_names_here", "_law_digits"] (defScope (top 40)) := ⟨rfl, rfl, rfl, by decide +kernel, rfl, by decide +kernel, by decide +kernel⟩
theorem w__law_shuffled (T : Txt K mg) : Cal P w K mg base (clOf K) "_law_shuffled" 1 ["_law_names_here", "_law_digits"] F_law_shuffled := by
  have sc := sc__law_shuffled
  refine cal_of T.d__law_shuffled sc (by decide) fun f cdv A outer s H E hr => ?_
  have tk : Takes (cxOf (L2.CX P w) P w K mg base N__law_shuffled "_law_shuffled" (defScope (top 40)) f cdv A outer s H E) (fun cls d _ H => E cls d H) := takes_of rfl rfl rfl rfl
  exact ss_cons (s_set (i := 2) sc.nd rfl (by first | exact Or.inl rfl | exact Or.inr rfl) (d_lst ae_nil)) (ss_cons (s_for (passes_of rfl) rfl (i_zip rfl T.b_zip (ae_cons (d_var 0) (ae_cons (d_var 1) ae_nil)) (fun h => pi_zip (by rfl) T.b_zip h)) (pg_tup rfl (pgs_cons (pg_name (i := 3) sc.nd rfl (by first | exact Or.inl rfl | exact Or.inr rfl)) (pgs_cons (pg_name (i := 4) sc.nd rfl (by first | exact Or.inl rfl | exact Or.inr rfl)) pgs_nil))) (g_tup (n := 2) (g_cons (g_name 3) (g_cons (g_name 4) g_nil))) (ss_one (s_expr (d_insert (pv 2) (ae_cons (d_mod (d_var 4) (d_add (d_callB (CallR.or' call_len_seq call_len_str) cd_len rfl T.b_len (by decide +kernel) (ap_cons (d_var 2) ap_nil)) d_int)) (ae_cons (d_var 3) ae_nil)))))) (ss_one (s_ret (d_var 2))))
abbrev N__law_fallen : List Str := ["_law_line_here", "_law_digits", "_law_left", "_law_found", "_law_digit"]
theorem sc__law_fallen : FnScope N__law_fallen ["_law_line_here", "_law_digits"] (defScope (top 41)) := ⟨rfl, rfl, rfl, by decide +kernel, rfl, by decide +kernel, by decide +kernel⟩
theorem w__law_fallen (T : Txt K mg) : Cal P w K mg base (clOf K) "_law_fallen" 1 ["_law_line_here", "_law_digits"] F_law_fallen := by
  have sc := sc__law_fallen
  refine cal_of T.d__law_fallen sc (by decide) fun f cdv A outer s H E hr => ?_
  have tk : Takes (cxOf (L2.CX P w) P w K mg base N__law_fallen "_law_fallen" (defScope (top 41)) f cdv A outer s H E) (fun cls d _ H => E cls d H) := takes_of rfl rfl rfl rfl
  exact ss_cons (s_set (i := 2) sc.nd rfl (by first | exact Or.inl rfl | exact Or.inr rfl) (d_callTy call_list_of cd_list rfl T.b_list (by decide +kernel) (ap_cons (d_var 0) ap_nil))) (ss_cons (s_set (i := 3) sc.nd rfl (by first | exact Or.inl rfl | exact Or.inr rfl) (d_lst ae_nil)) (ss_cons (s_for (passes_of rfl) rfl (i_list (d_slice (d_var 1) dp_none (dp_some (d_callB (CallR.or' call_len_seq call_len_str) cd_len rfl T.b_len (by decide +kernel) (ap_cons (d_var 0) ap_nil))))) (pg_name (i := 4) sc.nd rfl (by first | exact Or.inl rfl | exact Or.inr rfl)) (g_name 4) (ss_one (s_expr (d_append (pv 3) (d_popAt (pv 2) (d_ix (d_lst (ae_cons d_int (ae_cons (d_neg d_int) ae_nil))) (d_mod (d_var 4) d_int) (fun _ _ => rfl))))))) (ss_one (s_ret (d_rev (d_var 3))))))
abbrev N__law_line : List Str := ["_law_script", "_law_j", "_law_many", "_law_draws_here"]
theorem sc__law_line : FnScope N__law_line ["_law_script", "_law_j", "_law_many"] (defScope (top 42)) := ⟨rfl, rfl, rfl, by decide +kernel, rfl, by decide +kernel, by decide +kernel⟩
theorem w__law_line (T : Txt K mg)
    (c__law_draws : Cal P w K mg base (clOf K) "_law_draws" 1 ["_law_script", "_law_j", "_law_many"] F_law_draws)
    (c__law_names : Cal P w K mg base (clOf K) "_law_names" 1 ["_law_digits"] F_law_names_v4)
    (c__law_shuffled : Cal P w K mg base (clOf K) "_law_shuffled" 1 ["_law_names_here", "_law_digits"] F_law_shuffled) : Cal P w K mg base (clOf K) "_law_line" 2 ["_law_script", "_law_j", "_law_many"] F_law_line_v2 := by
  have sc := sc__law_line
  refine cal_of T.d__law_line sc (by decide) fun f cdv A outer s H E hr => ?_
  have tk : Takes (cxOf (L2.CX P w) P w K mg base N__law_line "_law_line" (defScope (top 42)) f cdv A outer s H E) (fun cls d _ H => E cls d H) := takes_of rfl rfl rfl rfl
  exact ss_cons (s_set (i := 3) sc.nd rfl (by first | exact Or.inl rfl | exact Or.inr rfl) (d_cal c__law_draws (hr.mono (by decide)) (passAt tk) (ae_cons (d_var 0) (ae_cons (d_var 1) (ae_cons (d_mul d_int (d_var 2)) ae_nil))))) (ss_one (s_ret (d_cal c__law_shuffled (hr.mono (by decide)) (passAt tk) (ae_cons (d_cal c__law_names (hr.mono (by decide)) (passAt tk) (ae_cons (d_slice (d_var 3) dp_none (dp_some (d_var 2))) ae_nil)) (ae_cons (d_slice (d_var 3) (dp_some (d_var 2)) dp_none) ae_nil)))))
abbrev N__law_folk : List Str := ["_law_script", "_law_j", "_law_line_here", "_law_hands", "_law_free", "_law_found", "_law_hand", "_law_draws_here"]
theorem sc__law_folk : FnScope N__law_folk ["_law_script", "_law_j", "_law_line_here", "_law_hands", "_law_free"] (defScope (top 43)) := ⟨rfl, rfl, rfl, by decide +kernel, rfl, by decide +kernel, by decide +kernel⟩
theorem w__law_folk (T : Txt K mg)
    (c__law_draws : Cal P w K mg base (clOf K) "_law_draws" 1 ["_law_script", "_law_j", "_law_many"] F_law_draws)
    (c__law_shuffled : Cal P w K mg base (clOf K) "_law_shuffled" 1 ["_law_names_here", "_law_digits"] F_law_shuffled)
    (c__law_fallen : Cal P w K mg base (clOf K) "_law_fallen" 1 ["_law_line_here", "_law_digits"] F_law_fallen) : Cal P w K mg base (clOf K) "_law_folk" 2 ["_law_script", "_law_j", "_law_line_here", "_law_hands", "_law_free"] F_law_folk_v3 := by
  have sc := sc__law_folk
  refine cal_of T.d__law_folk sc (by decide) fun f cdv A outer s H E hr => ?_
  have tk : Takes (cxOf (L2.CX P w) P w K mg base N__law_folk "_law_folk" (defScope (top 43)) f cdv A outer s H E) (fun cls d _ H => E cls d H) := takes_of rfl rfl rfl rfl
  exact ss_cons (s_set (i := 5) sc.nd rfl (by first | exact Or.inl rfl | exact Or.inr rfl) (d_lst ae_nil)) (ss_cons (s_for (passes_of rfl) rfl (i_range1 rfl T.b_range (ap_cons (d_var 3) ap_nil)) (pg_name (i := 6) sc.nd rfl (by first | exact Or.inl rfl | exact Or.inr rfl)) (g_name 6) (ss_cons (s_set (i := 7) sc.nd rfl (by first | exact Or.inl rfl | exact Or.inr rfl) (d_cal c__law_draws (hr.mono (by decide)) (passAt tk) (ae_cons (d_var 0) (ae_cons (d_add (d_var 1) (d_var 6)) (ae_cons (d_add (d_callB (CallR.or' call_len_seq call_len_str) cd_len rfl T.b_len (by decide +kernel) (ap_cons (d_var 2) ap_nil)) d_int) ae_nil))))) (ss_one (s_if (d_tw (w_or (t_eq hr.units (d_var 6) (d_var 4)) (w_or1 (d_tw (w_and (t_lt (d_var 4) d_int) (w_and1 (t_gt (d_mod (d_ix (d_var 7) (d_neg d_int) (fun _ _ => rfl)) d_int) d_int))))))) (ss_one (s_expr (d_append (pv 5) (d_cal c__law_shuffled (hr.mono (by decide)) (passAt tk) (ae_cons (d_var 2) (ae_cons (d_var 7) ae_nil)))))) (ss_one (s_expr (d_append (pv 5) (d_cal c__law_fallen (hr.mono (by decide)) (passAt tk) (ae_cons (d_var 2) (ae_cons (d_var 7) ae_nil)))))))))) (ss_one (s_ret (d_var 5))))
abbrev N__law_weights : List Str := ["_law_script", "_law_j", "_law_hands", "_law_digits", "_law_digit"]
theorem sc__law_weights : FnScope N__law_weights ["_law_script", "_law_j", "_law_hands"] (defScope (top 44)) := ⟨rfl, rfl, rfl, by decide +kernel, rfl, by decide +kernel, by decide +kernel⟩
theorem w__law_weights (T : Txt K mg)
    (c__law_draws : Cal P w K mg base (clOf K) "_law_draws" 1 ["_law_script", "_law_j", "_law_many"] F_law_draws) : Cal P w K mg base (clOf K) "_law_weights" 2 ["_law_script", "_law_j", "_law_hands"] F_law_weights := by
  have sc := sc__law_weights
  refine cal_of T.d__law_weights sc (by decide) fun f cdv A outer s H E hr => ?_
  have tk : Takes (cxOf (L2.CX P w) P w K mg base N__law_weights "_law_weights" (defScope (top 44)) f cdv A outer s H E) (fun cls d _ H => E cls d H) := takes_of rfl rfl rfl rfl
  exact ss_cons (s_set (i := 3) sc.nd rfl (by first | exact Or.inl rfl | exact Or.inr rfl) (d_cal c__law_draws (hr.mono (by decide)) (passAt tk) (ae_cons (d_var 0) (ae_cons (d_var 1) (ae_cons (d_var 2) ae_nil))))) (ss_one (s_ret (d_lc rfl sc.nd (own := [("_law_digit", 4)]) (i_list (d_var 3)) (blkOk_by (own := [("_law_digit", 4)]) (N := N__law_weights) (sc := defScope (top 44)) (by decide +kernel)) (g_name 4) (by decide) (fun _ _ _ _ _ => pg_name (i := 4) sc.nd rfl (by first | exact Or.inl rfl | exact Or.inr rfl)) (fun _ _ _ _ _ => dts_nil) (fun _ _ _ _ _ => d_ix (d_lst (ae_cons d_int (ae_cons (d_add d_int (d_mod (d_fdiv (d_var 4) d_int) d_int)) (ae_cons (d_add d_int (d_mod (d_fdiv (d_var 4) d_int) d_int)) (ae_cons (d_sub (d_sub (d_pow d_int d_int) d_int) (d_var 4)) ae_nil))))) (d_mod (d_var 4) d_int) (fun _ _ => rfl)))))
abbrev N__law_are_names : List Str := ["_law_names_here", "_law_thing", "_law_name"]
theorem sc__law_are_names : FnScope N__law_are_names ["_law_names_here", "_law_thing"] (defScope (top 45)) := ⟨rfl, rfl, rfl, by decide +kernel, rfl, by decide +kernel, by decide +kernel⟩
theorem w__law_are_names (T : Txt K mg)
    (c__law_whole : Cal P w K mg base (clOf K) "_law_whole" 1 ["_law_found"] F_law_whole) : Cal P w K mg base (clOf K) "_law_are_names" 2 ["_law_names_here", "_law_thing"] F_law_are_names := by
  have sc := sc__law_are_names
  refine cal_of T.d__law_are_names sc (by decide) fun f cdv A outer s H E hr => ?_
  have tk : Takes (cxOf (L2.CX P w) P w K mg base N__law_are_names "_law_are_names" (defScope (top 45)) f cdv A outer s H E) (fun cls d _ H => E cls d H) := takes_of rfl rfl rfl rfl
  exact ss_cons (s_if (d_tw (w_or (d_tnot (d_tval (d_isi (m := "list") (by decide) rfl T.b_isinstance (d_var 1) (pe_bltn rfl T.b_list (by decide +kernel) rfl)))) (w_or1 (t_ne hr.units (d_lc rfl sc.nd (own := [("_law_name", 2)]) (i_list (d_var 1)) (blkOk_by (own := [("_law_name", 2)]) (N := N__law_are_names) (sc := defScope (top 45)) (by decide +kernel)) (g_name 2) (by decide) (fun _ _ _ _ _ => pg_name (i := 2) sc.nd rfl (by first | exact Or.inl rfl | exact Or.inr rfl)) (fun _ _ _ _ _ => dts_one (d_tnot (d_tval (d_cal c__law_whole (hr.mono (by decide)) passA0 (ae_cons (d_var 2) ae_nil))))) (fun _ _ _ _ _ => d_var 2)) (d_lst ae_nil))))) (ss_one (s_ret d_bl)) ss_nil) (ss_one (s_ret (v_and (d_eq hr.units (d_lenSet rfl rfl T.b_len rfl T.b_set (d_var 1)) (d_callB (CallR.or' call_len_seq call_len_str) cd_len rfl T.b_len (by decide +kernel) (ap_cons (d_var 1) ap_nil))) (v_one (d_eq hr.units (d_lc rfl sc.nd (own := [("_law_name", 2)]) (i_list (d_var 1)) (blkOk_by (own := [("_law_name", 2)]) (N := N__law_are_names) (sc := defScope (top 45)) (by decide +kernel)) (g_name 2) (by decide) (fun _ _ _ _ _ => pg_name (i := 2) sc.nd rfl (by first | exact Or.inl rfl | exact Or.inr rfl)) (fun _ _ _ _ _ => dts_one (t_notIn hr.units (by rfl) (d_var 2) (d_var 0))) (fun _ _ _ _ _ => d_var 2)) (d_lst ae_nil))))))
abbrev N__law_cost : List Str := ["_law_folk_here", "_law_weights_here", "_law_names_here", "_law_found", "_law_ranking", "_law_weight", "_law_name"]
theorem sc__law_cost : FnScope N__law_cost ["_law_folk_here", "_law_weights_here", "_law_names_here"] (defScope (top 46)) := ⟨rfl, rfl, rfl, by decide +kernel, rfl, by decide +kernel, by decide +kernel⟩
theorem w__law_cost (T : Txt K mg) : Cal P w K mg base (clOf K) "_law_cost" 1 ["_law_folk_here", "_law_weights_here", "_law_names_here"] F_law_cost := by
  have sc := sc__law_cost
  refine cal_of T.d__law_cost sc (by decide) fun f cdv A outer s H E hr => ?_
  have tk : Takes (cxOf (L2.CX P w) P w K mg base N__law_cost "_law_cost" (defScope (top 46)) f cdv A outer s H E) (fun cls d _ H => E cls d H) := takes_of rfl rfl rfl rfl
  exact ss_cons (s_set (i := 3) sc.nd rfl (by first | exact Or.inl rfl | exact Or.inr rfl) d_int) (ss_cons (s_for (passes_of rfl) rfl (i_zip rfl T.b_zip (ae_cons (d_var 0) (ae_cons (d_var 1) ae_nil)) (fun h => pi_zip (by rfl) T.b_zip h)) (pg_tup rfl (pgs_cons (pg_name (i := 4) sc.nd rfl (by first | exact Or.inl rfl | exact Or.inr rfl)) (pgs_cons (pg_name (i := 5) sc.nd rfl (by first | exact Or.inl rfl | exact Or.inr rfl)) pgs_nil))) (g_tup (n := 2) (g_cons (g_name 4) (g_cons (g_name 5) g_nil))) (ss_one (s_set (i := 3) sc.nd rfl (by first | exact Or.inl rfl | exact Or.inr rfl) (d_add (d_var 3) (d_mul (d_var 5) (d_callB (CallR.or' (cr_min rfl) (call_min2 rfl)) cd_min rfl T.b_min (by decide +kernel) (ap_cons (d_lc rfl sc.nd (own := [("_law_name", 6)]) (i_list (d_var 2)) (blkOk_by (own := [("_law_name", 6)]) (N := N__law_cost) (sc := defScope (top 46)) (by decide +kernel)) (g_name 6) (by decide) (fun _ _ _ _ _ => pg_name (i := 6) sc.nd rfl (by first | exact Or.inl rfl | exact Or.inr rfl)) (fun _ _ _ _ _ => dts_nil) (fun _ _ _ _ _ => d_index (d_var 4) (d_var 6))) ap_nil))))))) (ss_one (s_ret (d_var 3))))
abbrev N__law_gain : List Str := ["_law_folk_here", "_law_weights_here", "_law_one", "_law_other", "_law_found", "_law_ranking", "_law_weight"]
theorem sc__law_gain : FnScope N__law_gain ["_law_folk_here", "_law_weights_here", "_law_one", "_law_other"] (defScope (top 47)) := ⟨rfl, rfl, rfl, by decide +kernel, rfl, by decide +kernel, by decide +kernel⟩
theorem w__law_gain (T : Txt K mg) : Cal P w K mg base (clOf K) "_law_gain" 1 ["_law_folk_here", "_law_weights_here", "_law_one", "_law_other"] F_law_gain := by
  have sc := sc__law_gain
  refine cal_of T.d__law_gain sc (by decide) fun f cdv A outer s H E hr => ?_
  have tk : Takes (cxOf (L2.CX P w) P w K mg base N__law_gain "_law_gain" (defScope (top 47)) f cdv A outer s H E) (fun cls d _ H => E cls d H) := takes_of rfl rfl rfl rfl
  exact ss_cons (s_set (i := 4) sc.nd rfl (by first | exact Or.inl rfl | exact Or.inr rfl) d_int) (ss_cons (s_for (passes_of rfl) rfl (i_zip rfl T.b_zip (ae_cons (d_var 0) (ae_cons (d_var 1) ae_nil)) (fun h => pi_zip (by rfl) T.b_zip h)) (pg_tup rfl (pgs_cons (pg_name (i := 5) sc.nd rfl (by first | exact Or.inl rfl | exact Or.inr rfl)) (pgs_cons (pg_name (i := 6) sc.nd rfl (by first | exact Or.inl rfl | exact Or.inr rfl)) pgs_nil))) (g_tup (n := 2) (g_cons (g_name 5) (g_cons (g_name 6) g_nil))) (ss_one (s_set (i := 4) sc.nd rfl (by first | exact Or.inl rfl | exact Or.inr rfl) (d_add (d_var 4) (d_mul (d_var 6) (d_callB (CallR.or' (cr_max rfl) (call_max2 rfl)) cd_max rfl T.b_max (by decide +kernel) (ap_cons d_int (ap_cons (d_sub (d_index (d_var 5) (d_var 2)) (d_index (d_var 5) (d_var 3))) ap_nil)))))))) (ss_one (s_ret (d_var 4))))
abbrev N__law_bounds : List Str := ["_law_things", "_law_ahead_of", "_law_j", "_law_at", "_law_folk_here", "_law_weights_here", "_law_line_here", "_law_k"]
theorem sc__law_bounds : FnScope N__law_bounds ["_law_things", "_law_ahead_of", "_law_j", "_law_at"] (defScope (top 48)) := ⟨rfl, rfl, rfl, by decide +kernel, rfl, by decide +kernel, by decide +kernel⟩
theorem w__law_bounds (T : Txt K mg)
    (c__law_cost : Cal P w K mg base (clOf K) "_law_cost" 1 ["_law_folk_here", "_law_weights_here", "_law_names_here"] F_law_cost)
    (c__law_gain : Cal P w K mg base (clOf K) "_law_gain" 1 ["_law_folk_here", "_law_weights_here", "_law_one", "_law_other"] F_law_gain) : Cal P w K mg base (clOf K) "_law_bounds" 2 ["_law_things", "_law_ahead_of", "_law_j", "_law_at"] F_law_bounds := by
  have sc := sc__law_bounds
  refine cal_of T.d__law_bounds sc (by decide) fun f cdv A outer s H E hr => ?_
  have tk : Takes (cxOf (L2.CX P w) P w K mg base N__law_bounds "_law_bounds" (defScope (top 48)) f cdv A outer s H E) (fun cls d _ H => E cls d H) := takes_of rfl rfl rfl rfl
  exact ss_cons (s_asgB (d_var 0) (pg_or (pg_tup rfl (pgs_cons (pg_name (i := 4) sc.nd rfl (by first | exact Or.inl rfl | exact Or.inr rfl)) (pgs_cons (pg_name (i := 5) sc.nd rfl (by first | exact Or.inl rfl | exact Or.inr rfl)) (pgs_cons (pg_name (i := 6) sc.nd rfl (by first | exact Or.inl rfl | exact Or.inr rfl)) pgs_nil)))) (pg_unl rfl (pgs_cons (pg_name (i := 4) sc.nd rfl (by first | exact Or.inl rfl | exact Or.inr rfl)) (pgs_cons (pg_name (i := 5) sc.nd rfl (by first | exact Or.inl rfl | exact Or.inr rfl)) (pgs_cons (pg_name (i := 6) sc.nd rfl (by first | exact Or.inl rfl | exact Or.inr rfl)) pgs_nil))))) (g_seq (n := 3) (g_cons (g_name 4) (g_cons (g_name 5) (g_cons (g_name 6) g_nil))))) (ss_cons (s_if (t_eq hr.units (d_var 2) d_int) (ss_one (s_ret (d_lst (ae_cons (d_cal c__law_cost (hr.mono (by decide)) (passAt tk) (ae_cons (d_var 4) (ae_cons (d_var 5) (ae_cons (d_lst (ae_cons (d_ix (d_var 6) (d_var 3) (fun _ _ => rfl)) ae_nil)) ae_nil)))) ae_nil)))) ss_nil) (ss_one (s_ret (d_lc rfl sc.nd (own := [("_law_k", 7)]) (i_range2 rfl T.b_range (ap_cons (d_sub (d_var 2) d_int) (ap_cons (d_var 3) ap_nil))) (blkOk_by (own := [("_law_k", 7)]) (N := N__law_bounds) (sc := defScope (top 48)) (by decide +kernel)) (g_name 7) (by decide) (fun _ _ _ _ _ => pg_name (i := 7) sc.nd rfl (by first | exact Or.inl rfl | exact Or.inr rfl)) (fun _ _ _ _ _ => dts_nil) (fun _ _ _ _ _ => d_sub (d_ix (d_var 1) (d_var 7) (fun _ _ => rfl)) (d_cal c__law_gain (hr.mono (by decide)) passA0 (ae_cons (d_var 4) (ae_cons (d_var 5) (ae_cons (d_ix (d_var 6) (d_var 7) (fun _ _ => rfl)) (ae_cons (d_ix (d_var 6) (d_var 3) (fun _ _ => rfl)) ae_nil))))))))))
abbrev N__law_is_few_table : List Str := ["_law_many", "_law_wide", "_law_table", "_law_j", "_law_row", "_law_number"]
theorem sc__law_is_few_table : FnScope N__law_is_few_table ["_law_many", "_law_wide", "_law_table"] (defScope (top 49)) := ⟨rfl, rfl, rfl, by decide +kernel, rfl, by decide +kernel, by decide +kernel⟩
theorem w__law_is_few_table (T : Txt K mg)
    (c__law_whole : Cal P w K mg base (clOf K) "_law_whole" 1 ["_law_found"] F_law_whole) : Cal P w K mg base (clOf K) "_law_is_few_table" 2 ["_law_many", "_law_wide", "_law_table"] F_law_is_few_table := by
  have sc := sc__law_is_few_table
  refine cal_of T.d__law_is_few_table sc (by decide) fun f cdv A outer s H E hr => ?_
  have tk : Takes (cxOf (L2.CX P w) P w K mg base N__law_is_few_table "_law_is_few_table" (defScope (top 49)) f cdv A outer s H E) (fun cls d _ H => E cls d H) := takes_of rfl rfl rfl rfl
  exact ss_cons (s_if (d_tw (w_or (d_tnot (d_tval (d_isi (m := "list") (by decide) rfl T.b_isinstance (d_var 2) (pe_bltn rfl T.b_list (by decide +kernel) rfl)))) (w_or1 (t_ne hr.units (d_callB (CallR.or' call_len_seq call_len_str) cd_len rfl T.b_len (by decide +kernel) (ap_cons (d_var 2) ap_nil)) (d_var 0))))) (ss_one (s_ret d_bl)) ss_nil) (ss_cons (s_for (passes_of rfl) rfl (i_range1 rfl T.b_range (ap_cons (d_var 0) ap_nil)) (pg_name (i := 3) sc.nd rfl (by first | exact Or.inl rfl | exact Or.inr rfl)) (g_name 3) (ss_cons (s_set (i := 4) sc.nd rfl (by first | exact Or.inl rfl | exact Or.inr rfl) (d_ix (d_var 2) (d_var 3) (fun _ _ => rfl))) (ss_cons (s_if (d_tw (w_or (d_tnot (d_tval (d_isi (m := "list") (by decide) rfl T.b_isinstance (d_var 4) (pe_bltn rfl T.b_list (by decide +kernel) rfl)))) (w_or (t_ne hr.units (d_callB (CallR.or' call_len_seq call_len_str) cd_len rfl T.b_len (by decide +kernel) (ap_cons (d_var 4) ap_nil)) (d_var 1)) (w_or1 (t_ne hr.units (d_lc rfl sc.nd (own := [("_law_number", 5)]) (i_list (d_slice (d_var 4) dp_none (dp_some (d_var 3)))) (blkOk_by (own := [("_law_number", 5)]) (N := N__law_is_few_table) (sc := defScope (top 49)) (by decide +kernel)) (g_name 5) (by decide) (fun _ _ _ _ _ => pg_name (i := 5) sc.nd rfl (by first | exact Or.inl rfl | exact Or.inr rfl)) (fun _ _ _ _ _ => dts_one (t_notN (d_var 5))) (fun _ _ _ _ _ => d_var 5)) (d_lst ae_nil)))))) (ss_one (s_ret d_bl)) ss_nil) (ss_one (s_if (t_ne hr.units (d_lc rfl sc.nd (own := [("_law_number", 5)]) (i_list (d_slice (d_var 4) (dp_some (d_var 3)) dp_none)) (blkOk_by (own := [("_law_number", 5)]) (N := N__law_is_few_table) (sc := defScope (top 49)) (by decide +kernel)) (g_name 5) (by decide) (fun _ _ _ _ _ => pg_name (i := 5) sc.nd rfl (by first | exact Or.inl rfl | exact Or.inr rfl)) (fun _ _ _ _ _ => dts_one (d_tnot (d_tval (d_cal c__law_whole (hr.mono (by decide)) passA0 (ae_cons (d_var 5) ae_nil))))) (fun _ _ _ _ _ => d_var 5)) (d_lst ae_nil)) (ss_one (s_ret d_bl)) ss_nil))))) (ss_one (s_ret d_bl)))
abbrev N__law_few_wrong : List Str := ["_law_things", "_law_many", "_law_thing", "_law_folk_here", "_law_weights_here", "_law_line_here", "_law_price", "_law_names_here", "_law_table", "_law_j", "_law_at", "_law_late", "_law_name"]
theorem sc__law_few_wrong : FnScope N__law_few_wrong ["_law_things", "_law_many", "_law_thing"] (defScope (top 50)) := ⟨rfl, rfl, rfl, by decide +kernel, rfl, by decide +kernel, by decide +kernel⟩
theorem w__law_few_wrong (T : Txt K mg)
    (c__law_whole : Cal P w K mg base (clOf K) "_law_whole" 1 ["_law_found"] F_law_whole)
    (c__law_are_names : Cal P w K mg base (clOf K) "_law_are_names" 2 ["_law_names_here", "_law_thing"] F_law_are_names)
    (c__law_cost : Cal P w K mg base (clOf K) "_law_cost" 1 ["_law_folk_here", "_law_weights_here", "_law_names_here"] F_law_cost)
    (c__law_bounds : Cal P w K mg base (clOf K) "_law_bounds" 2 ["_law_things", "_law_ahead_of", "_law_j", "_law_at"] F_law_bounds)
    (c__law_is_few_table : Cal P w K mg base (clOf K) "_law_is_few_table" 2 ["_law_many", "_law_wide", "_law_table"] F_law_is_few_table) : Cal P w K mg base (clOf K) "_law_few_wrong" 3 ["_law_things", "_law_many", "_law_thing"] F_law_few_wrong := by
  have sc := sc__law_few_wrong
  refine cal_of T.d__law_few_wrong sc (by decide) fun f cdv A outer s H E hr => ?_
  have tk : Takes (cxOf (L2.CX P w) P w K mg base N__law_few_wrong "_law_few_wrong" (defScope (top 50)) f cdv A outer s H E) (fun cls d _ H => E cls d H) := takes_of rfl rfl rfl rfl
  exact ss_cons (s_asgB (d_var 0) (pg_or (pg_tup rfl (pgs_cons (pg_name (i := 3) sc.nd rfl (by first | exact Or.inl rfl | exact Or.inr rfl)) (pgs_cons (pg_name (i := 4) sc.nd rfl (by first | exact Or.inl rfl | exact Or.inr rfl)) (pgs_cons (pg_name (i := 5) sc.nd rfl (by first | exact Or.inl rfl | exact Or.inr rfl)) pgs_nil)))) (pg_unl rfl (pgs_cons (pg_name (i := 3) sc.nd rfl (by first | exact Or.inl rfl | exact Or.inr rfl)) (pgs_cons (pg_name (i := 4) sc.nd rfl (by first | exact Or.inl rfl | exact Or.inr rfl)) (pgs_cons (pg_name (i := 5) sc.nd rfl (by first | exact Or.inl rfl | exact Or.inr rfl)) pgs_nil))))) (g_seq (n := 3) (g_cons (g_name 3) (g_cons (g_name 4) (g_cons (g_name 5) g_nil))))) (ss_cons (s_if (d_tw (w_or (d_tnot (d_tval (d_isi (m := "tuple") (by decide) rfl T.b_isinstance (d_var 2) (pe_bltn rfl T.b_tuple (by decide +kernel) rfl)))) (w_or (t_ne hr.units (d_callB (CallR.or' call_len_seq call_len_str) cd_len rfl T.b_len (by decide +kernel) (ap_cons (d_var 2) ap_nil)) d_int) (w_or1 (d_tnot (d_tval (d_cal c__law_whole (hr.mono (by decide)) (passAt tk) (ae_cons (d_ix (d_var 2) d_int (fun _ _ => rfl)) ae_nil)))))))) (ss_one (s_ret (d_tup (ae_cons d_str ae_nil)))) ss_nil) (ss_cons (s_asgB (d_var 2) (pg_or (pg_tup rfl (pgs_cons (pg_name (i := 6) sc.nd rfl (by first | exact Or.inl rfl | exact Or.inr rfl)) (pgs_cons (pg_name (i := 7) sc.nd rfl (by first | exact Or.inl rfl | exact Or.inr rfl)) (pgs_cons (pg_name (i := 8) sc.nd rfl (by first | exact Or.inl rfl | exact Or.inr rfl)) pgs_nil)))) (pg_unl rfl (pgs_cons (pg_name (i := 6) sc.nd rfl (by first | exact Or.inl rfl | exact Or.inr rfl)) (pgs_cons (pg_name (i := 7) sc.nd rfl (by first | exact Or.inl rfl | exact Or.inr rfl)) (pgs_cons (pg_name (i := 8) sc.nd rfl (by first | exact Or.inl rfl | exact Or.inr rfl)) pgs_nil))))) (g_seq (n := 3) (g_cons (g_name 6) (g_cons (g_name 7) (g_cons (g_name 8) g_nil))))) (ss_cons (s_if (d_tw (w_or (d_tnot (d_tval (d_cal c__law_are_names (hr.mono (by decide)) (passAt tk) (ae_cons (d_var 5) (ae_cons (d_var 7) ae_nil))))) (w_or1 (t_ne hr.units (d_callB (CallR.or' call_len_seq call_len_str) cd_len rfl T.b_len (by decide +kernel) (ap_cons (d_var 7) ap_nil)) (d_var 1))))) (ss_one (s_ret (d_tup (ae_cons d_str ae_nil)))) ss_nil) (ss_cons (s_if (t_ne hr.units (d_lc rfl sc.nd (own := [("_law_name", 12)]) (i_list (d_var 5)) (blkOk_by (own := [("_law_name", 12)]) (N := N__law_few_wrong) (sc := defScope (top 50)) (by decide +kernel)) (g_name 12) (by decide) (fun _ _ _ _ _ => pg_name (i := 12) sc.nd rfl (by first | exact Or.inl rfl | exact Or.inr rfl)) (fun _ _ _ _ _ => dts_one (t_in hr.units (by rfl) (d_var 12) (d_var 7))) (fun _ _ _ _ _ => d_var 12)) (d_var 7)) (ss_one (s_ret (d_tup (ae_cons d_str ae_nil)))) ss_nil) (ss_cons (s_if (t_ne hr.units (d_cal c__law_cost (hr.mono (by decide)) (passAt tk) (ae_cons (d_var 3) (ae_cons (d_var 4) (ae_cons (d_var 7) ae_nil)))) (d_var 6)) (ss_one (s_ret (d_tup (ae_cons d_str ae_nil)))) ss_nil) (ss_cons (s_if (d_tnot (d_tval (d_cal c__law_is_few_table (hr.mono (by decide)) (passAt tk) (ae_cons (d_var 1) (ae_cons (d_callB (CallR.or' call_len_seq call_len_str) cd_len rfl T.b_len (by decide +kernel) (ap_cons (d_var 5) ap_nil)) (ae_cons (d_var 8) ae_nil)))))) (ss_one (s_ret (d_tup (ae_cons d_str ae_nil)))) ss_nil) (ss_cons (s_for (passes_of rfl) rfl (i_range1 rfl T.b_range (ap_cons (d_var 1) ap_nil)) (pg_name (i := 9) sc.nd rfl (by first | exact Or.inl rfl | exact Or.inr rfl)) (g_name 9) (ss_one (s_for (passes_of rfl) rfl (i_range2 rfl T.b_range (ap_cons (d_var 9) (ap_cons (d_callB (CallR.or' call_len_seq call_len_str) cd_len rfl T.b_len (by decide +kernel) (ap_cons (d_var 5) ap_nil)) ap_nil))) (pg_name (i := 10) sc.nd rfl (by first | exact Or.inl rfl | exact Or.inr rfl)) (g_name 10) (ss_one (s_if (t_gt (d_ix (d_ix (d_var 8) (d_var 9) (fun _ _ => rfl)) (d_var 10) (fun _ _ => rfl)) (d_callB (CallR.or' (cr_min rfl) (call_min2 rfl)) cd_min rfl T.b_min (by decide +kernel) (ap_cons (d_cal c__law_bounds (hr.mono (by decide)) (passAt tk) (ae_cons (d_var 0) (ae_cons (d_ix (d_add (d_lst (ae_cons (d_lst ae_nil) ae_nil)) (d_var 8)) (d_var 9) (fun _ _ => rfl)) (ae_cons (d_var 9) (ae_cons (d_var 10) ae_nil))))) ap_nil))) (ss_one (s_ret (d_tup (ae_cons d_str (ae_cons (d_var 9) (ae_cons (d_var 10) ae_nil)))))) ss_nil))))) (ss_cons (s_setLc (i := 11) rfl sc.nd rfl rfl (sw_true rfl rfl rfl (by decide +kernel)) (own := [("_law_at", 10)]) (i_range2 rfl T.b_range (ap_cons (d_sub (d_var 1) d_int) (ap_cons (d_callB (CallR.or' call_len_seq call_len_str) cd_len rfl T.b_len (by decide +kernel) (ap_cons (d_var 5) ap_nil)) ap_nil))) (blkOk_by (own := [("_law_at", 10)]) (N := N__law_few_wrong) (sc := defScope (top 50)) (by decide +kernel)) (g_name 10) (by decide) (fun _ _ _ _ _ => pg_name (i := 10) sc.nd rfl (by first | exact Or.inl rfl | exact Or.inr rfl)) (fun _ _ _ _ _ => dts_one (t_lt (d_ix (d_ix (d_var 8) (d_sub (d_var 1) d_int) (fun _ _ => rfl)) (d_var 10) (fun _ _ => rfl)) (d_var 6))) (fun _ _ _ _ _ => d_var 10)) (ss_one (s_ret (d_ix (d_add (d_lc rfl sc.nd (own := [("_law_at", 10)]) (i_list (d_var 11)) (blkOk_by (own := [("_law_at", 10)]) (N := N__law_few_wrong) (sc := defScope (top 50)) (by decide +kernel)) (g_name 10) (by decide) (fun _ _ _ _ _ => pg_name (i := 10) sc.nd rfl (by first | exact Or.inl rfl | exact Or.inr rfl)) (fun _ _ _ _ _ => dts_nil) (fun _ _ _ _ _ => d_tup (ae_cons d_str (ae_cons (d_var 10) ae_nil)))) (d_lst (ae_cons d_non ae_nil))) d_int (fun _ _ => rfl))))))))))))
abbrev N__law_copied : List Str := ["_law_thing", "_law_part"]
theorem sc__law_copied : FnScope N__law_copied ["_law_thing"] (defScope (top 51)) := ⟨rfl, rfl, rfl, by decide +kernel, rfl, by decide +kernel, by decide +kernel⟩
theorem w__law_copied (T : Txt K mg) : ∀ m : Nat, Cal P w K mg base (clOf K) "_law_copied" (m + 1) ["_law_thing"] (F_law_copied m) := by
  have sc := sc__law_copied
  intro m
  induction m with
  | zero => exact cal_of T.d__law_copied sc (by decide) fun f cdv A outer s H E hr => ss_nev
  | succ m crec =>
    refine (?_ : Cal P w K mg base (clOf K) "_law_copied" (m + 1 + 1) ["_law_thing"] (runF N__law_copied.length 1 (p_law_copied (F_law_copied m))))
    refine cal_of T.d__law_copied sc (by decide) fun f cdv A outer s H E hr => ?_
    have tk : Takes (cxOf (L2.CX P w) P w K mg base N__law_copied "_law_copied" (defScope (top 51)) f cdv A outer s H E) (fun cls d _ H => E cls d H) := takes_of rfl rfl rfl rfl
    exact ss_cons (s_if (d_tval (d_isi (m := "tuple") (by decide) rfl T.b_isinstance (d_var 0) (pe_bltn rfl T.b_tuple (by decide +kernel) rfl))) (ss_one (s_ret (d_callTy call_tuple_of cd_tuple rfl T.b_tuple (by decide +kernel) (ap_cons (d_lc rfl sc.nd (own := [("_law_part", 1)]) (i_list (d_var 0)) (blkOk_by (own := [("_law_part", 1)]) (N := N__law_copied) (sc := defScope (top 51)) (by decide +kernel)) (g_name 1) (by decide) (fun _ _ _ _ _ => pg_name (i := 1) sc.nd rfl (by first | exact Or.inl rfl | exact Or.inr rfl)) (fun _ _ _ _ _ => dts_nil) (fun _ _ _ _ _ => d_cal crec (hr.mono (Nat.le_refl _)) passA0 (ae_cons (d_var 1) ae_nil))) ap_nil)))) ss_nil) (ss_cons (s_if (d_tval (d_isi (m := "list") (by decide) rfl T.b_isinstance (d_var 0) (pe_bltn rfl T.b_list (by decide +kernel) rfl))) (ss_one (s_ret (d_lc rfl sc.nd (own := [("_law_part", 1)]) (i_list (d_var 0)) (blkOk_by (own := [("_law_part", 1)]) (N := N__law_copied) (sc := defScope (top 51)) (by decide +kernel)) (g_name 1) (by decide) (fun _ _ _ _ _ => pg_name (i := 1) sc.nd rfl (by first | exact Or.inl rfl | exact Or.inr rfl)) (fun _ _ _ _ _ => dts_nil) (fun _ _ _ _ _ => d_cal crec (hr.mono (Nat.le_refl _)) passA0 (ae_cons (d_var 1) ae_nil))))) ss_nil) (ss_one (s_ret (d_var 0))))
abbrev N__law_bent_names : List Str := ["_law_names_here", "_law_line_here", "_law_number", "_law_more", "_law_at", "_law_way", "_law_gaps", "_law_odd", "_law_name"]
theorem sc__law_bent_names : FnScope N__law_bent_names ["_law_names_here", "_law_line_here", "_law_number"] (defScope (top 52)) := ⟨rfl, rfl, rfl, by decide +kernel, rfl, by decide +kernel, by decide +kernel⟩
def lamx__law_bent_names (s : Stmt) : Expr := match defBody s with
  | _ :: _ :: _ :: _ :: (.If _ ((.Return (some e) _) :: _) _ _) :: _ => e
  | _ => .Name "" default
abbrev fr__law_bent_names : List Str := ["_law_line_here"]
abbrev N__law_bent_names_lam : List Str := ["_law_name", "_law_line_here"]
theorem lr__law_bent_names (T : Txt K mg) (q : Str) (cl' : List (Str × Addr)) (c' f : Addr) : LamRun P w K mg base 1 f ⟨q, (lamE (lamx__law_bent_names (top 52))).1, (lamE (lamx__law_bent_names (top 52))).2.1, (lamE (lamx__law_bent_names (top 52))).2.2, cl', c'⟩ ["_law_name"] fr__law_bent_names (spF K (clOf K) L_law_bent_names_v2_1) := by
  have sc : NdefX.NScope N__law_bent_names_lam ["_law_name"] fr__law_bent_names (lamE (lamx__law_bent_names (top 52))).2.2 := NdefX.nscope_by (by decide +kernel)
  refine lam_run (N := N__law_bent_names_lam) (ps := ["_law_name"]) (fr := fr__law_bent_names) (F := ⟨q, (lamE (lamx__law_bent_names (top 52))).1, (lamE (lamx__law_bent_names (top 52))).2.1, (lamE (lamx__law_bent_names (top 52))).2.2, cl', c'⟩) sc (by decide) (fun _ _ us hl => match us, hl with | [_], _ => rfl) fun A outer s H E hr => ?_
  have tk : Takes (NdefX.ncx (L2.CX P w) P w K mg base N__law_bent_names_lam (LF.nf ⟨q, (lamE (lamx__law_bent_names (top 52))).1, (lamE (lamx__law_bent_names (top 52))).2.1, (lamE (lamx__law_bent_names (top 52))).2.2, cl', c'⟩) f A outer s H E) (fun cls d _ H => E cls d H) := takes_of rfl rfl rfl rfl
  exact d_index (d_var 1) (d_var 0)
theorem w__law_bent_names (T : Txt K mg) {cc PP : Addr} (D : WrC K mg "_law_bent_names" (top 52) ["_law_names_here", "_law_line_here", "_law_number"] cc) (TB : LamX.TabB base mg cc PP) (hm : (PP, Str.ofString "_law_bent_names" ++ Str.ofString ".<locals>." ++ Str.ofString "<lambda>") ∈ tabA) (hu : ∀ p ∈ tabA, p.1 = PP → p.2 = Str.ofString "_law_bent_names" ++ Str.ofString ".<locals>." ++ Str.ofString "<lambda>") : Cal P w K mg base (clOf K) "_law_bent_names" 4 ["_law_names_here", "_law_line_here", "_law_number"] F_law_bent_names_v2 := by
  have sc := sc__law_bent_names
  refine cal_ofC D sc (by decide) fun f A outer s H E hr => ?_
  have tk : Takes (cxOf (L2.CX P w) P w K mg base N__law_bent_names "_law_bent_names" (defScope (top 52)) f (.ref cc) A outer s H E) (fun cls d _ H => E cls d H) := takes_of rfl rfl rfl rfl
  exact ss_cons (s_set (i := 3) sc.nd rfl (by first | exact Or.inl rfl | exact Or.inr rfl) (d_fdiv (d_var 2) d_int)) (ss_cons (s_set (i := 4) sc.nd rfl (by first | exact Or.inl rfl | exact Or.inr rfl) (d_mod (d_var 3) (d_callB (CallR.or' call_len_seq call_len_str) cd_len rfl T.b_len (by decide +kernel) (ap_cons (d_var 0) ap_nil)))) (ss_cons (s_set (i := 5) sc.nd rfl (by first | exact Or.inl rfl | exact Or.inr rfl) (d_mod (d_var 2) d_int)) (ss_cons (s_if (t_eq hr.units (d_var 5) d_int) (ss_one (s_ret (d_add (d_slice (d_var 0) dp_none (dp_some (d_var 4))) (d_slice (d_var 0) (dp_some (d_add (d_var 4) d_int)) dp_none)))) ss_nil) (ss_cons (s_if (t_eq hr.units (d_var 5) d_int) (ss_one (s_ret (d_sortL (js := [1]) (d_add (d_lst (ae_cons (d_ix (d_var 1) (d_mod (d_var 3) (d_callB (CallR.or' call_len_seq call_len_str) cd_len rfl T.b_len (by decide +kernel) (ap_cons (d_var 1) ap_nil))) (fun _ _ => rfl)) ae_nil)) (d_slice (d_var 0) (dp_some d_int) dp_none)) rfl rfl T.b_sorted TB rfl hm hu rfl (NdefX.ndef_free (sc := defScope (top 52)) (nsc := (lamE (lamx__law_bent_names (top 52))).2.2) (fr := fr__law_bent_names) (by decide +kernel)) (NdefX.ndef_fr (sc := defScope (top 52)) (nsc := (lamE (lamx__law_bent_names (top 52))).2.2) (by decide +kernel)) rfl rfl (hr.mono (by decide)) (fun f c' => lr__law_bent_names T  _ _ c' f)))) ss_nil) (ss_cons (s_if (t_eq hr.units (d_var 5) d_int) (ss_one (s_ret (d_rev (d_var 0)))) ss_nil) (ss_cons (s_if (t_eq hr.units (d_var 5) d_int) (ss_one (s_ret (d_mul (d_lst (ae_cons (d_ix (d_var 0) (d_var 4) (fun _ _ => rfl)) ae_nil)) (d_callB (CallR.or' call_len_seq call_len_str) cd_len rfl T.b_len (by decide +kernel) (ap_cons (d_var 0) ap_nil))))) ss_nil) (ss_cons (s_if (t_eq hr.units (d_var 5) d_int) (ss_cons (s_setLc (i := 6) rfl sc.nd rfl rfl (sw_true rfl rfl rfl (by decide +kernel)) (own := [("_law_name", 8)]) (i_list (d_var 1)) (blkOk_by (own := [("_law_name", 8)]) (N := N__law_bent_names) (sc := defScope (top 52)) (by decide +kernel)) (g_name 8) (by decide) (fun _ _ _ _ _ => pg_name (i := 8) sc.nd rfl (by first | exact Or.inl rfl | exact Or.inr rfl)) (fun _ _ _ _ _ => dts_one (t_notIn hr.units (by rfl) (d_add (d_var 8) d_int) (d_var 1))) (fun _ _ _ _ _ => d_add (d_var 8) d_int)) (ss_cons (s_set (i := 7) sc.nd rfl (by first | exact Or.inl rfl | exact Or.inr rfl) (d_ix (d_lst (ae_cons (d_add (d_callB (CallR.or' (cr_max rfl) (call_max2 rfl)) cd_max rfl T.b_max (by decide +kernel) (ap_cons (d_var 1) ap_nil)) d_int) (ae_cons (d_ix (d_var 6) (d_mod (d_fdiv (d_var 3) d_int) (d_callB (CallR.or' call_len_seq call_len_str) cd_len rfl T.b_len (by decide +kernel) (ap_cons (d_var 6) ap_nil))) (fun _ _ => rfl)) (ae_cons (d_sub (d_callB (CallR.or' (cr_min rfl) (call_min2 rfl)) cd_min rfl T.b_min (by decide +kernel) (ap_cons (d_var 1) ap_nil)) d_int) ae_nil)))) (d_mod (d_fdiv (d_var 3) d_int) d_int) (fun _ _ => rfl))) (ss_one (s_ret (d_add (d_add (d_slice (d_var 0) dp_none (dp_some (d_var 4))) (d_lst (ae_cons (d_var 7) ae_nil))) (d_slice (d_var 0) (dp_some (d_add (d_var 4) d_int)) dp_none)))))) ss_nil) (ss_cons (s_if (t_eq hr.units (d_var 5) d_int) (ss_one (s_ret (d_ix (d_lst (ae_cons (d_callTy call_tuple_of cd_tuple rfl T.b_tuple (by decide +kernel) (ap_cons (d_var 0) ap_nil)) (ae_cons d_non (ae_cons (d_lst ae_nil) (ae_cons (d_add (d_var 0) (d_slice (d_var 0) (dp_some (d_neg d_int)) dp_none)) ae_nil))))) (d_mod (d_var 3) d_int) (fun _ _ => rfl)))) ss_nil) (ss_cons (s_if (t_eq hr.units (d_var 5) d_int) (ss_cons (s_set (i := 7) sc.nd rfl (by first | exact Or.inl rfl | exact Or.inr rfl) (d_ix (d_lst (ae_cons d_non (ae_cons d_str (ae_cons (d_lst (ae_cons (d_ix (d_var 0) (d_var 4) (fun _ _ => rfl)) ae_nil)) (ae_cons (d_tup (ae_cons (d_ix (d_var 0) (d_var 4) (fun _ _ => rfl)) ae_nil)) (ae_cons d_bl ae_nil)))))) (d_mod (d_fdiv (d_var 3) d_int) d_int) (fun _ _ => rfl))) (ss_one (s_ret (d_add (d_add (d_slice (d_var 0) dp_none (dp_some (d_var 4))) (d_lst (ae_cons (d_var 7) ae_nil))) (d_slice (d_var 0) (dp_some (d_add (d_var 4) d_int)) dp_none))))) ss_nil) (ss_cons (s_set (i := 8) sc.nd rfl (by first | exact Or.inl rfl | exact Or.inr rfl) (d_ix (d_var 1) (d_mod (d_fdiv (d_var 3) d_int) (d_callB (CallR.or' call_len_seq call_len_str) cd_len rfl T.b_len (by decide +kernel) (ap_cons (d_var 1) ap_nil))) (fun _ _ => rfl))) (ss_one (s_ret (d_add (d_add (d_slice (d_var 0) dp_none (dp_some (d_var 4))) (d_lst (ae_cons (d_var 8) ae_nil))) (d_slice (d_var 0) (dp_some (d_add (d_var 4) d_int)) dp_none))))))))))))))
abbrev N__law_bent_table : List Str := ["_law_table", "_law_number", "_law_j", "_law_row", "_law_at", "_law_way", "_law_one", "_law_found", "_law_some"]
theorem sc__law_bent_table : FnScope N__law_bent_table ["_law_table", "_law_number"] (defScope (top 53)) := ⟨rfl, rfl, rfl, by decide +kernel, rfl, by decide +kernel, by decide +kernel⟩
theorem w__law_bent_table (T : Txt K mg) : Cal P w K mg base (clOf K) "_law_bent_table" 1 ["_law_table", "_law_number"] F_law_bent_table := by
  have sc := sc__law_bent_table
  refine cal_of T.d__law_bent_table sc (by decide) fun f cdv A outer s H E hr => ?_
  have tk : Takes (cxOf (L2.CX P w) P w K mg base N__law_bent_table "_law_bent_table" (defScope (top 53)) f cdv A outer s H E) (fun cls d _ H => E cls d H) := takes_of rfl rfl rfl rfl
  exact ss_cons (s_set (i := 2) sc.nd rfl (by first | exact Or.inl rfl | exact Or.inr rfl) (d_mod (d_fdiv (d_var 1) d_int) (d_callB (CallR.or' call_len_seq call_len_str) cd_len rfl T.b_len (by decide +kernel) (ap_cons (d_var 0) ap_nil)))) (ss_cons (s_set (i := 3) sc.nd rfl (by first | exact Or.inl rfl | exact Or.inr rfl) (d_ix (d_var 0) (d_var 2) (fun _ _ => rfl))) (ss_cons (s_set (i := 4) sc.nd rfl (by first | exact Or.inl rfl | exact Or.inr rfl) (d_mod (d_fdiv (d_var 1) d_int) (d_callB (CallR.or' call_len_seq call_len_str) cd_len rfl T.b_len (by decide +kernel) (ap_cons (d_var 3) ap_nil)))) (ss_cons (s_set (i := 5) sc.nd rfl (by first | exact Or.inl rfl | exact Or.inr rfl) (d_mod (d_var 1) d_int)) (ss_cons (s_if (d_tw (w_and (t_lt (d_var 5) d_int) (w_and1 (t_notN (d_ix (d_var 3) (d_var 4) (fun _ _ => rfl)))))) (ss_cons (s_set (i := 6) sc.nd rfl (by first | exact Or.inl rfl | exact Or.inr rfl) (d_ix (d_lst (ae_cons (d_add (d_ix (d_var 3) (d_var 4) (fun _ _ => rfl)) d_int) (ae_cons (d_sub (d_ix (d_var 3) (d_var 4) (fun _ _ => rfl)) d_int) (ae_cons (d_sub (d_ix (d_var 3) (d_var 4) (fun _ _ => rfl)) (d_pow d_int d_int)) (ae_cons d_non (ae_cons d_bl (ae_cons d_int (ae_cons d_str (ae_cons (d_lst (ae_cons d_int ae_nil)) ae_nil))))))))) (d_var 5) (fun _ _ => rfl))) (ss_cons (s_set (i := 3) sc.nd rfl (by first | exact Or.inl rfl | exact Or.inr rfl) (d_add (d_add (d_slice (d_var 3) dp_none (dp_some (d_var 4))) (d_lst (ae_cons (d_var 6) ae_nil))) (d_slice (d_var 3) (dp_some (d_add (d_var 4) d_int)) dp_none))) (ss_one (s_ret (d_add (d_add (d_slice (d_var 0) dp_none (dp_some (d_var 2))) (d_lst (ae_cons (d_var 3) ae_nil))) (d_slice (d_var 0) (dp_some (d_add (d_var 2) d_int)) dp_none)))))) ss_nil) (ss_cons (s_if (t_lt (d_var 5) d_int) (ss_one (s_ret (d_add (d_add (d_slice (d_var 0) dp_none (dp_some (d_var 2))) (d_lst (ae_cons (d_add (d_add (d_slice (d_var 3) dp_none (dp_some (d_var 4))) (d_lst (ae_cons d_int ae_nil))) (d_slice (d_var 3) (dp_some (d_add (d_var 4) d_int)) dp_none)) ae_nil))) (d_slice (d_var 0) (dp_some (d_add (d_var 2) d_int)) dp_none)))) ss_nil) (ss_cons (s_if (t_eq hr.units (d_var 5) d_int) (ss_one (s_ret (d_lc rfl sc.nd (own := [("_law_some", 8)]) (i_list (d_var 0)) (blkOk_by (own := [("_law_some", 8)]) (N := N__law_bent_table) (sc := defScope (top 53)) (by decide +kernel)) (g_name 8) (by decide) (fun _ _ _ _ _ => pg_name (i := 8) sc.nd rfl (by first | exact Or.inl rfl | exact Or.inr rfl)) (fun _ _ _ _ _ => dts_nil) (fun _ _ _ _ _ => d_lc rfl sc.nd (own := [("_law_one", 6)]) (i_list (d_var 8)) (blkOk_by (own := [("_law_one", 6)]) (N := N__law_bent_table) (by kernel_rfl)) (g_name 6) (by decide) (fun _ _ _ _ _ => pg_name (i := 6) sc.nd rfl (by first | exact Or.inl rfl | exact Or.inr rfl)) (fun _ _ _ _ _ => dts_nil) (fun _ _ _ _ _ => d_ix (d_lst (ae_cons (d_var 6) (ae_cons d_int ae_nil))) (d_callTy call_int1 cd_int rfl T.b_int (by decide +kernel) (ap_cons (d_notN (d_var 6)) ap_nil)) (fun _ _ => rfl)))))) ss_nil) (ss_cons (s_if (t_eq hr.units (d_var 5) d_int) (ss_one (s_ret (d_add (d_add (d_slice (d_var 0) dp_none (dp_some (d_var 2))) (d_lst (ae_cons (d_ix (d_lst (ae_cons (d_slice (d_var 3) (dp_some d_int) dp_none) (ae_cons (d_add (d_var 3) (d_lst (ae_cons d_int ae_nil))) (ae_cons (d_callTy call_tuple_of cd_tuple rfl T.b_tuple (by decide +kernel) (ap_cons (d_var 3) ap_nil)) (ae_cons d_non ae_nil))))) (d_mod (d_fdiv (d_var 1) d_int) d_int) (fun _ _ => rfl)) ae_nil))) (d_slice (d_var 0) (dp_some (d_add (d_var 2) d_int)) dp_none)))) ss_nil) (ss_cons (s_if (t_eq hr.units (d_var 5) d_int) (ss_one (s_ret (d_ix (d_lst (ae_cons (d_slice (d_var 0) dp_none (dp_some (d_neg d_int))) (ae_cons (d_add (d_var 0) (d_slice (d_var 0) dp_none (dp_some d_int))) (ae_cons d_non (ae_cons (d_callTy call_tuple_of cd_tuple rfl T.b_tuple (by decide +kernel) (ap_cons (d_var 0) ap_nil)) ae_nil))))) (d_mod (d_fdiv (d_var 1) d_int) d_int) (fun _ _ => rfl)))) ss_nil) (ss_cons (s_set (i := 7) sc.nd rfl (by first | exact Or.inl rfl | exact Or.inr rfl) (d_lst ae_nil)) (ss_cons (s_for (passes_of rfl) rfl (i_list (d_var 0)) (pg_name (i := 8) sc.nd rfl (by first | exact Or.inl rfl | exact Or.inr rfl)) (g_name 8) (ss_cons (s_expr (d_append (pv 7) (d_lc rfl sc.nd (own := [("_law_one", 6)]) (i_list (d_var 8)) (blkOk_by (own := [("_law_one", 6)]) (N := N__law_bent_table) (sc := defScope (top 53)) (by decide +kernel)) (g_name 6) (by decide) (fun _ _ _ _ _ => pg_name (i := 6) sc.nd rfl (by first | exact Or.inl rfl | exact Or.inr rfl)) (fun _ _ _ _ _ => dts_one (t_notN (d_var 6))) (fun _ _ _ _ _ => d_sub (d_var 6) (d_callTy call_int1 cd_int rfl T.b_int (by decide +kernel) (ap_cons (d_eq hr.units (d_var 5) d_int) ap_nil)))))) (ss_one (s_setIx (d_add (d_mul (d_lst (ae_cons d_non ae_nil)) (d_sub (d_callB (CallR.or' call_len_seq call_len_str) cd_len rfl T.b_len (by decide +kernel) (ap_cons (d_var 8) ap_nil)) (d_callB (CallR.or' call_len_seq call_len_str) cd_len rfl T.b_len (by decide +kernel) (ap_cons (d_ix (d_var 7) (d_neg d_int) (fun _ _ => rfl)) ap_nil)))) (d_ix (d_var 7) (d_neg d_int) (fun _ _ => rfl))) (pv 7) (d_neg d_int))))) (ss_one (s_ret (d_var 7)))))))))))))
abbrev N__law_bent : List Str := ["_law_things", "_law_told", "_law_number", "_law_price", "_law_names_here", "_law_table", "_law_way", "_law_more", "_law_other"]
theorem sc__law_bent : FnScope N__law_bent ["_law_things", "_law_told", "_law_number"] (defScope (top 54)) := ⟨rfl, rfl, rfl, by decide +kernel, rfl, by decide +kernel, by decide +kernel⟩
theorem w__law_bent (T : Txt K mg)
    (c__law_cost : Cal P w K mg base (clOf K) "_law_cost" 1 ["_law_folk_here", "_law_weights_here", "_law_names_here"] F_law_cost)
    (c__law_bent_names : Cal P w K mg base (clOf K) "_law_bent_names" 4 ["_law_names_here", "_law_line_here", "_law_number"] F_law_bent_names_v2)
    (c__law_bent_table : Cal P w K mg base (clOf K) "_law_bent_table" 1 ["_law_table", "_law_number"] F_law_bent_table) : Cal P w K mg base (clOf K) "_law_bent" 5 ["_law_things", "_law_told", "_law_number"] F_law_bent_v5 := by
  have sc := sc__law_bent
  refine cal_of T.d__law_bent sc (by decide) fun f cdv A outer s H E hr => ?_
  have tk : Takes (cxOf (L2.CX P w) P w K mg base N__law_bent "_law_bent" (defScope (top 54)) f cdv A outer s H E) (fun cls d _ H => E cls d H) := takes_of rfl rfl rfl rfl
  exact ss_cons (s_asgB (d_var 1) (pg_or (pg_tup rfl (pgs_cons (pg_name (i := 3) sc.nd rfl (by first | exact Or.inl rfl | exact Or.inr rfl)) (pgs_cons (pg_name (i := 4) sc.nd rfl (by first | exact Or.inl rfl | exact Or.inr rfl)) (pgs_cons (pg_name (i := 5) sc.nd rfl (by first | exact Or.inl rfl | exact Or.inr rfl)) pgs_nil)))) (pg_unl rfl (pgs_cons (pg_name (i := 3) sc.nd rfl (by first | exact Or.inl rfl | exact Or.inr rfl)) (pgs_cons (pg_name (i := 4) sc.nd rfl (by first | exact Or.inl rfl | exact Or.inr rfl)) (pgs_cons (pg_name (i := 5) sc.nd rfl (by first | exact Or.inl rfl | exact Or.inr rfl)) pgs_nil))))) (g_seq (n := 3) (g_cons (g_name 3) (g_cons (g_name 4) (g_cons (g_name 5) g_nil))))) (ss_cons (s_set (i := 6) sc.nd rfl (by first | exact Or.inl rfl | exact Or.inr rfl) (d_mod (d_var 2) d_int)) (ss_cons (s_set (i := 7) sc.nd rfl (by first | exact Or.inl rfl | exact Or.inr rfl) (d_fdiv (d_var 2) d_int)) (ss_cons (s_if (t_eq hr.units (d_var 6) d_int) (ss_one (s_ret (d_tup (ae_cons (d_ix (d_lst (ae_cons (d_add (d_var 3) d_int) (ae_cons (d_sub (d_var 3) d_int) (ae_cons d_bl (ae_cons d_non (ae_cons d_int (ae_cons d_str (ae_cons (d_lst (ae_cons (d_var 3) ae_nil)) ae_nil)))))))) (d_mod (d_var 7) d_int) (fun _ _ => rfl)) (ae_cons (d_var 4) (ae_cons (d_var 5) ae_nil)))))) ss_nil) (ss_cons (s_if (t_eq hr.units (d_var 6) d_int) (ss_one (s_ret (d_ix (d_lst (ae_cons (d_tup (ae_cons (d_var 3) (ae_cons (d_var 4) ae_nil))) (ae_cons (d_tup (ae_cons (d_var 3) (ae_cons (d_var 4) (ae_cons (d_var 5) (ae_cons d_non ae_nil))))) (ae_cons (d_lst (ae_cons (d_var 3) (ae_cons (d_var 4) (ae_cons (d_var 5) ae_nil)))) (ae_cons d_non ae_nil))))) (d_mod (d_var 7) d_int) (fun _ _ => rfl)))) ss_nil) (ss_cons (s_if (t_eq hr.units (d_var 6) d_int) (ss_one (s_ret (d_tup (ae_cons (d_var 3) (ae_cons (d_cal c__law_bent_names (hr.mono (by decide)) (passAt tk) (ae_cons (d_var 4) (ae_cons (d_ix (d_var 0) d_int (fun _ _ => rfl)) (ae_cons (d_var 7) ae_nil)))) (ae_cons (d_var 5) ae_nil)))))) ss_nil) (ss_cons (s_if (t_eq hr.units (d_var 6) d_int) (ss_cons (s_set (i := 8) sc.nd rfl (by first | exact Or.inl rfl | exact Or.inr rfl) (d_cal c__law_bent_names (hr.mono (by decide)) (passAt tk) (ae_cons (d_var 4) (ae_cons (d_ix (d_var 0) d_int (fun _ _ => rfl)) (ae_cons (d_add (d_mul d_int (d_fdiv (d_var 7) d_int)) d_int) ae_nil))))) (ss_one (s_ret (d_tup (ae_cons (d_cal c__law_cost (hr.mono (by decide)) (passAt tk) (ae_cons (d_ix (d_var 0) d_int (fun _ _ => rfl)) (ae_cons (d_ix (d_var 0) d_int (fun _ _ => rfl)) (ae_cons (d_var 8) ae_nil)))) (ae_cons (d_var 8) (ae_cons (d_var 5) ae_nil))))))) ss_nil) (ss_cons (s_if (t_eq hr.units (d_var 6) d_int) (ss_one (s_ret (d_tup (ae_cons (d_var 3) (ae_cons (d_cal c__law_bent_names (hr.mono (by decide)) (passAt tk) (ae_cons (d_var 4) (ae_cons (d_ix (d_var 0) d_int (fun _ _ => rfl)) (ae_cons (d_var 7) ae_nil)))) (ae_cons (d_cal c__law_bent_table (hr.mono (by decide)) (passAt tk) (ae_cons (d_var 5) (ae_cons (d_fdiv (d_var 7) d_int) ae_nil))) ae_nil)))))) ss_nil) (ss_one (s_ret (d_tup (ae_cons (d_var 3) (ae_cons (d_var 4) (ae_cons (d_cal c__law_bent_table (hr.mono (by decide)) (passAt tk) (ae_cons (d_var 5) (ae_cons (d_var 7) ae_nil))) ae_nil)))))))))))))
abbrev N_law : List Str := ["_law_script", "_law_draws_here", "_law_line_here", "_law_hands", "_law_folk_here", "_law_weights_here", "_law_many", "_law_things", "_law_told", "_law_thing", "_law_due", "_law_handed", "_law_found", "_law_draw", "_law_one"]
theorem sc_law : FnScope N_law ["_law_script"] (defScope (top 55)) := ⟨rfl, rfl, rfl, by decide +kernel, rfl, by decide +kernel, by decide +kernel⟩
theorem w_law (T : Txt K mg) (hp : LawOkS 15 p_law_k61)
    (c_few : Cal P w K mg base (clOf K) "few" 8 ["folk", "weights", "line", "many"] F_few)
    (c_few_judged : Cal P w K mg base (clOf K) "few_judged" 8 ["folk", "weights", "line", "many", "thing"] F_few_judged)
    (c__law_draws : Cal P w K mg base (clOf K) "_law_draws" 1 ["_law_script", "_law_j", "_law_many"] F_law_draws)
    (c__law_line : Cal P w K mg base (clOf K) "_law_line" 2 ["_law_script", "_law_j", "_law_many"] F_law_line_v2)
    (c__law_folk : Cal P w K mg base (clOf K) "_law_folk" 2 ["_law_script", "_law_j", "_law_line_here", "_law_hands", "_law_free"] F_law_folk_v3)
    (c__law_weights : Cal P w K mg base (clOf K) "_law_weights" 2 ["_law_script", "_law_j", "_law_hands"] F_law_weights)
    (c__law_few_wrong : Cal P w K mg base (clOf K) "_law_few_wrong" 3 ["_law_things", "_law_many", "_law_thing"] F_law_few_wrong)
    (c__law_copied : Cal P w K mg base (clOf K) "_law_copied" 7 ["_law_thing"] (F_law_copied 6))
    (c__law_bent : Cal P w K mg base (clOf K) "_law_bent" 5 ["_law_things", "_law_told", "_law_number"] F_law_bent_v5) {f : Addr} {fd : FuncData} (F : Fun K "law" "law" (top 55) f fd) : FnG P w K mg base (L2.CX P w) 9 f fd ["_law_script"] (spLaw K) := by
  have sc := sc_law
  refine law_ok2 (cl := clOf K) F sc (fun f cdv A outer s H E hr => ?_) hp
  have tk : Takes (cxOf (L2.CX P w) P w K mg base N_law "law" (defScope (top 55)) f cdv A outer s H E) (fun cls d _ H => E cls d H) := takes_of rfl rfl rfl rfl
  exact ss_cons (s_set (i := 1) sc.nd rfl (by first | exact Or.inl rfl | exact Or.inr rfl) (d_cal c__law_draws (hr.mono (by decide)) (passAt tk) (ae_cons (d_var 0) (ae_cons d_int (ae_cons d_int ae_nil))))) (ss_cons (s_set (i := 2) sc.nd rfl (by first | exact Or.inl rfl | exact Or.inr rfl) (d_cal c__law_line (hr.mono (by decide)) (passAt tk) (ae_cons (d_var 0) (ae_cons d_int (ae_cons (d_ix (d_lst (ae_cons (d_add d_int (d_mod (d_ix (d_var 1) d_int (fun _ _ => rfl)) d_int)) (ae_cons d_int ae_nil))) (d_callTy call_int1 cd_int rfl T.b_int (by decide +kernel) (ap_cons (d_eq hr.units (d_mod (d_fdiv (d_ix (d_var 1) d_int (fun _ _ => rfl)) d_int) d_int) d_int) ap_nil)) (fun _ _ => rfl)) ae_nil))))) (ss_cons (s_set (i := 3) sc.nd rfl (by first | exact Or.inl rfl | exact Or.inr rfl) (d_ix (d_lst (ae_cons (d_add d_int (d_mod (d_ix (d_var 1) d_int (fun _ _ => rfl)) d_int)) (ae_cons d_int ae_nil))) (d_callTy call_int1 cd_int rfl T.b_int (by decide +kernel) (ap_cons (d_eq hr.units (d_mod (d_fdiv (d_ix (d_var 1) d_int (fun _ _ => rfl)) d_int) d_int) d_int) ap_nil)) (fun _ _ => rfl))) (ss_cons (s_set (i := 4) sc.nd rfl (by first | exact Or.inl rfl | exact Or.inr rfl) (d_cal c__law_folk (hr.mono (by decide)) (passAt tk) (ae_cons (d_var 0) (ae_cons d_int (ae_cons (d_var 2) (ae_cons (d_var 3) (ae_cons (d_var 3) ae_nil))))))) (ss_cons (s_set (i := 5) sc.nd rfl (by first | exact Or.inl rfl | exact Or.inr rfl) (d_cal c__law_weights (hr.mono (by decide)) (passAt tk) (ae_cons (d_var 0) (ae_cons d_int (ae_cons (d_var 3) ae_nil))))) (ss_cons (s_set (i := 6) sc.nd rfl (by first | exact Or.inl rfl | exact Or.inr rfl) (d_add d_int (d_mod (d_ix (d_var 1) d_int (fun _ _ => rfl)) (d_callB (CallR.or' call_len_seq call_len_str) cd_len rfl T.b_len (by decide +kernel) (ap_cons (d_var 2) ap_nil))))) (ss_cons (s_set (i := 7) sc.nd rfl (by first | exact Or.inl rfl | exact Or.inr rfl) (d_lst (ae_cons (d_var 4) (ae_cons (d_var 5) (ae_cons (d_var 2) ae_nil))))) (ss_cons (s_set (i := 8) sc.nd rfl (by first | exact Or.inl rfl | exact Or.inr rfl) (d_cal c_few (hr.mono (by decide)) (passAt tk) (ae_cons (d_var 4) (ae_cons (d_var 5) (ae_cons (d_var 2) (ae_cons (d_var 6) ae_nil)))))) (ss_cons (s_for (passes_of rfl) rfl (i_list (d_add (d_lst (ae_cons (d_var 8) ae_nil)) (d_lc rfl sc.nd (own := [("_law_draw", 13)]) (i_list (d_slice (d_var 1) (dp_some d_int) dp_none)) (blkOk_by (own := [("_law_draw", 13)]) (N := N_law) (sc := defScope (top 55)) (by decide +kernel)) (g_name 13) (by decide) (fun _ _ _ _ _ => pg_name (i := 13) sc.nd rfl (by first | exact Or.inl rfl | exact Or.inr rfl)) (fun _ _ _ _ _ => dts_nil) (fun _ _ _ _ _ => d_cal c__law_bent (hr.mono (by decide)) passA0 (ae_cons (d_var 7) (ae_cons (d_var 8) (ae_cons (d_var 13) ae_nil))))))) (pg_name (i := 9) sc.nd rfl (by first | exact Or.inl rfl | exact Or.inr rfl)) (g_name 9) (ss_cons (s_set (i := 10) sc.nd rfl (by first | exact Or.inl rfl | exact Or.inr rfl) (d_cal c__law_few_wrong (hr.mono (by decide)) (passAt tk) (ae_cons (d_var 7) (ae_cons (d_var 6) (ae_cons (d_var 9) ae_nil))))) (ss_cons (s_set (i := 11) sc.nd rfl (by first | exact Or.inl rfl | exact Or.inr rfl) (d_cal c__law_copied (hr.mono (by decide)) (passAt tk) (ae_cons (d_add (d_var 7) (d_lst (ae_cons (d_var 9) ae_nil))) ae_nil))) (ss_cons (s_set (i := 12) sc.nd rfl (by first | exact Or.inl rfl | exact Or.inr rfl) (d_cal c_few_judged (hr.mono (by decide)) (passAt tk) (ae_cons (d_ix (d_var 11) d_int (fun _ _ => rfl)) (ae_cons (d_ix (d_var 11) d_int (fun _ _ => rfl)) (ae_cons (d_ix (d_var 11) d_int (fun _ _ => rfl)) (ae_cons (d_var 6) (ae_cons (d_ix (d_var 11) d_int (fun _ _ => rfl)) ae_nil))))))) (ss_cons (s_if (d_tw (w_or (t_ne hr.units (d_var 12) (d_var 10)) (w_or1 (t_ne hr.units (d_var 11) (d_add (d_var 7) (d_lst (ae_cons (d_var 9) ae_nil))))))) (ss_one (s_ret d_bl)) ss_nil) (ss_cons (s_if (d_tw (w_and (t_notN (d_var 12)) (w_and1 (d_tnot (d_tval (d_isi (m := "tuple") (by decide) rfl T.b_isinstance (d_var 12) (pe_bltn rfl T.b_tuple (by decide +kernel) rfl))))))) (ss_one (s_ret d_bl)) ss_nil) (ss_one (s_if (d_tw (w_and (t_notN (d_var 12)) (w_and1 (t_in hr.units (by rfl) d_bl (d_lc rfl sc.nd (own := [("_law_one", 14)]) (i_list (d_var 12)) (blkOk_by (own := [("_law_one", 14)]) (N := N_law) (sc := defScope (top 55)) (by decide +kernel)) (g_name 14) (by decide) (fun _ _ _ _ _ => pg_name (i := 14) sc.nd rfl (by first | exact Or.inl rfl | exact Or.inr rfl)) (fun _ _ _ _ _ => dts_nil) (fun _ _ _ _ _ => d_isi (m := "bool") (by decide) rfl T.b_isinstance (d_var 14) (pe_bltn rfl T.b_bool (by decide +kernel) rfl))))))) (ss_one (s_ret d_bl)) ss_nil)))))))) (ss_one (s_ret d_bl))))))))))
end
theorem all_mk {P : Program} {w : World} {K : PySem.W.Frag} {h : Heap} {mg : Str → Option Value} {ts : List Addr} {fa : Addr} (X : K.In h) (G : h.Ns mainGlobals mg) (TT : ∀ P ∈ ts, h.get? P = some { cls := .none, data := .fields #[] }) (hfa : mg "law" = some (.ref fa)) {f_is_number : Addr} {od_is_number an_is_number : Option Addr} {sl_is_number : Array (Option Value)} {oc_is_number kV_is_number dc_is_number pm_is_number cd_is_number ct_is_number : Value} {f_are_unlike_names : Addr} {od_are_unlike_names an_are_unlike_names : Option Addr} {sl_are_unlike_names : Array (Option Value)} {oc_are_unlike_names kV_are_unlike_names dc_are_unlike_names pm_are_unlike_names cd_are_unlike_names ct_are_unlike_names : Value} {f_is_ranking : Addr} {od_is_ranking an_is_ranking : Option Addr} {sl_is_ranking : Array (Option Value)} {oc_is_ranking kV_is_ranking dc_is_ranking pm_is_ranking cd_is_ranking ct_is_ranking : Value} {f_is_folk : Addr} {od_is_folk an_is_folk : Option Addr} {sl_is_folk : Array (Option Value)} {oc_is_folk kV_is_folk dc_is_folk pm_is_folk cd_is_folk ct_is_folk : Value} {f_must_be_folk : Addr} {od_must_be_folk an_must_be_folk : Option Addr} {sl_must_be_folk : Array (Option Value)} {oc_must_be_folk kV_must_be_folk dc_must_be_folk pm_must_be_folk cd_must_be_folk ct_must_be_folk : Value} {f_is_line : Addr} {od_is_line an_is_line : Option Addr} {sl_is_line : Array (Option Value)} {oc_is_line kV_is_line dc_is_line pm_is_line cd_is_line ct_is_line : Value} {f_must_be_line : Addr} {od_must_be_line an_must_be_line : Option Addr} {sl_must_be_line : Array (Option Value)} {oc_must_be_line kV_must_be_line dc_must_be_line pm_must_be_line cd_must_be_line ct_must_be_line : Value} {f_does_fall : Addr} {od_does_fall an_does_fall : Option Addr} {sl_does_fall : Array (Option Value)} {oc_does_fall kV_does_fall dc_does_fall pm_does_fall cd_does_fall ct_does_fall : Value} {f_must_be_weighed : Addr} {od_must_be_weighed an_must_be_weighed : Option Addr} {sl_must_be_weighed : Array (Option Value)} {oc_must_be_weighed kV_must_be_weighed dc_must_be_weighed pm_must_be_weighed cd_must_be_weighed ct_must_be_weighed : Value} {f_must_fall : Addr} {od_must_fall an_must_fall : Option Addr} {sl_must_fall : Array (Option Value)} {oc_must_fall kV_must_fall dc_must_fall pm_must_fall cd_must_fall ct_must_fall : Value} {f_paid : Addr} {od_paid an_paid : Option Addr} {sl_paid : Array (Option Value)} {oc_paid kV_paid dc_paid pm_paid cd_paid ct_paid : Value} {f_gain : Addr} {od_gain an_gain : Option Addr} {sl_gain : Array (Option Value)} {oc_gain kV_gain dc_gain pm_gain cd_gain ct_gain : Value} {f_bounds : Addr} {od_bounds an_bounds : Option Addr} {sl_bounds : Array (Option Value)} {oc_bounds kV_bounds dc_bounds pm_bounds cd_bounds ct_bounds : Value} {f_filled : Addr} {od_filled an_filled : Option Addr} {sl_filled : Array (Option Value)} {oc_filled kV_filled dc_filled pm_filled cd_filled ct_filled : Value} {f_must_be_asked : Addr} {od_must_be_asked an_must_be_asked : Option Addr} {sl_must_be_asked : Array (Option Value)} {oc_must_be_asked kV_must_be_asked dc_must_be_asked pm_must_be_asked cd_must_be_asked ct_must_be_asked : Value} {f_last_of : Addr} {od_last_of an_last_of : Option Addr} {sl_last_of : Array (Option Value)} {oc_last_of kV_last_of dc_last_of pm_last_of cd_last_of ct_last_of : Value} {f_few : Addr} {od_few an_few : Option Addr} {sl_few : Array (Option Value)} {oc_few kV_few dc_few pm_few cd_few ct_few : Value} {f_are_along : Addr} {od_are_along an_are_along : Option Addr} {sl_are_along : Array (Option Value)} {oc_are_along kV_are_along dc_are_along pm_are_along cd_are_along ct_are_along : Value} {f_is_row : Addr} {od_is_row an_is_row : Option Addr} {sl_is_row : Array (Option Value)} {oc_is_row kV_is_row dc_is_row pm_is_row cd_is_row ct_is_row : Value} {f_is_table : Addr} {od_is_table an_is_table : Option Addr} {sl_is_table : Array (Option Value)} {oc_is_table kV_is_table dc_is_table pm_is_table cd_is_table ct_is_table : Value} {f_table_wrong : Addr} {od_table_wrong an_table_wrong : Option Addr} {sl_table_wrong : Array (Option Value)} {oc_table_wrong kV_table_wrong dc_table_wrong pm_table_wrong cd_table_wrong ct_table_wrong : Value} {f_few_judged : Addr} {od_few_judged an_few_judged : Option Addr} {sl_few_judged : Array (Option Value)} {oc_few_judged kV_few_judged dc_few_judged pm_few_judged cd_few_judged ct_few_judged : Value} {f__law_whole : Addr} {od__law_whole an__law_whole : Option Addr} {sl__law_whole : Array (Option Value)} {oc__law_whole kV__law_whole dc__law_whole pm__law_whole cd__law_whole ct__law_whole : Value} {f__law_draws : Addr} {od__law_draws an__law_draws : Option Addr} {sl__law_draws : Array (Option Value)} {oc__law_draws kV__law_draws dc__law_draws pm__law_draws cd__law_draws ct__law_draws : Value} {f__law_names : Addr} {od__law_names an__law_names : Option Addr} {sl__law_names : Array (Option Value)} {oc__law_names kV__law_names dc__law_names pm__law_names cd__law_names ct__law_names : Value} {f__law_shuffled : Addr} {od__law_shuffled an__law_shuffled : Option Addr} {sl__law_shuffled : Array (Option Value)} {oc__law_shuffled kV__law_shuffled dc__law_shuffled pm__law_shuffled cd__law_shuffled ct__law_shuffled : Value} {f__law_fallen : Addr} {od__law_fallen an__law_fallen : Option Addr} {sl__law_fallen : Array (Option Value)} {oc__law_fallen kV__law_fallen dc__law_fallen pm__law_fallen cd__law_fallen ct__law_fallen : Value} {f__law_line : Addr} {od__law_line an__law_line : Option Addr} {sl__law_line : Array (Option Value)} {oc__law_line kV__law_line dc__law_line pm__law_line cd__law_line ct__law_line : Value} {f__law_folk : Addr} {od__law_folk an__law_folk : Option Addr} {sl__law_folk : Array (Option Value)} {oc__law_folk kV__law_folk dc__law_folk pm__law_folk cd__law_folk ct__law_folk : Value} {f__law_weights : Addr} {od__law_weights an__law_weights : Option Addr} {sl__law_weights : Array (Option Value)} {oc__law_weights kV__law_weights dc__law_weights pm__law_weights cd__law_weights ct__law_weights : Value} {f__law_are_names : Addr} {od__law_are_names an__law_are_names : Option Addr} {sl__law_are_names : Array (Option Value)} {oc__law_are_names kV__law_are_names dc__law_are_names pm__law_are_names cd__law_are_names ct__law_are_names : Value} {f__law_cost : Addr} {od__law_cost an__law_cost : Option Addr} {sl__law_cost : Array (Option Value)} {oc__law_cost kV__law_cost dc__law_cost pm__law_cost cd__law_cost ct__law_cost : Value} {f__law_gain : Addr} {od__law_gain an__law_gain : Option Addr} {sl__law_gain : Array (Option Value)} {oc__law_gain kV__law_gain dc__law_gain pm__law_gain cd__law_gain ct__law_gain : Value} {f__law_bounds : Addr} {od__law_bounds an__law_bounds : Option Addr} {sl__law_bounds : Array (Option Value)} {oc__law_bounds kV__law_bounds dc__law_bounds pm__law_bounds cd__law_bounds ct__law_bounds : Value} {f__law_is_few_table : Addr} {od__law_is_few_table an__law_is_few_table : Option Addr} {sl__law_is_few_table : Array (Option Value)} {oc__law_is_few_table kV__law_is_few_table dc__law_is_few_table pm__law_is_few_table cd__law_is_few_table ct__law_is_few_table : Value} {f__law_few_wrong : Addr} {od__law_few_wrong an__law_few_wrong : Option Addr} {sl__law_few_wrong : Array (Option Value)} {oc__law_few_wrong kV__law_few_wrong dc__law_few_wrong pm__law_few_wrong cd__law_few_wrong ct__law_few_wrong : Value} {f__law_copied : Addr} {od__law_copied an__law_copied : Option Addr} {sl__law_copied : Array (Option Value)} {oc__law_copied kV__law_copied dc__law_copied pm__law_copied cd__law_copied ct__law_copied : Value} {f__law_bent_names cc__law_bent_names PP__law_bent_names : Addr} {od__law_bent_names an__law_bent_names : Option Addr} {sl__law_bent_names : Array (Option Value)} {oc__law_bent_names kV__law_bent_names dc__law_bent_names pm__law_bent_names ct__law_bent_names : Value} {f__law_bent_table : Addr} {od__law_bent_table an__law_bent_table : Option Addr} {sl__law_bent_table : Array (Option Value)} {oc__law_bent_table kV__law_bent_table dc__law_bent_table pm__law_bent_table cd__law_bent_table ct__law_bent_table : Value} {f__law_bent : Addr} {od__law_bent an__law_bent : Option Addr} {sl__law_bent : Array (Option Value)} {oc__law_bent kV__law_bent dc__law_bent pm__law_bent cd__law_bent ct__law_bent : Value} {f_law : Addr} {od_law an_law : Option Addr} {sl_law : Array (Option Value)} {oc_law kV_law dc_law pm_law cd_law ct_law : Value} {t_MOST_NAMES : Tok} {t_MOST_HANDS : Tok} {C_NoFit : Addr} {C_NoFolk : Addr} {C_NoLine : Addr} {C_NoNumber : Addr} {C_NoWeights : Addr} {C_FolkError : Addr}
    (a_is_number : PySem.W.nsIn K mainGlobals "is_number" = some (some (.ref f_is_number))) (l_is_number : K.lookup f_is_number = some ⟨oc_is_number, od_is_number, .func (PySem.W.fnOf "is_number" "is_number" (defArgs (top 11)) (defBody (top 11)) (defScope (top 11)) .none kV_is_number dc_is_number pm_is_number an_is_number cd_is_number ct_is_number), sl_is_number⟩) (c_is_number : PySem.W.codeIn K cd_is_number "is_number" = true) (k_is_number : PySem.W.keepIn K (.ref f_is_number) = true)
    (a_are_unlike_names : PySem.W.nsIn K mainGlobals "are_unlike_names" = some (some (.ref f_are_unlike_names))) (l_are_unlike_names : K.lookup f_are_unlike_names = some ⟨oc_are_unlike_names, od_are_unlike_names, .func (PySem.W.fnOf "are_unlike_names" "are_unlike_names" (defArgs (top 12)) (defBody (top 12)) (defScope (top 12)) .none kV_are_unlike_names dc_are_unlike_names pm_are_unlike_names an_are_unlike_names cd_are_unlike_names ct_are_unlike_names), sl_are_unlike_names⟩) (c_are_unlike_names : PySem.W.codeIn K cd_are_unlike_names "are_unlike_names" = true) (k_are_unlike_names : PySem.W.keepIn K (.ref f_are_unlike_names) = true)
    (a_is_ranking : PySem.W.nsIn K mainGlobals "is_ranking" = some (some (.ref f_is_ranking))) (l_is_ranking : K.lookup f_is_ranking = some ⟨oc_is_ranking, od_is_ranking, .func (PySem.W.fnOf "is_ranking" "is_ranking" (defArgs (top 13)) (defBody (top 13)) (defScope (top 13)) .none kV_is_ranking dc_is_ranking pm_is_ranking an_is_ranking cd_is_ranking ct_is_ranking), sl_is_ranking⟩) (c_is_ranking : PySem.W.codeIn K cd_is_ranking "is_ranking" = true) (k_is_ranking : PySem.W.keepIn K (.ref f_is_ranking) = true)
    (a_is_folk : PySem.W.nsIn K mainGlobals "is_folk" = some (some (.ref f_is_folk))) (l_is_folk : K.lookup f_is_folk = some ⟨oc_is_folk, od_is_folk, .func (PySem.W.fnOf "is_folk" "is_folk" (defArgs (top 14)) (defBody (top 14)) (defScope (top 14)) .none kV_is_folk dc_is_folk pm_is_folk an_is_folk cd_is_folk ct_is_folk), sl_is_folk⟩) (c_is_folk : PySem.W.codeIn K cd_is_folk "is_folk" = true) (k_is_folk : PySem.W.keepIn K (.ref f_is_folk) = true)
    (a_must_be_folk : PySem.W.nsIn K mainGlobals "must_be_folk" = some (some (.ref f_must_be_folk))) (l_must_be_folk : K.lookup f_must_be_folk = some ⟨oc_must_be_folk, od_must_be_folk, .func (PySem.W.fnOf "must_be_folk" "must_be_folk" (defArgs (top 15)) (defBody (top 15)) (defScope (top 15)) .none kV_must_be_folk dc_must_be_folk pm_must_be_folk an_must_be_folk cd_must_be_folk ct_must_be_folk), sl_must_be_folk⟩) (c_must_be_folk : PySem.W.codeIn K cd_must_be_folk "must_be_folk" = true) (k_must_be_folk : PySem.W.keepIn K (.ref f_must_be_folk) = true)
    (a_is_line : PySem.W.nsIn K mainGlobals "is_line" = some (some (.ref f_is_line))) (l_is_line : K.lookup f_is_line = some ⟨oc_is_line, od_is_line, .func (PySem.W.fnOf "is_line" "is_line" (defArgs (top 17)) (defBody (top 17)) (defScope (top 17)) .none kV_is_line dc_is_line pm_is_line an_is_line cd_is_line ct_is_line), sl_is_line⟩) (c_is_line : PySem.W.codeIn K cd_is_line "is_line" = true) (k_is_line : PySem.W.keepIn K (.ref f_is_line) = true)
    (a_must_be_line : PySem.W.nsIn K mainGlobals "must_be_line" = some (some (.ref f_must_be_line))) (l_must_be_line : K.lookup f_must_be_line = some ⟨oc_must_be_line, od_must_be_line, .func (PySem.W.fnOf "must_be_line" "must_be_line" (defArgs (top 18)) (defBody (top 18)) (defScope (top 18)) .none kV_must_be_line dc_must_be_line pm_must_be_line an_must_be_line cd_must_be_line ct_must_be_line), sl_must_be_line⟩) (c_must_be_line : PySem.W.codeIn K cd_must_be_line "must_be_line" = true) (k_must_be_line : PySem.W.keepIn K (.ref f_must_be_line) = true)
    (a_does_fall : PySem.W.nsIn K mainGlobals "does_fall" = some (some (.ref f_does_fall))) (l_does_fall : K.lookup f_does_fall = some ⟨oc_does_fall, od_does_fall, .func (PySem.W.fnOf "does_fall" "does_fall" (defArgs (top 19)) (defBody (top 19)) (defScope (top 19)) .none kV_does_fall dc_does_fall pm_does_fall an_does_fall cd_does_fall ct_does_fall), sl_does_fall⟩) (c_does_fall : PySem.W.codeIn K cd_does_fall "does_fall" = true) (k_does_fall : PySem.W.keepIn K (.ref f_does_fall) = true)
    (a_must_be_weighed : PySem.W.nsIn K mainGlobals "must_be_weighed" = some (some (.ref f_must_be_weighed))) (l_must_be_weighed : K.lookup f_must_be_weighed = some ⟨oc_must_be_weighed, od_must_be_weighed, .func (PySem.W.fnOf "must_be_weighed" "must_be_weighed" (defArgs (top 21)) (defBody (top 21)) (defScope (top 21)) .none kV_must_be_weighed dc_must_be_weighed pm_must_be_weighed an_must_be_weighed cd_must_be_weighed ct_must_be_weighed), sl_must_be_weighed⟩) (c_must_be_weighed : PySem.W.codeIn K cd_must_be_weighed "must_be_weighed" = true) (k_must_be_weighed : PySem.W.keepIn K (.ref f_must_be_weighed) = true)
    (a_must_fall : PySem.W.nsIn K mainGlobals "must_fall" = some (some (.ref f_must_fall))) (l_must_fall : K.lookup f_must_fall = some ⟨oc_must_fall, od_must_fall, .func (PySem.W.fnOf "must_fall" "must_fall" (defArgs (top 22)) (defBody (top 22)) (defScope (top 22)) .none kV_must_fall dc_must_fall pm_must_fall an_must_fall cd_must_fall ct_must_fall), sl_must_fall⟩) (c_must_fall : PySem.W.codeIn K cd_must_fall "must_fall" = true) (k_must_fall : PySem.W.keepIn K (.ref f_must_fall) = true)
    (a_paid : PySem.W.nsIn K mainGlobals "paid" = some (some (.ref f_paid))) (l_paid : K.lookup f_paid = some ⟨oc_paid, od_paid, .func (PySem.W.fnOf "paid" "paid" (defArgs (top 24)) (defBody (top 24)) (defScope (top 24)) .none kV_paid dc_paid pm_paid an_paid cd_paid ct_paid), sl_paid⟩) (c_paid : PySem.W.codeIn K cd_paid "paid" = true) (k_paid : PySem.W.keepIn K (.ref f_paid) = true)
    (a_gain : PySem.W.nsIn K mainGlobals "gain" = some (some (.ref f_gain))) (l_gain : K.lookup f_gain = some ⟨oc_gain, od_gain, .func (PySem.W.fnOf "gain" "gain" (defArgs (top 25)) (defBody (top 25)) (defScope (top 25)) .none kV_gain dc_gain pm_gain an_gain cd_gain ct_gain), sl_gain⟩) (c_gain : PySem.W.codeIn K cd_gain "gain" = true) (k_gain : PySem.W.keepIn K (.ref f_gain) = true)
    (a_bounds : PySem.W.nsIn K mainGlobals "bounds" = some (some (.ref f_bounds))) (l_bounds : K.lookup f_bounds = some ⟨oc_bounds, od_bounds, .func (PySem.W.fnOf "bounds" "bounds" (defArgs (top 26)) (defBody (top 26)) (defScope (top 26)) .none kV_bounds dc_bounds pm_bounds an_bounds cd_bounds ct_bounds), sl_bounds⟩) (c_bounds : PySem.W.codeIn K cd_bounds "bounds" = true) (k_bounds : PySem.W.keepIn K (.ref f_bounds) = true)
    (a_filled : PySem.W.nsIn K mainGlobals "filled" = some (some (.ref f_filled))) (l_filled : K.lookup f_filled = some ⟨oc_filled, od_filled, .func (PySem.W.fnOf "filled" "filled" (defArgs (top 27)) (defBody (top 27)) (defScope (top 27)) .none kV_filled dc_filled pm_filled an_filled cd_filled ct_filled), sl_filled⟩) (c_filled : PySem.W.codeIn K cd_filled "filled" = true) (k_filled : PySem.W.keepIn K (.ref f_filled) = true)
    (a_must_be_asked : PySem.W.nsIn K mainGlobals "must_be_asked" = some (some (.ref f_must_be_asked))) (l_must_be_asked : K.lookup f_must_be_asked = some ⟨oc_must_be_asked, od_must_be_asked, .func (PySem.W.fnOf "must_be_asked" "must_be_asked" (defArgs (top 28)) (defBody (top 28)) (defScope (top 28)) .none kV_must_be_asked dc_must_be_asked pm_must_be_asked an_must_be_asked cd_must_be_asked ct_must_be_asked), sl_must_be_asked⟩) (c_must_be_asked : PySem.W.codeIn K cd_must_be_asked "must_be_asked" = true) (k_must_be_asked : PySem.W.keepIn K (.ref f_must_be_asked) = true)
    (a_last_of : PySem.W.nsIn K mainGlobals "last_of" = some (some (.ref f_last_of))) (l_last_of : K.lookup f_last_of = some ⟨oc_last_of, od_last_of, .func (PySem.W.fnOf "last_of" "last_of" (defArgs (top 29)) (defBody (top 29)) (defScope (top 29)) .none kV_last_of dc_last_of pm_last_of an_last_of cd_last_of ct_last_of), sl_last_of⟩) (c_last_of : PySem.W.codeIn K cd_last_of "last_of" = true) (k_last_of : PySem.W.keepIn K (.ref f_last_of) = true)
    (a_few : PySem.W.nsIn K mainGlobals "few" = some (some (.ref f_few))) (l_few : K.lookup f_few = some ⟨oc_few, od_few, .func (PySem.W.fnOf "few" "few" (defArgs (top 30)) (defBody (top 30)) (defScope (top 30)) .none kV_few dc_few pm_few an_few cd_few ct_few), sl_few⟩) (c_few : PySem.W.codeIn K cd_few "few" = true) (k_few : PySem.W.keepIn K (.ref f_few) = true)
    (a_are_along : PySem.W.nsIn K mainGlobals "are_along" = some (some (.ref f_are_along))) (l_are_along : K.lookup f_are_along = some ⟨oc_are_along, od_are_along, .func (PySem.W.fnOf "are_along" "are_along" (defArgs (top 31)) (defBody (top 31)) (defScope (top 31)) .none kV_are_along dc_are_along pm_are_along an_are_along cd_are_along ct_are_along), sl_are_along⟩) (c_are_along : PySem.W.codeIn K cd_are_along "are_along" = true) (k_are_along : PySem.W.keepIn K (.ref f_are_along) = true)
    (a_is_row : PySem.W.nsIn K mainGlobals "is_row" = some (some (.ref f_is_row))) (l_is_row : K.lookup f_is_row = some ⟨oc_is_row, od_is_row, .func (PySem.W.fnOf "is_row" "is_row" (defArgs (top 32)) (defBody (top 32)) (defScope (top 32)) .none kV_is_row dc_is_row pm_is_row an_is_row cd_is_row ct_is_row), sl_is_row⟩) (c_is_row : PySem.W.codeIn K cd_is_row "is_row" = true) (k_is_row : PySem.W.keepIn K (.ref f_is_row) = true)
    (a_is_table : PySem.W.nsIn K mainGlobals "is_table" = some (some (.ref f_is_table))) (l_is_table : K.lookup f_is_table = some ⟨oc_is_table, od_is_table, .func (PySem.W.fnOf "is_table" "is_table" (defArgs (top 33)) (defBody (top 33)) (defScope (top 33)) .none kV_is_table dc_is_table pm_is_table an_is_table cd_is_table ct_is_table), sl_is_table⟩) (c_is_table : PySem.W.codeIn K cd_is_table "is_table" = true) (k_is_table : PySem.W.keepIn K (.ref f_is_table) = true)
    (a_table_wrong : PySem.W.nsIn K mainGlobals "table_wrong" = some (some (.ref f_table_wrong))) (l_table_wrong : K.lookup f_table_wrong = some ⟨oc_table_wrong, od_table_wrong, .func (PySem.W.fnOf "table_wrong" "table_wrong" (defArgs (top 34)) (defBody (top 34)) (defScope (top 34)) .none kV_table_wrong dc_table_wrong pm_table_wrong an_table_wrong cd_table_wrong ct_table_wrong), sl_table_wrong⟩) (c_table_wrong : PySem.W.codeIn K cd_table_wrong "table_wrong" = true) (k_table_wrong : PySem.W.keepIn K (.ref f_table_wrong) = true)
    (a_few_judged : PySem.W.nsIn K mainGlobals "few_judged" = some (some (.ref f_few_judged))) (l_few_judged : K.lookup f_few_judged = some ⟨oc_few_judged, od_few_judged, .func (PySem.W.fnOf "few_judged" "few_judged" (defArgs (top 35)) (defBody (top 35)) (defScope (top 35)) .none kV_few_judged dc_few_judged pm_few_judged an_few_judged cd_few_judged ct_few_judged), sl_few_judged⟩) (c_few_judged : PySem.W.codeIn K cd_few_judged "few_judged" = true) (k_few_judged : PySem.W.keepIn K (.ref f_few_judged) = true)
    (a__law_whole : PySem.W.nsIn K mainGlobals "_law_whole" = some (some (.ref f__law_whole))) (l__law_whole : K.lookup f__law_whole = some ⟨oc__law_whole, od__law_whole, .func (PySem.W.fnOf "_law_whole" "_law_whole" (defArgs (top 37)) (defBody (top 37)) (defScope (top 37)) .none kV__law_whole dc__law_whole pm__law_whole an__law_whole cd__law_whole ct__law_whole), sl__law_whole⟩) (c__law_whole : PySem.W.codeIn K cd__law_whole "_law_whole" = true) (k__law_whole : PySem.W.keepIn K (.ref f__law_whole) = true)
    (a__law_draws : PySem.W.nsIn K mainGlobals "_law_draws" = some (some (.ref f__law_draws))) (l__law_draws : K.lookup f__law_draws = some ⟨oc__law_draws, od__law_draws, .func (PySem.W.fnOf "_law_draws" "_law_draws" (defArgs (top 38)) (defBody (top 38)) (defScope (top 38)) .none kV__law_draws dc__law_draws pm__law_draws an__law_draws cd__law_draws ct__law_draws), sl__law_draws⟩) (c__law_draws : PySem.W.codeIn K cd__law_draws "_law_draws" = true) (k__law_draws : PySem.W.keepIn K (.ref f__law_draws) = true)
    (a__law_names : PySem.W.nsIn K mainGlobals "_law_names" = some (some (.ref f__law_names))) (l__law_names : K.lookup f__law_names = some ⟨oc__law_names, od__law_names, .func (PySem.W.fnOf "_law_names" "_law_names" (defArgs (top 39)) (defBody (top 39)) (defScope (top 39)) .none kV__law_names dc__law_names pm__law_names an__law_names cd__law_names ct__law_names), sl__law_names⟩) (c__law_names : PySem.W.codeIn K cd__law_names "_law_names" = true) (k__law_names : PySem.W.keepIn K (.ref f__law_names) = true)
    (a__law_shuffled : PySem.W.nsIn K mainGlobals "_law_shuffled" = some (some (.ref f__law_shuffled))) (l__law_shuffled : K.lookup f__law_shuffled = some ⟨oc__law_shuffled, od__law_shuffled, .func (PySem.W.fnOf "_law_shuffled" "_law_shuffled" (defArgs (top 40)) (defBody (top 40)) (defScope (top 40)) .none kV__law_shuffled dc__law_shuffled pm__law_shuffled an__law_shuffled cd__law_shuffled ct__law_shuffled), sl__law_shuffled⟩) (c__law_shuffled : PySem.W.codeIn K cd__law_shuffled "_law_shuffled" = true) (k__law_shuffled : PySem.W.keepIn K (.ref f__law_shuffled) = true)
    (a__law_fallen : PySem.W.nsIn K mainGlobals "_law_fallen" = some (some (.ref f__law_fallen))) (l__law_fallen : K.lookup f__law_fallen = some ⟨oc__law_fallen, od__law_fallen, .func (PySem.W.fnOf "_law_fallen" "_law_fallen" (defArgs (top 41)) (defBody (top 41)) (defScope (top 41)) .none kV__law_fallen dc__law_fallen pm__law_fallen an__law_fallen cd__law_fallen ct__law_fallen), sl__law_fallen⟩) (c__law_fallen : PySem.W.codeIn K cd__law_fallen "_law_fallen" = true) (k__law_fallen : PySem.W.keepIn K (.ref f__law_fallen) = true)
    (a__law_line : PySem.W.nsIn K mainGlobals "_law_line" = some (some (.ref f__law_line))) (l__law_line : K.lookup f__law_line = some ⟨oc__law_line, od__law_line, .func (PySem.W.fnOf "_law_line" "_law_line" (defArgs (top 42)) (defBody (top 42)) (defScope (top 42)) .none kV__law_line dc__law_line pm__law_line an__law_line cd__law_line ct__law_line), sl__law_line⟩) (c__law_line : PySem.W.codeIn K cd__law_line "_law_line" = true) (k__law_line : PySem.W.keepIn K (.ref f__law_line) = true)
    (a__law_folk : PySem.W.nsIn K mainGlobals "_law_folk" = some (some (.ref f__law_folk))) (l__law_folk : K.lookup f__law_folk = some ⟨oc__law_folk, od__law_folk, .func (PySem.W.fnOf "_law_folk" "_law_folk" (defArgs (top 43)) (defBody (top 43)) (defScope (top 43)) .none kV__law_folk dc__law_folk pm__law_folk an__law_folk cd__law_folk ct__law_folk), sl__law_folk⟩) (c__law_folk : PySem.W.codeIn K cd__law_folk "_law_folk" = true) (k__law_folk : PySem.W.keepIn K (.ref f__law_folk) = true)
    (a__law_weights : PySem.W.nsIn K mainGlobals "_law_weights" = some (some (.ref f__law_weights))) (l__law_weights : K.lookup f__law_weights = some ⟨oc__law_weights, od__law_weights, .func (PySem.W.fnOf "_law_weights" "_law_weights" (defArgs (top 44)) (defBody (top 44)) (defScope (top 44)) .none kV__law_weights dc__law_weights pm__law_weights an__law_weights cd__law_weights ct__law_weights), sl__law_weights⟩) (c__law_weights : PySem.W.codeIn K cd__law_weights "_law_weights" = true) (k__law_weights : PySem.W.keepIn K (.ref f__law_weights) = true)
    (a__law_are_names : PySem.W.nsIn K mainGlobals "_law_are_names" = some (some (.ref f__law_are_names))) (l__law_are_names : K.lookup f__law_are_names = some ⟨oc__law_are_names, od__law_are_names, .func (PySem.W.fnOf "_law_are_names" "_law_are_names" (defArgs (top 45)) (defBody (top 45)) (defScope (top 45)) .none kV__law_are_names dc__law_are_names pm__law_are_names an__law_are_names cd__law_are_names ct__law_are_names), sl__law_are_names⟩) (c__law_are_names : PySem.W.codeIn K cd__law_are_names "_law_are_names" = true) (k__law_are_names : PySem.W.keepIn K (.ref f__law_are_names) = true)
    (a__law_cost : PySem.W.nsIn K mainGlobals "_law_cost" = some (some (.ref f__law_cost))) (l__law_cost : K.lookup f__law_cost = some ⟨oc__law_cost, od__law_cost, .func (PySem.W.fnOf "_law_cost" "_law_cost" (defArgs (top 46)) (defBody (top 46)) (defScope (top 46)) .none kV__law_cost dc__law_cost pm__law_cost an__law_cost cd__law_cost ct__law_cost), sl__law_cost⟩) (c__law_cost : PySem.W.codeIn K cd__law_cost "_law_cost" = true) (k__law_cost : PySem.W.keepIn K (.ref f__law_cost) = true)
    (a__law_gain : PySem.W.nsIn K mainGlobals "_law_gain" = some (some (.ref f__law_gain))) (l__law_gain : K.lookup f__law_gain = some ⟨oc__law_gain, od__law_gain, .func (PySem.W.fnOf "_law_gain" "_law_gain" (defArgs (top 47)) (defBody (top 47)) (defScope (top 47)) .none kV__law_gain dc__law_gain pm__law_gain an__law_gain cd__law_gain ct__law_gain), sl__law_gain⟩) (c__law_gain : PySem.W.codeIn K cd__law_gain "_law_gain" = true) (k__law_gain : PySem.W.keepIn K (.ref f__law_gain) = true)
    (a__law_bounds : PySem.W.nsIn K mainGlobals "_law_bounds" = some (some (.ref f__law_bounds))) (l__law_bounds : K.lookup f__law_bounds = some ⟨oc__law_bounds, od__law_bounds, .func (PySem.W.fnOf "_law_bounds" "_law_bounds" (defArgs (top 48)) (defBody (top 48)) (defScope (top 48)) .none kV__law_bounds dc__law_bounds pm__law_bounds an__law_bounds cd__law_bounds ct__law_bounds), sl__law_bounds⟩) (c__law_bounds : PySem.W.codeIn K cd__law_bounds "_law_bounds" = true) (k__law_bounds : PySem.W.keepIn K (.ref f__law_bounds) = true)
    (a__law_is_few_table : PySem.W.nsIn K mainGlobals "_law_is_few_table" = some (some (.ref f__law_is_few_table))) (l__law_is_few_table : K.lookup f__law_is_few_table = some ⟨oc__law_is_few_table, od__law_is_few_table, .func (PySem.W.fnOf "_law_is_few_table" "_law_is_few_table" (defArgs (top 49)) (defBody (top 49)) (defScope (top 49)) .none kV__law_is_few_table dc__law_is_few_table pm__law_is_few_table an__law_is_few_table cd__law_is_few_table ct__law_is_few_table), sl__law_is_few_table⟩) (c__law_is_few_table : PySem.W.codeIn K cd__law_is_few_table "_law_is_few_table" = true) (k__law_is_few_table : PySem.W.keepIn K (.ref f__law_is_few_table) = true)
    (a__law_few_wrong : PySem.W.nsIn K mainGlobals "_law_few_wrong" = some (some (.ref f__law_few_wrong))) (l__law_few_wrong : K.lookup f__law_few_wrong = some ⟨oc__law_few_wrong, od__law_few_wrong, .func (PySem.W.fnOf "_law_few_wrong" "_law_few_wrong" (defArgs (top 50)) (defBody (top 50)) (defScope (top 50)) .none kV__law_few_wrong dc__law_few_wrong pm__law_few_wrong an__law_few_wrong cd__law_few_wrong ct__law_few_wrong), sl__law_few_wrong⟩) (c__law_few_wrong : PySem.W.codeIn K cd__law_few_wrong "_law_few_wrong" = true) (k__law_few_wrong : PySem.W.keepIn K (.ref f__law_few_wrong) = true)
    (a__law_copied : PySem.W.nsIn K mainGlobals "_law_copied" = some (some (.ref f__law_copied))) (l__law_copied : K.lookup f__law_copied = some ⟨oc__law_copied, od__law_copied, .func (PySem.W.fnOf "_law_copied" "_law_copied" (defArgs (top 51)) (defBody (top 51)) (defScope (top 51)) .none kV__law_copied dc__law_copied pm__law_copied an__law_copied cd__law_copied ct__law_copied), sl__law_copied⟩) (c__law_copied : PySem.W.codeIn K cd__law_copied "_law_copied" = true) (k__law_copied : PySem.W.keepIn K (.ref f__law_copied) = true)
    (a__law_bent_names : PySem.W.nsIn K mainGlobals "_law_bent_names" = some (some (.ref f__law_bent_names))) (l__law_bent_names : K.lookup f__law_bent_names = some ⟨oc__law_bent_names, od__law_bent_names, .func (PySem.W.fnOf "_law_bent_names" "_law_bent_names" (defArgs (top 52)) (defBody (top 52)) (defScope (top 52)) .none kV__law_bent_names dc__law_bent_names pm__law_bent_names an__law_bent_names (.ref cc__law_bent_names) ct__law_bent_names), sl__law_bent_names⟩) (c__law_bent_names : PySem.W.codeIn K (.ref cc__law_bent_names) "_law_bent_names" = true) (k__law_bent_names : PySem.W.keepIn K (.ref f__law_bent_names) = true)
    (tA__law_bent_names : tabA = [(PP__law_bent_names, Str.ofString "_law_bent_names" ++ Str.ofString ".<locals>." ++ Str.ofString "<lambda>")]) (ti__law_bent_names : PySem.W.codeHdIn K cc__law_bent_names PP__law_bent_names = true) (tn__law_bent_names : K.lookup PP__law_bent_names = none) (tm__law_bent_names : PP__law_bent_names ∈ ts)
    (a__law_bent_table : PySem.W.nsIn K mainGlobals "_law_bent_table" = some (some (.ref f__law_bent_table))) (l__law_bent_table : K.lookup f__law_bent_table = some ⟨oc__law_bent_table, od__law_bent_table, .func (PySem.W.fnOf "_law_bent_table" "_law_bent_table" (defArgs (top 53)) (defBody (top 53)) (defScope (top 53)) .none kV__law_bent_table dc__law_bent_table pm__law_bent_table an__law_bent_table cd__law_bent_table ct__law_bent_table), sl__law_bent_table⟩) (c__law_bent_table : PySem.W.codeIn K cd__law_bent_table "_law_bent_table" = true) (k__law_bent_table : PySem.W.keepIn K (.ref f__law_bent_table) = true)
    (a__law_bent : PySem.W.nsIn K mainGlobals "_law_bent" = some (some (.ref f__law_bent))) (l__law_bent : K.lookup f__law_bent = some ⟨oc__law_bent, od__law_bent, .func (PySem.W.fnOf "_law_bent" "_law_bent" (defArgs (top 54)) (defBody (top 54)) (defScope (top 54)) .none kV__law_bent dc__law_bent pm__law_bent an__law_bent cd__law_bent ct__law_bent), sl__law_bent⟩) (c__law_bent : PySem.W.codeIn K cd__law_bent "_law_bent" = true) (k__law_bent : PySem.W.keepIn K (.ref f__law_bent) = true)
    (a_law : PySem.W.nsIn K mainGlobals "law" = some (some (.ref f_law))) (l_law : K.lookup f_law = some ⟨oc_law, od_law, .func (PySem.W.fnOf "law" "law" (defArgs (top 55)) (defBody (top 55)) (defScope (top 55)) .none kV_law dc_law pm_law an_law cd_law ct_law), sl_law⟩) (c_law : PySem.W.codeIn K cd_law "law" = true) (k_law : PySem.W.keepIn K (.ref f_law) = true)
    (z_isinstance : PySem.W.nsIn K mainGlobals "isinstance" = some none)
    (z_int : PySem.W.nsIn K mainGlobals "int" = some none)
    (z_bool : PySem.W.nsIn K mainGlobals "bool" = some none)
    (z_len : PySem.W.nsIn K mainGlobals "len" = some none)
    (z_list : PySem.W.nsIn K mainGlobals "list" = some none)
    (z_all : PySem.W.nsIn K mainGlobals "all" = some none)
    (z_set : PySem.W.nsIn K mainGlobals "set" = some none)
    (z_sorted : PySem.W.nsIn K mainGlobals "sorted" = some none)
    (z_min : PySem.W.nsIn K mainGlobals "min" = some none)
    (z_max : PySem.W.nsIn K mainGlobals "max" = some none)
    (z_enumerate : PySem.W.nsIn K mainGlobals "enumerate" = some none)
    (z_zip : PySem.W.nsIn K mainGlobals "zip" = some none)
    (z_range : PySem.W.nsIn K mainGlobals "range" = some none)
    (z_tuple : PySem.W.nsIn K mainGlobals "tuple" = some none)
    (g_MOST_NAMES : PySem.W.nsIn K mainGlobals "MOST_NAMES" = some (some (.int 10 t_MOST_NAMES)))
    (g_MOST_HANDS : PySem.W.nsIn K mainGlobals "MOST_HANDS" = some (some (.int 20 t_MOST_HANDS)))
    (ca_NoFit : PySem.W.nsIn K mainGlobals "NoFit" = some (some (.ref C_NoFit)))
    (cb_NoFit : PySem.W.subIn K (.ref C_NoFit) (.type "BaseException") = some true)
    (ct_NoFit : PySem.W.typeIn K (.ref C_NoFit) = some (.type "type"))
    (cd_NoFit : PySem.W.hasDictIn K C_NoFit = true)
    (ca_NoFolk : PySem.W.nsIn K mainGlobals "NoFolk" = some (some (.ref C_NoFolk)))
    (cb_NoFolk : PySem.W.subIn K (.ref C_NoFolk) (.type "BaseException") = some true)
    (ct_NoFolk : PySem.W.typeIn K (.ref C_NoFolk) = some (.type "type"))
    (cd_NoFolk : PySem.W.hasDictIn K C_NoFolk = true)
    (ca_NoLine : PySem.W.nsIn K mainGlobals "NoLine" = some (some (.ref C_NoLine)))
    (cb_NoLine : PySem.W.subIn K (.ref C_NoLine) (.type "BaseException") = some true)
    (ct_NoLine : PySem.W.typeIn K (.ref C_NoLine) = some (.type "type"))
    (cd_NoLine : PySem.W.hasDictIn K C_NoLine = true)
    (ca_NoNumber : PySem.W.nsIn K mainGlobals "NoNumber" = some (some (.ref C_NoNumber)))
    (cb_NoNumber : PySem.W.subIn K (.ref C_NoNumber) (.type "BaseException") = some true)
    (ct_NoNumber : PySem.W.typeIn K (.ref C_NoNumber) = some (.type "type"))
    (cd_NoNumber : PySem.W.hasDictIn K C_NoNumber = true)
    (ca_NoWeights : PySem.W.nsIn K mainGlobals "NoWeights" = some (some (.ref C_NoWeights)))
    (cb_NoWeights : PySem.W.subIn K (.ref C_NoWeights) (.type "BaseException") = some true)
    (ct_NoWeights : PySem.W.typeIn K (.ref C_NoWeights) = some (.type "type"))
    (cd_NoWeights : PySem.W.hasDictIn K C_NoWeights = true)
    (ca_FolkError : PySem.W.nsIn K mainGlobals "FolkError" = some (some (.ref C_FolkError)))
    (cb_FolkError : PySem.W.subIn K (.ref C_FolkError) (.type "BaseException") = some true)
    (ct_FolkError : PySem.W.typeIn K (.ref C_FolkError) = some (.type "type"))
    (cd_FolkError : PySem.W.hasDictIn K C_FolkError = true)
    (cx_NoFit : PySem.W.excIn K C_NoFit [.type "ValueError", .type "Exception", .type "BaseException", .type "object"] "ValueError.__new__" = true)
    (ck_NoFit : PySem.W.keepIn K (.ref C_NoFit) = true)
    (cv_NoFit : PySem.W.subIn K (.ref C_NoFit) (.type "ValueError") = some true)
    (cg_NoFit : PySem.W.findIn K (.ref C_NoFit) "__getattribute__" = some (some (.builtin "BaseException.__getattribute__")))
    (ch_NoFit : PySem.W.findIn K (.ref C_NoFit) "__getattr__" = some none)
    (cc_NoFit : PySem.W.findIn K (.ref C_NoFit) "__class__" = some (some (.builtin "object.__class__")))
    (cm_NoFit : PySem.W.mroIn K C_NoFit (.type "object") = some true)
    (cf_NoFit : PySem.W.subIn K (.ref C_NoFit) (.ref C_FolkError) = some true)
    (cp_NoFit_NoFit : PySem.W.subIn K (.ref C_NoFit) (.ref C_NoFit) = some true)
    (cp_NoFit_NoFolk : PySem.W.subIn K (.ref C_NoFit) (.ref C_NoFolk) = some false)
    (cp_NoFit_NoLine : PySem.W.subIn K (.ref C_NoFit) (.ref C_NoLine) = some false)
    (cp_NoFit_NoNumber : PySem.W.subIn K (.ref C_NoFit) (.ref C_NoNumber) = some false)
    (cp_NoFit_NoWeights : PySem.W.subIn K (.ref C_NoFit) (.ref C_NoWeights) = some false)
    (cx_NoFolk : PySem.W.excIn K C_NoFolk [.type "ValueError", .type "Exception", .type "BaseException", .type "object"] "ValueError.__new__" = true)
    (ck_NoFolk : PySem.W.keepIn K (.ref C_NoFolk) = true)
    (cv_NoFolk : PySem.W.subIn K (.ref C_NoFolk) (.type "ValueError") = some true)
    (cg_NoFolk : PySem.W.findIn K (.ref C_NoFolk) "__getattribute__" = some (some (.builtin "BaseException.__getattribute__")))
    (ch_NoFolk : PySem.W.findIn K (.ref C_NoFolk) "__getattr__" = some none)
    (cc_NoFolk : PySem.W.findIn K (.ref C_NoFolk) "__class__" = some (some (.builtin "object.__class__")))
    (cm_NoFolk : PySem.W.mroIn K C_NoFolk (.type "object") = some true)
    (cf_NoFolk : PySem.W.subIn K (.ref C_NoFolk) (.ref C_FolkError) = some true)
    (cp_NoFolk_NoFit : PySem.W.subIn K (.ref C_NoFolk) (.ref C_NoFit) = some false)
    (cp_NoFolk_NoFolk : PySem.W.subIn K (.ref C_NoFolk) (.ref C_NoFolk) = some true)
    (cp_NoFolk_NoLine : PySem.W.subIn K (.ref C_NoFolk) (.ref C_NoLine) = some false)
    (cp_NoFolk_NoNumber : PySem.W.subIn K (.ref C_NoFolk) (.ref C_NoNumber) = some false)
    (cp_NoFolk_NoWeights : PySem.W.subIn K (.ref C_NoFolk) (.ref C_NoWeights) = some false)
    (cx_NoLine : PySem.W.excIn K C_NoLine [.type "ValueError", .type "Exception", .type "BaseException", .type "object"] "ValueError.__new__" = true)
    (ck_NoLine : PySem.W.keepIn K (.ref C_NoLine) = true)
    (cv_NoLine : PySem.W.subIn K (.ref C_NoLine) (.type "ValueError") = some true)
    (cg_NoLine : PySem.W.findIn K (.ref C_NoLine) "__getattribute__" = some (some (.builtin "BaseException.__getattribute__")))
    (ch_NoLine : PySem.W.findIn K (.ref C_NoLine) "__getattr__" = some none)
    (cc_NoLine : PySem.W.findIn K (.ref C_NoLine) "__class__" = some (some (.builtin "object.__class__")))
    (cm_NoLine : PySem.W.mroIn K C_NoLine (.type "object") = some true)
    (cf_NoLine : PySem.W.subIn K (.ref C_NoLine) (.ref C_FolkError) = some true)
    (cp_NoLine_NoFit : PySem.W.subIn K (.ref C_NoLine) (.ref C_NoFit) = some false)
    (cp_NoLine_NoFolk : PySem.W.subIn K (.ref C_NoLine) (.ref C_NoFolk) = some false)
    (cp_NoLine_NoLine : PySem.W.subIn K (.ref C_NoLine) (.ref C_NoLine) = some true)
    (cp_NoLine_NoNumber : PySem.W.subIn K (.ref C_NoLine) (.ref C_NoNumber) = some false)
    (cp_NoLine_NoWeights : PySem.W.subIn K (.ref C_NoLine) (.ref C_NoWeights) = some false)
    (cx_NoNumber : PySem.W.excIn K C_NoNumber [.type "ValueError", .type "Exception", .type "BaseException", .type "object"] "ValueError.__new__" = true)
    (ck_NoNumber : PySem.W.keepIn K (.ref C_NoNumber) = true)
    (cv_NoNumber : PySem.W.subIn K (.ref C_NoNumber) (.type "ValueError") = some true)
    (cg_NoNumber : PySem.W.findIn K (.ref C_NoNumber) "__getattribute__" = some (some (.builtin "BaseException.__getattribute__")))
    (ch_NoNumber : PySem.W.findIn K (.ref C_NoNumber) "__getattr__" = some none)
    (cc_NoNumber : PySem.W.findIn K (.ref C_NoNumber) "__class__" = some (some (.builtin "object.__class__")))
    (cm_NoNumber : PySem.W.mroIn K C_NoNumber (.type "object") = some true)
    (cf_NoNumber : PySem.W.subIn K (.ref C_NoNumber) (.ref C_FolkError) = some true)
    (cp_NoNumber_NoFit : PySem.W.subIn K (.ref C_NoNumber) (.ref C_NoFit) = some false)
    (cp_NoNumber_NoFolk : PySem.W.subIn K (.ref C_NoNumber) (.ref C_NoFolk) = some false)
    (cp_NoNumber_NoLine : PySem.W.subIn K (.ref C_NoNumber) (.ref C_NoLine) = some false)
    (cp_NoNumber_NoNumber : PySem.W.subIn K (.ref C_NoNumber) (.ref C_NoNumber) = some true)
    (cp_NoNumber_NoWeights : PySem.W.subIn K (.ref C_NoNumber) (.ref C_NoWeights) = some false)
    (cx_NoWeights : PySem.W.excIn K C_NoWeights [.type "ValueError", .type "Exception", .type "BaseException", .type "object"] "ValueError.__new__" = true)
    (ck_NoWeights : PySem.W.keepIn K (.ref C_NoWeights) = true)
    (cv_NoWeights : PySem.W.subIn K (.ref C_NoWeights) (.type "ValueError") = some true)
    (cg_NoWeights : PySem.W.findIn K (.ref C_NoWeights) "__getattribute__" = some (some (.builtin "BaseException.__getattribute__")))
    (ch_NoWeights : PySem.W.findIn K (.ref C_NoWeights) "__getattr__" = some none)
    (cc_NoWeights : PySem.W.findIn K (.ref C_NoWeights) "__class__" = some (some (.builtin "object.__class__")))
    (cm_NoWeights : PySem.W.mroIn K C_NoWeights (.type "object") = some true)
    (cf_NoWeights : PySem.W.subIn K (.ref C_NoWeights) (.ref C_FolkError) = some true)
    (cp_NoWeights_NoFit : PySem.W.subIn K (.ref C_NoWeights) (.ref C_NoFit) = some false)
    (cp_NoWeights_NoFolk : PySem.W.subIn K (.ref C_NoWeights) (.ref C_NoFolk) = some false)
    (cp_NoWeights_NoLine : PySem.W.subIn K (.ref C_NoWeights) (.ref C_NoLine) = some false)
    (cp_NoWeights_NoNumber : PySem.W.subIn K (.ref C_NoWeights) (.ref C_NoNumber) = some false)
    (cp_NoWeights_NoWeights : PySem.W.subIn K (.ref C_NoWeights) (.ref C_NoWeights) = some true)
    (c0_s : PySem.W.specialIn K (.builtin "object.__class__") "__get__" = some (some (.builtin "getset_descriptor.__get__")))
    (c0_t : PySem.W.takesIn K (.builtin "object.__class__") = some true) :
    LawC P w K mg 9 fa "_law_script" h := by
  have E_NoFit : ExF K mg "NoFit" := ex_mk X G ca_NoFit cx_NoFit ck_NoFit cb_NoFit ct_NoFit cv_NoFit cd_NoFit cg_NoFit ch_NoFit cc_NoFit cm_NoFit c0_s c0_t
  have E_NoFolk : ExF K mg "NoFolk" := ex_mk X G ca_NoFolk cx_NoFolk ck_NoFolk cb_NoFolk ct_NoFolk cv_NoFolk cd_NoFolk cg_NoFolk ch_NoFolk cc_NoFolk cm_NoFolk c0_s c0_t
  have E_NoLine : ExF K mg "NoLine" := ex_mk X G ca_NoLine cx_NoLine ck_NoLine cb_NoLine ct_NoLine cv_NoLine cd_NoLine cg_NoLine ch_NoLine cc_NoLine cm_NoLine c0_s c0_t
  have E_NoNumber : ExF K mg "NoNumber" := ex_mk X G ca_NoNumber cx_NoNumber ck_NoNumber cb_NoNumber ct_NoNumber cv_NoNumber cd_NoNumber cg_NoNumber ch_NoNumber cc_NoNumber cm_NoNumber c0_s c0_t
  have E_NoWeights : ExF K mg "NoWeights" := ex_mk X G ca_NoWeights cx_NoWeights ck_NoWeights cb_NoWeights ct_NoWeights cv_NoWeights cd_NoWeights cg_NoWeights ch_NoWeights cc_NoWeights cm_NoWeights c0_s c0_t
  have T : Txt K mg :=
    { b_isinstance := PySem.W.mg_none_of X G z_isinstance
      b_int := PySem.W.mg_none_of X G z_int
      b_bool := PySem.W.mg_none_of X G z_bool
      b_len := PySem.W.mg_none_of X G z_len
      b_list := PySem.W.mg_none_of X G z_list
      b_all := PySem.W.mg_none_of X G z_all
      b_set := PySem.W.mg_none_of X G z_set
      b_sorted := PySem.W.mg_none_of X G z_sorted
      b_min := PySem.W.mg_none_of X G z_min
      b_max := PySem.W.mg_none_of X G z_max
      b_enumerate := PySem.W.mg_none_of X G z_enumerate
      b_zip := PySem.W.mg_none_of X G z_zip
      b_range := PySem.W.mg_none_of X G z_range
      b_tuple := PySem.W.mg_none_of X G z_tuple
      c_MOST_NAMES := ⟨_, PySem.W.mg_of X G g_MOST_NAMES⟩
      c_MOST_HANDS := ⟨_, PySem.W.mg_of X G g_MOST_HANDS⟩
      exc := ⟨by intro n hn; simp only [List.mem_cons, List.not_mem_nil, or_false] at hn; rcases hn with rfl | rfl | rfl | rfl | rfl; exact E_NoFit; exact E_NoFolk; exact E_NoLine; exact E_NoNumber; exact E_NoWeights, by intro n hn; simp only [List.mem_cons, List.not_mem_nil, or_false] at hn; rcases hn with rfl | rfl | rfl | rfl | rfl; exact top_mk ca_NoFit ca_FolkError cb_FolkError cd_FolkError ct_FolkError cf_NoFit; exact top_mk ca_NoFolk ca_FolkError cb_FolkError cd_FolkError ct_FolkError cf_NoFolk; exact top_mk ca_NoLine ca_FolkError cb_FolkError cd_FolkError ct_FolkError cf_NoLine; exact top_mk ca_NoNumber ca_FolkError cb_FolkError cd_FolkError ct_FolkError cf_NoNumber; exact top_mk ca_NoWeights ca_FolkError cb_FolkError cd_FolkError ct_FolkError cf_NoWeights, by intro n hn; simp only [List.mem_cons, List.not_mem_nil, or_false] at hn; rcases hn with rfl | rfl | rfl | rfl | rfl; (intro m hm; simp only [List.mem_cons, List.not_mem_nil, or_false] at hm; rcases hm with rfl | rfl | rfl | rfl | rfl; exact two_eq; exact two_mk ca_NoFit ca_NoFolk cp_NoFit_NoFolk cp_NoFit_NoFit cd_NoFolk ct_NoFolk (by decide); exact two_mk ca_NoFit ca_NoLine cp_NoFit_NoLine cp_NoFit_NoFit cd_NoLine ct_NoLine (by decide); exact two_mk ca_NoFit ca_NoNumber cp_NoFit_NoNumber cp_NoFit_NoFit cd_NoNumber ct_NoNumber (by decide); exact two_mk ca_NoFit ca_NoWeights cp_NoFit_NoWeights cp_NoFit_NoFit cd_NoWeights ct_NoWeights (by decide)); (intro m hm; simp only [List.mem_cons, List.not_mem_nil, or_false] at hm; rcases hm with rfl | rfl | rfl | rfl | rfl; exact two_mk ca_NoFolk ca_NoFit cp_NoFolk_NoFit cp_NoFolk_NoFolk cd_NoFit ct_NoFit (by decide); exact two_eq; exact two_mk ca_NoFolk ca_NoLine cp_NoFolk_NoLine cp_NoFolk_NoFolk cd_NoLine ct_NoLine (by decide); exact two_mk ca_NoFolk ca_NoNumber cp_NoFolk_NoNumber cp_NoFolk_NoFolk cd_NoNumber ct_NoNumber (by decide); exact two_mk ca_NoFolk ca_NoWeights cp_NoFolk_NoWeights cp_NoFolk_NoFolk cd_NoWeights ct_NoWeights (by decide)); (intro m hm; simp only [List.mem_cons, List.not_mem_nil, or_false] at hm; rcases hm with rfl | rfl | rfl | rfl | rfl; exact two_mk ca_NoLine ca_NoFit cp_NoLine_NoFit cp_NoLine_NoLine cd_NoFit ct_NoFit (by decide); exact two_mk ca_NoLine ca_NoFolk cp_NoLine_NoFolk cp_NoLine_NoLine cd_NoFolk ct_NoFolk (by decide); exact two_eq; exact two_mk ca_NoLine ca_NoNumber cp_NoLine_NoNumber cp_NoLine_NoLine cd_NoNumber ct_NoNumber (by decide); exact two_mk ca_NoLine ca_NoWeights cp_NoLine_NoWeights cp_NoLine_NoLine cd_NoWeights ct_NoWeights (by decide)); (intro m hm; simp only [List.mem_cons, List.not_mem_nil, or_false] at hm; rcases hm with rfl | rfl | rfl | rfl | rfl; exact two_mk ca_NoNumber ca_NoFit cp_NoNumber_NoFit cp_NoNumber_NoNumber cd_NoFit ct_NoFit (by decide); exact two_mk ca_NoNumber ca_NoFolk cp_NoNumber_NoFolk cp_NoNumber_NoNumber cd_NoFolk ct_NoFolk (by decide); exact two_mk ca_NoNumber ca_NoLine cp_NoNumber_NoLine cp_NoNumber_NoNumber cd_NoLine ct_NoLine (by decide); exact two_eq; exact two_mk ca_NoNumber ca_NoWeights cp_NoNumber_NoWeights cp_NoNumber_NoNumber cd_NoWeights ct_NoWeights (by decide)); (intro m hm; simp only [List.mem_cons, List.not_mem_nil, or_false] at hm; rcases hm with rfl | rfl | rfl | rfl | rfl; exact two_mk ca_NoWeights ca_NoFit cp_NoWeights_NoFit cp_NoWeights_NoWeights cd_NoFit ct_NoFit (by decide); exact two_mk ca_NoWeights ca_NoFolk cp_NoWeights_NoFolk cp_NoWeights_NoWeights cd_NoFolk ct_NoFolk (by decide); exact two_mk ca_NoWeights ca_NoLine cp_NoWeights_NoLine cp_NoWeights_NoWeights cd_NoLine ct_NoLine (by decide); exact two_mk ca_NoWeights ca_NoNumber cp_NoWeights_NoNumber cp_NoWeights_NoWeights cd_NoNumber ct_NoNumber (by decide); exact two_eq), mgF_mk X G ca_FolkError⟩
      d_is_number := wr_mk X G a_is_number l_is_number c_is_number k_is_number fun _ _ _ _ _ _ us hl => match us, hl with | [_], _ => rfl
      d_are_unlike_names := wr_mk X G a_are_unlike_names l_are_unlike_names c_are_unlike_names k_are_unlike_names fun _ _ _ _ _ _ us hl => match us, hl with | [_], _ => rfl
      d_is_ranking := wr_mk X G a_is_ranking l_is_ranking c_is_ranking k_is_ranking fun _ _ _ _ _ _ us hl => match us, hl with | [_], _ => rfl
      d_is_folk := wr_mk X G a_is_folk l_is_folk c_is_folk k_is_folk fun _ _ _ _ _ _ us hl => match us, hl with | [_], _ => rfl
      d_must_be_folk := wr_mk X G a_must_be_folk l_must_be_folk c_must_be_folk k_must_be_folk fun _ _ _ _ _ _ us hl => match us, hl with | [_], _ => rfl
      d_is_line := wr_mk X G a_is_line l_is_line c_is_line k_is_line fun _ _ _ _ _ _ us hl => match us, hl with | [_], _ => rfl
      d_must_be_line := wr_mk X G a_must_be_line l_must_be_line c_must_be_line k_must_be_line fun _ _ _ _ _ _ us hl => match us, hl with | [_], _ => rfl
      d_does_fall := wr_mk X G a_does_fall l_does_fall c_does_fall k_does_fall fun _ _ _ _ _ _ us hl => match us, hl with | [_, _], _ => rfl
      d_must_be_weighed := wr_mk X G a_must_be_weighed l_must_be_weighed c_must_be_weighed k_must_be_weighed fun _ _ _ _ _ _ us hl => match us, hl with | [_, _], _ => rfl
      d_must_fall := wr_mk X G a_must_fall l_must_fall c_must_fall k_must_fall fun _ _ _ _ _ _ us hl => match us, hl with | [_, _], _ => rfl
      d_paid := wr_mk X G a_paid l_paid c_paid k_paid fun _ _ _ _ _ _ us hl => match us, hl with | [_, _, _], _ => rfl
      d_gain := wr_mk X G a_gain l_gain c_gain k_gain fun _ _ _ _ _ _ us hl => match us, hl with | [_, _, _, _], _ => rfl
      d_bounds := wr_mk X G a_bounds l_bounds c_bounds k_bounds fun _ _ _ _ _ _ us hl => match us, hl with | [_, _, _, _, _, _], _ => rfl
      d_filled := wr_mk X G a_filled l_filled c_filled k_filled fun _ _ _ _ _ _ us hl => match us, hl with | [_, _, _, _], _ => rfl
      d_must_be_asked := wr_mk X G a_must_be_asked l_must_be_asked c_must_be_asked k_must_be_asked fun _ _ _ _ _ _ us hl => match us, hl with | [_, _, _, _], _ => rfl
      d_last_of := wr_mk X G a_last_of l_last_of c_last_of k_last_of fun _ _ _ _ _ _ us hl => match us, hl with | [_], _ => rfl
      d_few := wr_mk X G a_few l_few c_few k_few fun _ _ _ _ _ _ us hl => match us, hl with | [_, _, _, _], _ => rfl
      d_are_along := wr_mk X G a_are_along l_are_along c_are_along k_are_along fun _ _ _ _ _ _ us hl => match us, hl with | [_, _, _], _ => rfl
      d_is_row := wr_mk X G a_is_row l_is_row c_is_row k_is_row fun _ _ _ _ _ _ us hl => match us, hl with | [_, _, _], _ => rfl
      d_is_table := wr_mk X G a_is_table l_is_table c_is_table k_is_table fun _ _ _ _ _ _ us hl => match us, hl with | [_, _, _], _ => rfl
      d_table_wrong := wr_mk X G a_table_wrong l_table_wrong c_table_wrong k_table_wrong fun _ _ _ _ _ _ us hl => match us, hl with | [_, _, _, _, _], _ => rfl
      d_few_judged := wr_mk X G a_few_judged l_few_judged c_few_judged k_few_judged fun _ _ _ _ _ _ us hl => match us, hl with | [_, _, _, _, _], _ => rfl
      d__law_whole := wr_mk X G a__law_whole l__law_whole c__law_whole k__law_whole fun _ _ _ _ _ _ us hl => match us, hl with | [_], _ => rfl
      d__law_draws := wr_mk X G a__law_draws l__law_draws c__law_draws k__law_draws fun _ _ _ _ _ _ us hl => match us, hl with | [_, _, _], _ => rfl
      d__law_names := wr_mk X G a__law_names l__law_names c__law_names k__law_names fun _ _ _ _ _ _ us hl => match us, hl with | [_], _ => rfl
      d__law_shuffled := wr_mk X G a__law_shuffled l__law_shuffled c__law_shuffled k__law_shuffled fun _ _ _ _ _ _ us hl => match us, hl with | [_, _], _ => rfl
      d__law_fallen := wr_mk X G a__law_fallen l__law_fallen c__law_fallen k__law_fallen fun _ _ _ _ _ _ us hl => match us, hl with | [_, _], _ => rfl
      d__law_line := wr_mk X G a__law_line l__law_line c__law_line k__law_line fun _ _ _ _ _ _ us hl => match us, hl with | [_, _, _], _ => rfl
      d__law_folk := wr_mk X G a__law_folk l__law_folk c__law_folk k__law_folk fun _ _ _ _ _ _ us hl => match us, hl with | [_, _, _, _, _], _ => rfl
      d__law_weights := wr_mk X G a__law_weights l__law_weights c__law_weights k__law_weights fun _ _ _ _ _ _ us hl => match us, hl with | [_, _, _], _ => rfl
      d__law_are_names := wr_mk X G a__law_are_names l__law_are_names c__law_are_names k__law_are_names fun _ _ _ _ _ _ us hl => match us, hl with | [_, _], _ => rfl
      d__law_cost := wr_mk X G a__law_cost l__law_cost c__law_cost k__law_cost fun _ _ _ _ _ _ us hl => match us, hl with | [_, _, _], _ => rfl
      d__law_gain := wr_mk X G a__law_gain l__law_gain c__law_gain k__law_gain fun _ _ _ _ _ _ us hl => match us, hl with | [_, _, _, _], _ => rfl
      d__law_bounds := wr_mk X G a__law_bounds l__law_bounds c__law_bounds k__law_bounds fun _ _ _ _ _ _ us hl => match us, hl with | [_, _, _, _], _ => rfl
      d__law_is_few_table := wr_mk X G a__law_is_few_table l__law_is_few_table c__law_is_few_table k__law_is_few_table fun _ _ _ _ _ _ us hl => match us, hl with | [_, _, _], _ => rfl
      d__law_few_wrong := wr_mk X G a__law_few_wrong l__law_few_wrong c__law_few_wrong k__law_few_wrong fun _ _ _ _ _ _ us hl => match us, hl with | [_, _, _], _ => rfl
      d__law_copied := wr_mk X G a__law_copied l__law_copied c__law_copied k__law_copied fun _ _ _ _ _ _ us hl => match us, hl with | [_], _ => rfl
      d__law_bent_table := wr_mk X G a__law_bent_table l__law_bent_table c__law_bent_table k__law_bent_table fun _ _ _ _ _ _ us hl => match us, hl with | [_, _], _ => rfl
      d__law_bent := wr_mk X G a__law_bent l__law_bent c__law_bent k__law_bent fun _ _ _ _ _ _ us hl => match us, hl with | [_, _, _], _ => rfl }
  have e := hfa.symm.trans (PySem.W.mg_of X G a_law)
  cases e
  have D__law_bent_names := wrc_mk (st := top 52) (ps := ["_law_names_here", "_law_line_here", "_law_number"]) X G a__law_bent_names l__law_bent_names c__law_bent_names k__law_bent_names fun _ _ _ _ _ _ us hl => match us, hl with | [_, _, _], _ => rfl
  have tb__law_bent_names := PySem.W.codeHd_of_K X ti__law_bent_names
  refine ⟨[(cc__law_bent_names, PP__law_bent_names)], PySem.W.fnOf "law" "law" (defArgs (top 55)) (defBody (top 55)) (defScope (top 55)) .none kV_law dc_law pm_law an_law cd_law ct_law, ?_, ?_, fun s v => .of_eq rfl, fun base _ _ TBs => ?_⟩
  · intro p hp
    rw [List.mem_singleton.mp hp]
    exact ⟨TT _ tm__law_bent_names, tn__law_bent_names, tb__law_bent_names⟩
  · intro p hp
    rw [tA__law_bent_names] at hp
    rw [List.mem_singleton.mp hp]
    exact ⟨cc__law_bent_names, List.mem_singleton.mpr rfl⟩
  let cl : String → Addr := clOf K
  have q_is_number := w_is_number (P := P) (w := w) (base := base) T   
  have q_are_unlike_names := w_are_unlike_names (P := P) (w := w) (base := base) T q_is_number  
  have q_is_ranking := w_is_ranking (P := P) (w := w) (base := base) T q_are_unlike_names  
  have q_is_folk := w_is_folk (P := P) (w := w) (base := base) T q_is_ranking  
  have q_must_be_folk := w_must_be_folk (P := P) (w := w) (base := base) T q_is_folk  
  have q_is_line := w_is_line (P := P) (w := w) (base := base) T q_is_ranking  
  have q_must_be_line := w_must_be_line (P := P) (w := w) (base := base) T q_is_line  
  have q_does_fall := w_does_fall (P := P) (w := w) (base := base) T   
  have q_must_be_weighed := w_must_be_weighed (P := P) (w := w) (base := base) T q_is_number q_must_be_folk  
  have q_must_fall := w_must_fall (P := P) (w := w) (base := base) T q_must_be_line q_does_fall  
  have q_paid := w_paid (P := P) (w := w) (base := base) T   
  have q_gain := w_gain (P := P) (w := w) (base := base) T   
  have q_bounds := w_bounds (P := P) (w := w) (base := base) T q_paid q_gain  
  have q_filled := w_filled (P := P) (w := w) (base := base) T q_bounds  
  have q_must_be_asked := w_must_be_asked (P := P) (w := w) (base := base) T q_must_be_weighed q_must_fall  
  have q_last_of := w_last_of (P := P) (w := w) (base := base) T   
  have q_few := w_few (P := P) (w := w) (base := base) T q_bounds q_filled q_must_be_asked q_last_of  
  have q_are_along := w_are_along (P := P) (w := w) (base := base) T q_are_unlike_names  
  have q_is_row := w_is_row (P := P) (w := w) (base := base) T q_is_number  
  have q_is_table := w_is_table (P := P) (w := w) (base := base) T q_is_row  
  have q_table_wrong := w_table_wrong (P := P) (w := w) (base := base) T q_bounds  
  have q_few_judged := w_few_judged (P := P) (w := w) (base := base) T q_is_number q_paid q_must_be_asked q_are_along q_is_table q_table_wrong  
  have q__law_whole := w__law_whole (P := P) (w := w) (base := base) T   
  have q__law_draws := w__law_draws (P := P) (w := w) (base := base) T   
  have q__law_names := w__law_names (P := P) (w := w) (base := base) T   
  have q__law_shuffled := w__law_shuffled (P := P) (w := w) (base := base) T   
  have q__law_fallen := w__law_fallen (P := P) (w := w) (base := base) T   
  have q__law_line := w__law_line (P := P) (w := w) (base := base) T q__law_draws q__law_names q__law_shuffled  
  have q__law_folk := w__law_folk (P := P) (w := w) (base := base) T q__law_draws q__law_shuffled q__law_fallen  
  have q__law_weights := w__law_weights (P := P) (w := w) (base := base) T q__law_draws  
  have q__law_are_names := w__law_are_names (P := P) (w := w) (base := base) T q__law_whole  
  have q__law_cost := w__law_cost (P := P) (w := w) (base := base) T   
  have q__law_gain := w__law_gain (P := P) (w := w) (base := base) T   
  have q__law_bounds := w__law_bounds (P := P) (w := w) (base := base) T q__law_cost q__law_gain  
  have q__law_is_few_table := w__law_is_few_table (P := P) (w := w) (base := base) T q__law_whole  
  have q__law_few_wrong := w__law_few_wrong (P := P) (w := w) (base := base) T q__law_whole q__law_are_names q__law_cost q__law_bounds q__law_is_few_table  
  have q__law_copied := w__law_copied (P := P) (w := w) (base := base) T    6
  have q__law_bent_names := w__law_bent_names (P := P) (w := w) (base := base) T  D__law_bent_names (TBs (cc__law_bent_names, PP__law_bent_names) (List.mem_singleton.mpr rfl)) (by rw [tA__law_bent_names]; exact List.mem_singleton.mpr rfl) (by intro p hp _; rw [tA__law_bent_names] at hp; rw [List.mem_singleton.mp hp])  
  have q__law_bent_table := w__law_bent_table (P := P) (w := w) (base := base) T   
  have q__law_bent := w__law_bent (P := P) (w := w) (base := base) T q__law_cost q__law_bent_names q__law_bent_table  
  exact w_law (P := P) (w := w) (base := base) T law_k61_ok q_few q_few_judged q__law_draws q__law_line q__law_folk q__law_weights q__law_few_wrong q__law_copied q__law_bent   (fun_mk l_law c_law k_law)
end K61
end DL
open PySem PySem.W PyProof.Rows in
set_option maxRecDepth 100000 in
set_option maxHeartbeats 0 in
theorem PySem.Challenge.cw_ontheline_k61_few_names_judged_holds : PySem.Challenge.rw_ontheline_k61_few_names_judged.Holds := by
  w_on; o_law; k_head; (case hw => w_witness2)
  k_fill
  refine DL.walkT (l := PySem.Challenge.rw_ontheline_k61_few_names_judged) (k := 9) (x := "_law_script") rfl rfl ⟨rfl, by decide, by decide⟩ (fun w h Y => PySem.W.km_in_of Y) (fun w h Y => PySem.W.km_tabs_of Y) ?F
  case F =>
    intro w mg fa h KX G TT hmg
    refine' DL.K61.all_mk KX G TT hmg ?a_is_number ?l_is_number ?c_is_number ?k_is_number ?a_are_unlike_names ?l_are_unlike_names ?c_are_unlike_names ?k_are_unlike_names ?a_is_ranking ?l_is_ranking ?c_is_ranking ?k_is_ranking ?a_is_folk ?l_is_folk ?c_is_folk ?k_is_folk ?a_must_be_folk ?l_must_be_folk ?c_must_be_folk ?k_must_be_folk ?a_is_line ?l_is_line ?c_is_line ?k_is_line ?a_must_be_line ?l_must_be_line ?c_must_be_line ?k_must_be_line ?a_does_fall ?l_does_fall ?c_does_fall ?k_does_fall ?a_must_be_weighed ?l_must_be_weighed ?c_must_be_weighed ?k_must_be_weighed ?a_must_fall ?l_must_fall ?c_must_fall ?k_must_fall ?a_paid ?l_paid ?c_paid ?k_paid ?a_gain ?l_gain ?c_gain ?k_gain ?a_bounds ?l_bounds ?c_bounds ?k_bounds ?a_filled ?l_filled ?c_filled ?k_filled ?a_must_be_asked ?l_must_be_asked ?c_must_be_asked ?k_must_be_asked ?a_last_of ?l_last_of ?c_last_of ?k_last_of ?a_few ?l_few ?c_few ?k_few ?a_are_along ?l_are_along ?c_are_along ?k_are_along ?a_is_row ?l_is_row ?c_is_row ?k_is_row ?a_is_table ?l_is_table ?c_is_table ?k_is_table ?a_table_wrong ?l_table_wrong ?c_table_wrong ?k_table_wrong ?a_few_judged ?l_few_judged ?c_few_judged ?k_few_judged ?a__law_whole ?l__law_whole ?c__law_whole ?k__law_whole ?a__law_draws ?l__law_draws ?c__law_draws ?k__law_draws ?a__law_names ?l__law_names ?c__law_names ?k__law_names ?a__law_shuffled ?l__law_shuffled ?c__law_shuffled ?k__law_shuffled ?a__law_fallen ?l__law_fallen ?c__law_fallen ?k__law_fallen ?a__law_line ?l__law_line ?c__law_line ?k__law_line ?a__law_folk ?l__law_folk ?c__law_folk ?k__law_folk ?a__law_weights ?l__law_weights ?c__law_weights ?k__law_weights ?a__law_are_names ?l__law_are_names ?c__law_are_names ?k__law_are_names ?a__law_cost ?l__law_cost ?c__law_cost ?k__law_cost ?a__law_gain ?l__law_gain ?c__law_gain ?k__law_gain ?a__law_bounds ?l__law_bounds ?c__law_bounds ?k__law_bounds ?a__law_is_few_table ?l__law_is_few_table ?c__law_is_few_table ?k__law_is_few_table ?a__law_few_wrong ?l__law_few_wrong ?c__law_few_wrong ?k__law_few_wrong ?a__law_copied ?l__law_copied ?c__law_copied ?k__law_copied ?a__law_bent_names ?l__law_bent_names ?c__law_bent_names ?k__law_bent_names ?tA__law_bent_names ?ti__law_bent_names ?tn__law_bent_names ?tm__law_bent_names ?a__law_bent_table ?l__law_bent_table ?c__law_bent_table ?k__law_bent_table ?a__law_bent ?l__law_bent ?c__law_bent ?k__law_bent ?a_law ?l_law ?c_law ?k_law ?z_isinstance ?z_int ?z_bool ?z_len ?z_list ?z_all ?z_set ?z_sorted ?z_min ?z_max ?z_enumerate ?z_zip ?z_range ?z_tuple ?g_MOST_NAMES ?g_MOST_HANDS ?ca_NoFit ?cb_NoFit ?ct_NoFit ?cd_NoFit ?ca_NoFolk ?cb_NoFolk ?ct_NoFolk ?cd_NoFolk ?ca_NoLine ?cb_NoLine ?ct_NoLine ?cd_NoLine ?ca_NoNumber ?cb_NoNumber ?ct_NoNumber ?cd_NoNumber ?ca_NoWeights ?cb_NoWeights ?ct_NoWeights ?cd_NoWeights ?ca_FolkError ?cb_FolkError ?ct_FolkError ?cd_FolkError ?cx_NoFit ?ck_NoFit ?cv_NoFit ?cg_NoFit ?ch_NoFit ?cc_NoFit ?cm_NoFit ?cf_NoFit ?cp_NoFit_NoFit ?cp_NoFit_NoFolk ?cp_NoFit_NoLine ?cp_NoFit_NoNumber ?cp_NoFit_NoWeights ?cx_NoFolk ?ck_NoFolk ?cv_NoFolk ?cg_NoFolk ?ch_NoFolk ?cc_NoFolk ?cm_NoFolk ?cf_NoFolk ?cp_NoFolk_NoFit ?cp_NoFolk_NoFolk ?cp_NoFolk_NoLine ?cp_NoFolk_NoNumber ?cp_NoFolk_NoWeights ?cx_NoLine ?ck_NoLine ?cv_NoLine ?cg_NoLine ?ch_NoLine ?cc_NoLine ?cm_NoLine ?cf_NoLine ?cp_NoLine_NoFit ?cp_NoLine_NoFolk ?cp_NoLine_NoLine ?cp_NoLine_NoNumber ?cp_NoLine_NoWeights ?cx_NoNumber ?ck_NoNumber ?cv_NoNumber ?cg_NoNumber ?ch_NoNumber ?cc_NoNumber ?cm_NoNumber ?cf_NoNumber ?cp_NoNumber_NoFit ?cp_NoNumber_NoFolk ?cp_NoNumber_NoLine ?cp_NoNumber_NoNumber ?cp_NoNumber_NoWeights ?cx_NoWeights ?ck_NoWeights ?cv_NoWeights ?cg_NoWeights ?ch_NoWeights ?cc_NoWeights ?cm_NoWeights ?cf_NoWeights ?cp_NoWeights_NoFit ?cp_NoWeights_NoFolk ?cp_NoWeights_NoLine ?cp_NoWeights_NoNumber ?cp_NoWeights_NoWeights ?c0_s ?c0_t
    (case a_is_number => k_is)
    (case l_is_number => k_is)
    (case c_is_number => k_is)
    (case k_is_number => k_is)
    (case a_are_unlike_names => k_is)
    (case l_are_unlike_names => k_is)
    (case c_are_unlike_names => k_is)
    (case k_are_unlike_names => k_is)
    (case a_is_ranking => k_is)
    (case l_is_ranking => k_is)
    (case c_is_ranking => k_is)
    (case k_is_ranking => k_is)
    (case a_is_folk => k_is)
    (case l_is_folk => k_is)
    (case c_is_folk => k_is)
    (case k_is_folk => k_is)
    (case a_must_be_folk => k_is)
    (case l_must_be_folk => k_is)
    (case c_must_be_folk => k_is)
    (case k_must_be_folk => k_is)
    (case a_is_line => k_is)
    (case l_is_line => k_is)
    (case c_is_line => k_is)
    (case k_is_line => k_is)
    (case a_must_be_line => k_is)
    (case l_must_be_line => k_is)
    (case c_must_be_line => k_is)
    (case k_must_be_line => k_is)
    (case a_does_fall => k_is)
    (case l_does_fall => k_is)
    (case c_does_fall => k_is)
    (case k_does_fall => k_is)
    (case a_must_be_weighed => k_is)
    (case l_must_be_weighed => k_is)
    (case c_must_be_weighed => k_is)
    (case k_must_be_weighed => k_is)
    (case a_must_fall => k_is)
    (case l_must_fall => k_is)
    (case c_must_fall => k_is)
    (case k_must_fall => k_is)
    (case a_paid => k_is)
    (case l_paid => k_is)
    (case c_paid => k_is)
    (case k_paid => k_is)
    (case a_gain => k_is)
    (case l_gain => k_is)
    (case c_gain => k_is)
    (case k_gain => k_is)
    (case a_bounds => k_is)
    (case l_bounds => k_is)
    (case c_bounds => k_is)
    (case k_bounds => k_is)
    (case a_filled => k_is)
    (case l_filled => k_is)
    (case c_filled => k_is)
    (case k_filled => k_is)
    (case a_must_be_asked => k_is)
    (case l_must_be_asked => k_is)
    (case c_must_be_asked => k_is)
    (case k_must_be_asked => k_is)
    (case a_last_of => k_is)
    (case l_last_of => k_is)
    (case c_last_of => k_is)
    (case k_last_of => k_is)
    (case a_few => k_is)
    (case l_few => k_is)
    (case c_few => k_is)
    (case k_few => k_is)
    (case a_are_along => k_is)
    (case l_are_along => k_is)
    (case c_are_along => k_is)
    (case k_are_along => k_is)
    (case a_is_row => k_is)
    (case l_is_row => k_is)
    (case c_is_row => k_is)
    (case k_is_row => k_is)
    (case a_is_table => k_is)
    (case l_is_table => k_is)
    (case c_is_table => k_is)
    (case k_is_table => k_is)
    (case a_table_wrong => k_is)
    (case l_table_wrong => k_is)
    (case c_table_wrong => k_is)
    (case k_table_wrong => k_is)
    (case a_few_judged => k_is)
    (case l_few_judged => k_is)
    (case c_few_judged => k_is)
    (case k_few_judged => k_is)
    (case a__law_whole => k_is)
    (case l__law_whole => k_is)
    (case c__law_whole => k_is)
    (case k__law_whole => k_is)
    (case a__law_draws => k_is)
    (case l__law_draws => k_is)
    (case c__law_draws => k_is)
    (case k__law_draws => k_is)
    (case a__law_names => k_is)
    (case l__law_names => k_is)
    (case c__law_names => k_is)
    (case k__law_names => k_is)
    (case a__law_shuffled => k_is)
    (case l__law_shuffled => k_is)
    (case c__law_shuffled => k_is)
    (case k__law_shuffled => k_is)
    (case a__law_fallen => k_is)
    (case l__law_fallen => k_is)
    (case c__law_fallen => k_is)
    (case k__law_fallen => k_is)
    (case a__law_line => k_is)
    (case l__law_line => k_is)
    (case c__law_line => k_is)
    (case k__law_line => k_is)
    (case a__law_folk => k_is)
    (case l__law_folk => k_is)
    (case c__law_folk => k_is)
    (case k__law_folk => k_is)
    (case a__law_weights => k_is)
    (case l__law_weights => k_is)
    (case c__law_weights => k_is)
    (case k__law_weights => k_is)
    (case a__law_are_names => k_is)
    (case l__law_are_names => k_is)
    (case c__law_are_names => k_is)
    (case k__law_are_names => k_is)
    (case a__law_cost => k_is)
    (case l__law_cost => k_is)
    (case c__law_cost => k_is)
    (case k__law_cost => k_is)
    (case a__law_gain => k_is)
    (case l__law_gain => k_is)
    (case c__law_gain => k_is)
    (case k__law_gain => k_is)
    (case a__law_bounds => k_is)
    (case l__law_bounds => k_is)
    (case c__law_bounds => k_is)
    (case k__law_bounds => k_is)
    (case a__law_is_few_table => k_is)
    (case l__law_is_few_table => k_is)
    (case c__law_is_few_table => k_is)
    (case k__law_is_few_table => k_is)
    (case a__law_few_wrong => k_is)
    (case l__law_few_wrong => k_is)
    (case c__law_few_wrong => k_is)
    (case k__law_few_wrong => k_is)
    (case a__law_copied => k_is)
    (case l__law_copied => k_is)
    (case c__law_copied => k_is)
    (case k__law_copied => k_is)
    (case a__law_bent_names => k_is)
    (case l__law_bent_names => k_is)
    (case c__law_bent_names => k_is)
    (case k__law_bent_names => k_is)
    (case tA__law_bent_names => (unfold DL.tabA; rfl))
    (case ti__law_bent_names => rfl)
    (case tn__law_bent_names => rfl)
    (case tm__law_bent_names => exact .head _)
    (case a__law_bent_table => k_is)
    (case l__law_bent_table => k_is)
    (case c__law_bent_table => k_is)
    (case k__law_bent_table => k_is)
    (case a__law_bent => k_is)
    (case l__law_bent => k_is)
    (case c__law_bent => k_is)
    (case k__law_bent => k_is)
    (case a_law => k_is)
    (case l_law => k_is)
    (case c_law => k_is)
    (case k_law => k_is)
    (case z_isinstance => k_is)
    (case z_int => k_is)
    (case z_bool => k_is)
    (case z_len => k_is)
    (case z_list => k_is)
    (case z_all => k_is)
    (case z_set => k_is)
    (case z_sorted => k_is)
    (case z_min => k_is)
    (case z_max => k_is)
    (case z_enumerate => k_is)
    (case z_zip => k_is)
    (case z_range => k_is)
    (case z_tuple => k_is)
    (case g_MOST_NAMES => k_is)
    (case g_MOST_HANDS => k_is)
    (case ca_NoFit => k_is)
    (case cb_NoFit => k_is)
    (case ct_NoFit => k_is)
    (case cd_NoFit => k_is)
    (case ca_NoFolk => k_is)
    (case cb_NoFolk => k_is)
    (case ct_NoFolk => k_is)
    (case cd_NoFolk => k_is)
    (case ca_NoLine => k_is)
    (case cb_NoLine => k_is)
    (case ct_NoLine => k_is)
    (case cd_NoLine => k_is)
    (case ca_NoNumber => k_is)
    (case cb_NoNumber => k_is)
    (case ct_NoNumber => k_is)
    (case cd_NoNumber => k_is)
    (case ca_NoWeights => k_is)
    (case cb_NoWeights => k_is)
    (case ct_NoWeights => k_is)
    (case cd_NoWeights => k_is)
    (case ca_FolkError => k_is)
    (case cb_FolkError => k_is)
    (case ct_FolkError => k_is)
    (case cd_FolkError => k_is)
    (case cx_NoFit => k_exc)
    (case ck_NoFit => k_is)
    (case cv_NoFit => k_is)
    (case cg_NoFit => k_is)
    (case ch_NoFit => k_is)
    (case cc_NoFit => k_is)
    (case cm_NoFit => k_is)
    (case cf_NoFit => k_is)
    (case cp_NoFit_NoFit => k_is)
    (case cp_NoFit_NoFolk => k_is)
    (case cp_NoFit_NoLine => k_is)
    (case cp_NoFit_NoNumber => k_is)
    (case cp_NoFit_NoWeights => k_is)
    (case cx_NoFolk => k_exc)
    (case ck_NoFolk => k_is)
    (case cv_NoFolk => k_is)
    (case cg_NoFolk => k_is)
    (case ch_NoFolk => k_is)
    (case cc_NoFolk => k_is)
    (case cm_NoFolk => k_is)
    (case cf_NoFolk => k_is)
    (case cp_NoFolk_NoFit => k_is)
    (case cp_NoFolk_NoFolk => k_is)
    (case cp_NoFolk_NoLine => k_is)
    (case cp_NoFolk_NoNumber => k_is)
    (case cp_NoFolk_NoWeights => k_is)
    (case cx_NoLine => k_exc)
    (case ck_NoLine => k_is)
    (case cv_NoLine => k_is)
    (case cg_NoLine => k_is)
    (case ch_NoLine => k_is)
    (case cc_NoLine => k_is)
    (case cm_NoLine => k_is)
    (case cf_NoLine => k_is)
    (case cp_NoLine_NoFit => k_is)
    (case cp_NoLine_NoFolk => k_is)
    (case cp_NoLine_NoLine => k_is)
    (case cp_NoLine_NoNumber => k_is)
    (case cp_NoLine_NoWeights => k_is)
    (case cx_NoNumber => k_exc)
    (case ck_NoNumber => k_is)
    (case cv_NoNumber => k_is)
    (case cg_NoNumber => k_is)
    (case ch_NoNumber => k_is)
    (case cc_NoNumber => k_is)
    (case cm_NoNumber => k_is)
    (case cf_NoNumber => k_is)
    (case cp_NoNumber_NoFit => k_is)
    (case cp_NoNumber_NoFolk => k_is)
    (case cp_NoNumber_NoLine => k_is)
    (case cp_NoNumber_NoNumber => k_is)
    (case cp_NoNumber_NoWeights => k_is)
    (case cx_NoWeights => k_exc)
    (case ck_NoWeights => k_is)
    (case cv_NoWeights => k_is)
    (case cg_NoWeights => k_is)
    (case ch_NoWeights => k_is)
    (case cc_NoWeights => k_is)
    (case cm_NoWeights => k_is)
    (case cf_NoWeights => k_is)
    (case cp_NoWeights_NoFit => k_is)
    (case cp_NoWeights_NoFolk => k_is)
    (case cp_NoWeights_NoLine => k_is)
    (case cp_NoWeights_NoNumber => k_is)
    (case cp_NoWeights_NoWeights => k_is)
    (case c0_s => k_is)
    (case c0_t => k_is)
